import PyProof.Rows.All
import Wide.All
import OpenK.AllK
import Wide.FinOn
import PySem.Challenge.RW_pq0048_01
open Array renaming length_toList->ux,getElem?_toList->qqP,toList_push->qx9
open Bool renaming and_eq_true->uv,false_ne_true->uB,false_eq_true->uX,not_eq_true'->vJ,and_false->qxB,or_eq_true->qxR,or_false->qxX
open Except.ok renaming inj->vl
open Exists renaming elim->uf
open Int renaming lt_of_le_of_lt->uD,le_trans->uP,mul_le_mul_of_nonneg_right->vf,add_le_add_left->vh,toNat_natCast->vk,natCast_nonneg->vn,lt_trans->vq,le_of_lt->vr,mul_le_mul_of_nonneg_left->vD,emod_lt_of_pos->vG,le_add_of_nonneg_right->vK,mul_nonneg->vR,emod_nonneg->vV,toNat_of_nonneg->vX,natAbs_lt_natAbs_of_nonneg_of_lt->qx0,le_of_eq->qxC
open List renaming lookup_cons->um,append_assoc->up,map_cons->ut,mem_cons_of_mem->uz,map_append->uA,mem_cons_self->uE,append_nil->uN,length_map->uQ,length_cons->uT,zip_cons_cons->uU,mem_cons->uY,size_toArray->ve,map_fst_zip->vo,reverse_cons->vw,nil_append->vx,nodup_cons->vC,mem_map->vM,forIn_cons->vN,lookup_append->vO,mem_append->vT,length_zip->vU,reverse_append->vW,mem_singleton->qq2,getElem?_eq_getElem->qqI,all_eq_true->qqJ,isEmpty_iff->qqM,getElem?_map->qzG,take_of_length_le->qx8,getElem?_eq_none->qxD,any_toArray->qxH,reverse_nil->qxI,cons_append->qxJ,find?_cons->qxM,filterMap_cons->qxS,length_append->qxU,map_nil->qxV,nodup_nil->qxW
open Nat renaming le_trans->ub,succ_le_succ->uh,le_add_left->uj,add_le_add_left->uk,add_le_add_right->uo,le_add_right->uq,le_refl->ur,ne_of_lt->uy,le_of_eq->uC,le_succ->uF,zero_le->uG,succ_pos->uH,lt_of_le_of_lt->uJ,add_right_comm->uK,le_succ_of_le->uM,le_of_succ_le->uO,le_max_right->uS,add_assoc->uV,le_max_left->uW,succ_add_eq_add_succ->uZ,lt_irrefl->vg,lt_trans->vj,lt_of_lt_of_le->vm,le_of_succ_le_succ->vp,le_of_lt_succ->vt,mul_le_mul_left->vy,lt_succ_self->vz,ne_of_gt->vA,add_le_add->vE,sub_add_cancel->vF,add_comm->vH,min_le_left->vI,pow_le_pow_right->vL,lt_succ_of_lt->vQ,le_of_add_right_le->qx7,not_lt->qxA,min_le_right->qxF,le_of_not_lt->qxG,not_succ_le_self->qxK,le_antisymm->qxL
open Option renaming isNone_iff_eq_none->vB,isSome_map->vP,map_some->vS,bind_eq_some_iff->qqQ,map_eq_some_iff->qqT
open Option.some renaming inj->ug
open Or renaming elim->ui
open PyProof.Rows renaming subscriptTail->qqW
open PyProof.Rows.F renaming plain_set_update_loop->qz5,entry_set_update_loop->qx1
open PySem renaming wpAny_bind->ua,wpAny_pure->ud,Value->qq0,Shared->qq1,wpAny->qq3,model->qq5,cellsFrom->qq6,Addr->qq7,wpAny_holding->qq8,Params->qq9,wpAny_newObj_type->qqA,wpAny_call_entry->qqD,wpAny_field->qqE,wpAny_standAt->qqF,Around->qqG,Heap->qqK,NameKind->qqL,starEach->qqO,mainGlobals->qqR,standAt->qqU,wpAny_mono->qqV,swapsWithSole->qqX,builtinLookup_eq_fast->qqY,codeAny_builtin->qqZ,builtinsNs->qz0,wpAny_askSetting->qz2,FuncData->qz3,swappedStores->qz4,wpAny_setState_of->qz7,wpAny_setField_rec->qz9,wpAny_seqItems->qzC,wpAny_call->qzF,wpAny_loadPart_at->qzH,Program->qzJ,plainId_quiet->qzK,wpAny_attempt->qzL,wpAny_isInstance->qzM,wpAny_setField->qzN,wpAny_loadPart->qzO,spliced->qzP,typeLookup_type->qzQ,wpAny_of_eq->qzR,isSubtype->qzS,wpAny_rule->qzU,wpAny_pyIter_list->qzV,wpAny_assign_Name->qzW,assignEach->qzX,codeAny->qzZ,storeName->qx2
open PySem.Around renaming under_plainId->qqS
open PySem.AutoSeq1 renaming wpAny_loadPart'->qx4
open PySem.Builtin.List renaming listTooLong->qx5,listLengthHint->qxO,listExtendWith->qxP
open PySem.Builtin.ObjectAttr renaming storeInDict->qxE
open PySem.Builtin.Slice renaming sliceAdjust->qq4,slicePlaces->qqB,sliceApplied->qxT
open PySem.Builtin.SmallTypes renaming nextOf->qqN
open PySem.Builtin.Str renaming strSliceIndices->qxN
open PySem.Builtin.Tuple renaming tupleExact->qzE
open PySem.Code renaming quiet_builtin->qx6
open PySem.Heap renaming get?_push_of_some->uc,get?_push_size->ue,lt_size->ul,get?_update_self->uw,get?_update_other->uI,size_push->uR,SameBut->qqC,get?_update_ne->qxQ
open PySem.Obj renaming dropNameByArray->qz8,isFreed_of_fields->qzA,data_mapFields->qzB,dropName_eq->qzT
open PySem.PyData renaming canLayAll0->qz6,depthAll->qzI,eqvAll->qzY,canLay0->qx3
open PySem.Str renaming ofString->qqH
open PySem.W renaming instObj->qz1,looks_mroIn->qzD
open PySem PySem.W PyProof.Rows
set_option Elab.async false
set_option linter.all false
set_option maxRecDepth 100000
set_option tactic.hygienic false
set_option genSizeOf false
set_option maxHeartbeats 24000000
set_option genInjectivity false
namespace Mine.Internal
inductive AV where
 |none
 |bool (b:Bool)
 |int (i:Int)
 |str (s:Str)
 |tup (l:List AV)
 |list (l:List AV)
 |wlist (l:List AV)
 |dict (ks:List Str) (vs:List AV)
 |inst (c:qq7) (ks:List Str) (vs:List AV)
 |glob (v:qq0)
 |meth (f:qq7) (self:AV)
 |rng (n:Nat)
 |sset (l:List Str)
 |items (ks:List Str) (vs:List AV)
 |exc (place:AV)
 |hand
inductive OB where
 |list (l:List AV)
 |kd (l:List (List Int×AV))
 |inst (c:qq7) (ks:List Str) (vs:List AV)
noncomputable abbrev HS:=List (Str×AV)
noncomputable abbrev Rs (α:Type):=Option (Except AV α×HS)
noncomputable def M (α:Type):Type:=HS->Rs α
noncomputable def M.pure {α}(a:α):M α:=λH=>some (.ok a,H)
noncomputable def M.bind {α β}(m:M α)(f:α->M β):M β:=λH=>match m H with
 | .none=>.none|some (.error e,H')=>some (.error e,H')|some (.ok a,H')=>f a H'
noncomputable def stuck {α}:M α:=λ_=>.none
noncomputable def lift {α}:Option α->M α
 |some a=>M.pure a| .none=>stuck
noncomputable def Dx:M HS:=λH=>some (.ok H,H)
noncomputable def Mp (H:HS):M Unit:=λ_=>some (.ok (),H)
structure kh where
 glob:Str->Option qq0
 func:qq7->Option qz3
 init:qq7->Option qq7
 meth:qq7->Str->Option qq7
 attr:qq7->Str->Bool
 seta:qq7->Str->Bool
 pf:qq7
structure Loc where
 sc:Scope
 rho:List (Str×AV)
 om:List (Str×OB)
mutual
noncomputable def jc:AV->Option PyData
 | .none=>some .none| .bool b=>some (.bool b)| .int i=>some (.int i)| .str s=>some (.str s)| .tup l=>(dE l).map .tuple| .list l=>(dE l).map .list|_=>.none
noncomputable def dE:List AV->Option (List PyData)
 | []=>some []|d::ds=>(jc d).bind λp=>(dE ds).map λps=>p::ps
end
noncomputable def i7 (p:PyData):Bool:=p.canLay0 && decide (p.depth<=64)
noncomputable def Cg (v:AV):Option PyData:=(jc v).bind λp=>if i7 p then some p else .none
noncomputable def gR (a b:AV):Option Bool:=(Cg a).bind λp=>(Cg b).map λq=>PyData.eqv p q
noncomputable def UY (x:AV)(l:List AV):Option Bool:=(Cg x).bind λp=>(dE l).bind λps=>if i7 (.tuple ps) then some (ps.any λq=>PyData.eqv q p) else .none
noncomputable def bK {α:Type}(k:Str):List Str->List α->Option α
 |x::xs,v::vs=>if x=k then some v else bK k xs vs
 |_,_=>.none
noncomputable def bu (i:Int):Bool:=decide (i.natAbs<2^62)
noncomputable def gS (l:List AV)(i:Int):Option AV:=if 0<=i/\bu i=true then l[i.toNat]? else .none
noncomputable def ag (s:String):Str:=s
noncomputable def UZ (a b:Int):Option AV:=if bu a && bu b && bu (a+b) then some (.int (a+b)) else .none
noncomputable def Ot:AV->AV->Option AV
 | .int a,.int b=>UZ a b| .tup a,.tup b=>if a.length+b.length<=1000 then some (.tup (a++b)) else .none
 | .list a,.list b=>if a.length+b.length<=1000 then some (.list (a++b)) else .none
 |_,_=>.none
noncomputable def intOp (f:Int->Int->Option AV):AV->AV->Option AV
 | .int a,.int b=>f a b|_,_=>.none
noncomputable def binop (op:Operator)(x y:AV):Option AV:=match op with
 | .Add=>Ot x y| .Sub=>intOp (λa b=>if bu a && bu b && bu (a-b) then some (.int (a-b)) else .none) x y| .Mult=>intOp (λa b=>if bu a && bu b && bu (a*b) then some (.int (a*b)) else .none) x y| .FloorDiv=>intOp (λa b=>if decide (0<b) && decide (b<1000) then some (.int (a/b)) else .none) x y| .Mod=>intOp (λa b=>if decide (0<b) then some (.int (a%b)) else .none) x y|_=>.none
noncomputable def Ig (f:Int->Int->Bool):AV->AV->Option Bool
 | .int a,.int b=>some (f a b)|_,_=>.none
noncomputable def Ch:AV->Option Bool
 | .none=>some true| .tup _| .list _| .bool _| .int _| .str _=>some false
 |_=>.none
noncomputable def oq (x:AV):AV->Option Bool
 | .none=>Ch x|_=>.none
noncomputable def ZJ (ks:List Str):AV->Option Bool
 | .str k=>some (ks.contains k)|_=>.none
noncomputable def U_ (x:AV):AV->Option Bool
 | .tup l=>UY x l| .list l=>UY x l| .dict ks _=>ZJ ks x|_=>.none
noncomputable def mA (op:CmpOp)(x y:AV):Option Bool:=match op with
 | .Eq=>gR x y| .NotEq=>(gR x y).map (!·)| .Lt=>Ig (λa b=>decide (a<b)) x y| .LtE=>Ig (λa b=>decide (a<=b)) x y| .Gt=>Ig (λa b=>decide (a>b)) x y| .Is=>oq x y| .IsNot=>(oq x y).map (!·)| .In=>U_ x y| .NotIn=>(U_ x y).map (!·)|_=>.none
inductive EG where
 |from(a:Nat)
 |upto (b:Nat)
 |rev
noncomputable abbrev Ou:=Option Str×Option (Expr×List Expr×List Keyword×Pos)×Option (Expr×Str×Pos)×Option Const×Option (List Expr)×Option (List Expr)×Option (Expr×Expr)×Option (UnaryOp×Expr)×Option (Option Expr×Option Expr×Option Expr)
noncomputable def view:Expr->Ou
 | .Name x _=>(some x,.none,.none,.none,.none,.none,.none,.none,.none)
 | .Call f args Ia p=>(.none,some (f,args,Ia,p),.none,.none,.none,.none,.none,.none,.none)
 | .Attribute o a p=>(.none,.none,some (o,a,p),.none,.none,.none,.none,.none,.none)
 | .Constant c _ _=>(.none,.none,.none,some c,.none,.none,.none,.none,.none)
 | .Tuple es _ _=>(.none,.none,.none,.none,some es,.none,.none,.none,.none)
 | .List es _=>(.none,.none,.none,.none,.none,some es,.none,.none,.none)
 | .Subscript o i _=>(.none,.none,.none,.none,.none,.none,some (o,i),.none,.none)
 | .UnaryOp op e _=>(.none,.none,.none,.none,.none,.none,.none,some (op,e),.none)
 | .Slice a b c _=>(.none,.none,.none,.none,.none,.none,.none,.none,some (a,b,c))
 |_=>(.none,.none,.none,.none,.none,.none,.none,.none,.none)
noncomputable def bP (e:Expr):Option Str:=(view e).1
noncomputable def gT (e:Expr):Option (Expr×List Expr×Pos):=(view e).2.1.bind λc=>if c.2.2.1.isEmpty then some (c.1,c.2.1,c.2.2.2) else .none
noncomputable def fL (e:Expr):Option (Expr×Str×Pos):=(view e).2.2.1
noncomputable def constOf (e:Expr):Option Const:=(view e).2.2.2.1
noncomputable def fM (e:Expr):Option (List Expr):=(view e).2.2.2.2.1
noncomputable def gU (e:Expr):Option (List Expr):=(view e).2.2.2.2.2.1
noncomputable def EH (e:Expr):Option (Expr×Expr):=(view e).2.2.2.2.2.2.1
noncomputable def Va (e:Expr):Option (UnaryOp×Expr):=(view e).2.2.2.2.2.2.2.1
noncomputable def Ih (e:Expr):Option (Option Expr×Option Expr×Option Expr):=(view e).2.2.2.2.2.2.2.2
noncomputable def Mq:Const->Option Str
 | .str s=>some s|_=>.none
noncomputable def Ov:Const->Option Int
 | .int s=>some s|_=>.none
noncomputable def Ci:UnaryOp->Bool
 | .USub=>true|_=>false
noncomputable def oneOf {α:Type}:List α->Option α
 | [a]=>some a|_=>.none
noncomputable def mC {α:Type}:List α->Option (α×α)
 | [a,b]=>some (a,b)|_=>.none
noncomputable def gV (e:Expr):Option Int:=(constOf e).bind Ov
noncomputable def AH (e:Expr):Option Int:=(Va e).bind λp=>if Ci p.1 then gV p.2 else .none
noncomputable def Vb:Option Expr->Option Expr->Option Expr->Option EG
 |some a,.none,.none=>(gV a).bind λi=>if 1<=i/\i<1000 then some (.from i.toNat) else .none
 | .none,some b,.none=>(gV b).bind λi=>if 0<=i/\i<1000 then some (.upto i.toNat) else .none
 | .none,.none,some c=>(AH c).bind λi=>if i=1 then some .rev else .none
 |_,_,_=>.none
noncomputable def jy (e:Expr):Option EG:=(Ih e).bind λq=>Vb q.1 q.2.1 q.2.2
noncomputable def gh (l:List AV):EG->List AV
 | .from a=>l.drop a| .upto b=>l.take b| .rev=>l.reverse
noncomputable def Cj:EG->Nat->Bool
 | .from a,n=>decide (a<=n)|_,_=>true
noncomputable def Vc (l:List AV):EG->Option AV
 | .upto b=>some (.list (l.take b))|_=>.none
noncomputable def Vd (s:Str):EG->Option AV
 | .upto b=>if b=1 then some (.str ⟨(s.cps.toList.take 1).toArray⟩) else .none
 |_=>.none
noncomputable def Ck (x:AV)(c:EG):Option AV:=match x with
 | .tup l=>if Cj c l.length then some (.tup (gh l c)) else .none
 | .wlist l=>Vc l c| .str s=>Vd s c|_=>.none
noncomputable def Mr (l:List AV):AV->Option AV
 | .int i=>gS l i|_=>.none
noncomputable def Ve (s:Str):AV->Option AV
 | .int i=>if i=0 then(s.cps.toList[0]?).map λc=>.str ⟨#[c]⟩ else .none
 |_=>.none
noncomputable def Vf (ks:List Str)(vs:List AV):AV->Option AV
 | .str k=>bK k ks vs|_=>.none
noncomputable def dK (x i:AV):Option AV:=match x with
 | .tup l=>Mr l i| .list l=>Mr l i| .str s=>Ve s i| .dict ks vs=>Vf ks vs i|_=>.none
noncomputable def dF:AV->Bool
 | .glob _=>false|_=>true
noncomputable def gW (C:kh):AV->Str->Option AV
 | .inst c ks vs,a=>match bK a ks vs with
  |some v=>if C.attr c a && dF v then some v else .none
  | .none=>match C.meth c a with
   |some f=>some (.meth f (.inst c ks vs))| .none=>.none
 | .exc p,a=>if a=ag "place"/\dF p=true then some p else .none
 |_,_=>.none
noncomputable def EI:AV->Option (Str×AV)
 | .tup [.str k,v]=>some (k,v)|_=>.none
noncomputable def Ow (p:Str×AV)(r:List Str×List AV):Option (List Str×List AV):=if r.1.contains p.1 then .none else some (p.1::r.1,p.2::r.2)
noncomputable def pairsOf:List AV->Option (List Str×List AV)
 | []=>some ([],[])|d::r=>(EI d).bind λp=>(pairsOf r).bind λq=>Ow p q
noncomputable def AI:List AV->Option (List Str)
 | []=>some []| .str k::r=>(AI r).map (k:: ·)|_=>.none
noncomputable def kE (acc:List Str)(k:Str):List Str:=if acc.contains k then acc else acc++ [k]
noncomputable def i8 (l:List Str):List Str:=l.foldl kE []
noncomputable def strLt (a b:Str):Bool:=decide (a.cps.toList<b.cps.toList)
noncomputable def ot (x:Str):List Str->List Str
 | []=>[x]
 |y::r=>if strLt y x then y::ot x r else x::y::r
noncomputable def yF (l:List Str):List Str:=l.foldr ot []
noncomputable def risingS:List Str->Bool
 |a::b::r=>strLt a b && risingS (b::r)|_=>true
noncomputable def cY:List AV->Option (List Int)
 | []=>some []| .int k::r=>(cY r).map (k:: ·)|_=>.none
noncomputable def fc:Int->List Int->Option Int
 |a,[]=>some a|a,x::r=>if bu x && bu (a+x) then fc (a+x) r else .none
noncomputable def aE (n:Nat):AV:= .int n
noncomputable def Ox:AV->Option AV
 | .tup l=>some (aE l.length)| .list l=>some (aE l.length)|_=>.none
noncomputable def Oy:AV->Option AV
 | .list l=>some (.tup l)| .tup l=>some (.tup l)|_=>.none
noncomputable def Ka:AV->Option AV
 | .tup l=>some (.list l)|_=>.none
noncomputable def Kb:AV->Option AV
 | .list l=>(pairsOf l).map λp=>.dict p.1 p.2
 | .tup l=>(pairsOf l).map λp=>.dict p.1 p.2
 | .dict ks vs=>some (.dict ks vs)|_=>.none
noncomputable def Oz:AV->Option AV
 | .list l=>(AI l).bind λks=>if ks.length<=3 then some (.sset (i8 ks)) else .none
 |_=>.none
noncomputable def Cm:AV->Option AV
 | .sset l=>if l.length<=2 then some (.list ((yF l).map .str)) else .none
 | .items ks vs=>if risingS ks && decide (ks.length<=2) && decide (ks.length=vs.length) then some (.list ((ks.zip vs).map λ(k,v)=>.tup [.str k,v])) else .none
 |_=>.none
noncomputable def AJ:AV->Option AV
 | .tup _=>some (.bool true)| .bool _| .int _| .str _| .list _=>some (.bool false)
 |_=>.none
noncomputable def AK:AV->Option AV
 | .str _=>some (.bool true)| .bool _| .int _| .tup _| .list _=>some (.bool false)
 |_=>.none
noncomputable def O0:AV->Option AV
 | .int i=>some (.int i)|_=>.none
noncomputable def EJ:AV->Option AV
 | .int i=>if 0<=i/\i<1000 then some (.rng i.toNat) else .none
 |_=>.none
noncomputable def Ms:AV->Option AV
 | .list l=>(cY l).bind λns=>(fc 0 ns).map .int
 |_=>.none
noncomputable def lY (f:AV->Option AV):List AV->Option AV
 | [x]=>f x|_=>.none
noncomputable def Vg (x:AV):AV->Option AV
 | .glob (.type t)=>if t= "tuple" then AJ x else if t= "str" then AK x else .none
 |_=>.none
noncomputable def O2 (f:AV->AV->Option AV):List AV->Option AV
 | [x,y]=>f x y|_=>.none
noncomputable def mD (f:qq0)(xs:List AV):Option AV:=match f with
 | .builtin b=>if b= "len" then lY Ox xs else if b= "sorted" then lY Cm xs else if b= "isinstance" then O2 Vg xs else if b= "sum" then lY Ms xs else .none
 | .type t=>if t= "tuple" then lY Oy xs else if t= "list" then lY Ka xs else if t= "dict" then lY Kb xs else if t= "set" then lY Oz xs else if t= "int" then lY O0 xs else if t= "range" then lY EJ xs else .none
 |_=>.none
noncomputable def kF:AV->Str->List AV->Option AV
 | .dict ks vs,m,[]=>if m=ag "items" then some (.items ks vs) else .none
 | .dict ks vs,m,[.str k]=>if m=ag "get" then some ((bK k ks vs).getD .none) else .none
 |_,_,_=>.none
noncomputable def fN:AV->Option (List AV)
 | .tup l=>some l| .list l=>some l| .rng n=>if n<1000 then some ((List.range n).map aE) else .none
 |_=>.none
noncomputable def Kc (e:Expr):Bool:=(fM e).isSome
noncomputable def EK:AV->Option (List AV)
 | .tup l=>some l|_=>.none
noncomputable def cZ (l:List AV):List AV:=(List.range l.length).zipWith (λi v=>.tup [aE i,v]) l
noncomputable def A5:AV->Option Bool
 | .bool b=>some b|_=>.none
noncomputable def ki:Const->Option AV
 | .none=>some .none| .bool b=>some (.bool b)| .int i=>some (.int i)| .str s=>some (.str s)|_=>.none
noncomputable def aA (sc:Scope)(ae:Loc):Loc:=
 {sc,rho:=ae.rho.filter (λx=>sc.names.lookup x.1==some .free),om:=ae.om.filter (λx=>sc.names.lookup x.1==some .free)}
noncomputable def kG:List Expr->Option (Str×Str)
 | [a,b]=>(bP a).bind λx=>(bP b).map λy=>(x,y)
 |_=>.none
noncomputable def namesOf:List Expr->Option (List Str)
 | []=>some []|e::r=>(bP e).bind λx=>(namesOf r).map λns=>x::ns
noncomputable def Ii (ns:List Str):AV->Option (List (Str×AV))
 | .tup l=>if ns.length=l.length/\ns.Nodup then some (ns.zip l) else .none
 |_=>.none
noncomputable def fC (t:Expr)(v:AV):Option (List (Str×AV)):=match bP t with
 |some x=>some [(x,v)]| .none=>(fM t).bind λes=>(namesOf es).bind λns=>Ii ns v
noncomputable def ec (C:kh)(ae:Loc)(x:Str):Option AV:=match ae.rho.lookup x with
 |some v=>some v| .none=>if(ae.sc.names.lookup x)=some .globalImplicit then(C.glob x).map .glob else .none
noncomputable def ownOf (ae:Loc)(e:Expr):Option (Str×OB):=(bP e).bind λx=>(ae.om.lookup x).map λob=>(x,ob)
noncomputable def AL:OB->Option (List AV)
 | .list l=>some l|_=>.none
noncomputable def O3:OB->Option (List (List Int×AV))
 | .kd l=>some l|_=>.none
noncomputable def b9 (ae:Loc)(e:Expr):Option (List AV):=(ownOf ae e).bind λq=>AL q.2
noncomputable def Cn (ae:Loc)(e:Expr):Option (List (List Int×AV)):=(ownOf ae e).bind λq=>O3 q.2
noncomputable def d4:AV->Option (List Int)
 | .tup l=>cY l|_=>.none
noncomputable def ck (lZ:AV->M Bool)(eF:AV->M AV):List AV->M (List AV)
 | []=>M.pure []|a::r=>M.bind (lZ a) λb=>if b then M.bind (eF a) λy=>M.bind (ck lZ eF r) λys=>M.pure (y::ys) else ck lZ eF r
noncomputable def O4 (o:Option Expr):Option Str:=o.bind λe=>(constOf e).bind Mq
noncomputable def keysOf:List (Option Expr)->Option (List Str)
 | []=>some []|o::r=>(O4 o).bind λs=>(keysOf r).map λl=>s::l
noncomputable def Yt {α:Type}(H:HS):Except AV α->Rs α
 | .ok a=>some (.ok a,H)| .error _=>.none
noncomputable def i9 {α:Type}(m:M α):M α:=λH=>(m H).bind λx=>Yt x.2 x.1
noncomputable def bA {α:Type}(tgt:Expr)(f:List (Str×AV)->M α)(v:AV):M α:=match fC tgt v with
 |some bs=>i9 (f bs)| .none=>stuck
noncomputable def dM (sc:Scope)(b6:Scope):Bool:=
 decide (sc.kind= .function) && decide (sc.names.map (·.1)).Nodup && (sc.names.lookup ("__debug__":Str)).isNone && (sc.names.lookup ("__classdict__":Str)).isNone &&
  sc.names.all λx=>x.2 != .free||b6.names.lookup x.1==some .cell||b6.names.lookup x.1==some .free
noncomputable def kH (t:Expr):List Str:=match bP t with
 |some x=>[x]
 | .none=>((fM t).bind namesOf).getD []
noncomputable def kI (sc:Scope)(t:Expr):Bool:=(kH t).all λx=>sc.names.lookup x==some .local||sc.names.lookup x==some .cell
noncomputable def aZ (e:Expr):Bool:= !Nat.beq e.ctorIdx 22 && !Nat.beq e.ctorIdx 7
noncomputable def fe (es:List Expr):Bool:=es.all aZ && decide (es.length<=1000)
noncomputable def Ij (e:Expr):Bool:=match(gT e).bind λc=>(bP c.1).map λx=>(x,c.2.1) with
 |some x=>(x.1==ag "super") && x.2.isEmpty| .none=>false
noncomputable def iA (e:Expr):Bool:= !Ij e
noncomputable def Ib (o:Expr)(args:List Expr)(ap pos:Pos):Bool:=fe args && decide (args.length<29) && (ap.endLine==pos.line) && iA o
noncomputable def O5 (l:List AV):qq0->Option AV
 | .builtin b=>if b= "len" then some (aE l.length) else .none
 | .type t=>if t= "tuple" then some (.tup l) else .none
 |_=>.none
noncomputable def ou:AV->Option qq0
 | .glob v=>some v|_=>.none
noncomputable def ownCall (f:AV)(l:List AV):Option AV:=(ou f).bind (O5 l)
section
variable (C:kh)(call:qq7->List AV->M AV)(mk:qq7->List AV->M AV)
noncomputable def mF:AV->List AV->M AV
 | .glob (.ref a),args=>if(C.func a).isSome then call a args else mk a args
 | .meth f self,args=>call f (self::args)| .glob v,args=>lift (mD v args)|_,_=>stuck
noncomputable def kJ (ov:AV)(m:Str)(args:M (List AV)):M AV:=match ov with
 | .inst c ks us=>match bK m ks us,C.meth c m with
  | .none,some f=>M.bind args λvs=>call f (.inst c ks us::vs)
  |_,_=>stuck
 | .dict ks us=>if m=ag "items"\/m=ag "get" then M.bind args λvs=>lift (kF (.dict ks us) m vs) else stuck
 |_=>stuck
noncomputable def Kd (s:String):qq0->Bool
 | .type t=>t==s|_=>false
noncomputable def Ik (o:Option AV):Bool:=((o.bind ou).map (Kd "enumerate")).getD false
noncomputable def jf (ae:Loc)(f:Expr):Bool:=Ik ((bP f).bind (ec C ae))
noncomputable def kj (ae:Loc)(it:Expr):Bool:=match gT it with
 |some c=>match oneOf c.2.1 with
  |some x=>jf C ae c.1 && aZ x| .none=>false
 | .none=>false
noncomputable def iB (tgt it:Expr)(ae:Loc)(whole a1:M AV):M (List AV):=if kj C ae it then(if Kc tgt then M.bind a1 λv=>lift ((EK v).map cZ) else stuck) else match b9 ae it with
 |some l=>M.pure l| .none=>M.bind whole λv=>lift (fN v)
noncomputable def Mt (ae:Loc)(o i:Expr)(mo mi:M AV):M AV:=match Cn ae o with
 |some kd=>M.bind mi λiv=>lift ((d4 iv).bind λp=>List.lookup p kd)
 | .none=>match b9 ae o with
  |some l=>if(jy i).isSome then stuck else M.bind mi λiv=>match iv with
   | .int k=>lift (gS l k)|_=>stuck
  | .none=>match jy i with
   |some c=>M.bind mo λov=>lift (Ck ov c)
   | .none=>M.bind mo λov=>M.bind mi λiv=>match ov,iv with
    | .hand,.str k=>M.bind Dx λH=>lift (H.lookup k)
    |_,_=>lift (dK ov iv)
noncomputable def EL (keys:List (Option Expr))(n:Nat)(ms:M (List AV)):M AV:=match keysOf keys with
 |some ks=>if ks.length=n/\ks.Nodup/\ks.length<=15/\ks≠ [] then M.bind ms λvs=>M.pure (.dict ks vs) else stuck
 | .none=>stuck
noncomputable def EM (f:Expr)(args:List Expr)(pos:Pos)(ae:Loc)(mO mf mx:M AV)(ms:M (List AV)):M AV:=match fL f with
 |some q=>if Ib q.1 args q.2.2 pos then M.bind mO λov=>kJ C call ov q.2.1 ms else stuck
 | .none=>match oneOf args with
  |some x=>if aZ x then M.bind mf λfv=>match b9 ae x with
    |some l=>lift (ownCall fv l)| .none=>M.bind mx λv=>mF C call mk fv [v]
   else stuck
  | .none=>if fe args then M.bind mf λfv=>M.bind ms λvs=>mF C call mk fv vs else stuck
noncomputable def Co (sc:Scope)(tgt it:Expr)(ae:Loc)(mi:M (List AV))(mt:List (Str×AV)->M Bool)(me:List (Str×AV)->M AV):M AV:=
 if dM sc ae.sc && kI sc tgt && aZ it then M.bind mi λitems=>if items.length<=1000 then M.bind (ck (bA tgt mt) (bA tgt me) items) λys=>M.pure (.list ys) else stuck else stuck
mutual
noncomputable def ev (d:Nat):Expr->Loc->M AV
 | .Constant c _ _,_=>lift (ki c)| .Name x _,ae=>lift (ec C ae x)| .Tuple es _ _,ae=>if fe es then M.bind (l_ d es ae) λvs=>M.pure (.tup vs) else stuck
 | .List es _,ae=>if fe es then M.bind (l_ d es ae) λvs=>M.pure (.list vs) else stuck
 | .Dict ks vs _,ae=>EL ks vs.length (l_ d vs ae)| .BinOp a op b _,ae=>M.bind (ev d a ae) λx=>M.bind (ev d b ae) λy=>lift (binop op x y)
 | .Compare a [op] [b] _,ae=>if aZ b then M.bind (ev d a ae) λx=>M.bind (ev d b ae) λy=>lift ((mA op x y).map .bool) else stuck
 | .UnaryOp .Not x _,ae=>M.bind (ev d x ae) λv=>match A5 v with
   |some b=>M.pure (.bool (!b))| .none=>stuck
 | .BoolOp .And vs _,ae=>EN d vs ae| .BoolOp .Or vs _,ae=>Mu d vs ae| .IfExp t a b _,ae=>M.bind (EO d t ae (ev d t ae)) λc=>if c then ev d a ae else ev d b ae
 | .Subscript o i _,ae=>Mt ae o i (ev d o ae) (ev d i ae)| .Attribute o a _,ae=>if iA o then M.bind (ev d o ae) λv=>lift (gW C v a) else stuck
 | .Call f args Ia pos,ae=>if Ia.isEmpty then EM C call mk f args pos ae (NU d f ae) (ev d f ae) (Mv d args ae) (l_ d args ae) else stuck
 | .ListComp eF [⟨tgt,it,gi,0⟩] sc _,ae=>match d with
  |0=>stuck|d'+1=>Co sc tgt it ae (iB C tgt it ae (ev d it ae) (NU d it ae)) (λbs=>mG d' gi {aA sc ae with rho:=bs++(aA sc ae).rho}) λbs=>ev d' eF {aA sc ae with rho:=bs++(aA sc ae).rho}
 |_,_=>stuck
noncomputable def NU (d:Nat):Expr->Loc->M AV
 | .Attribute o _ _,ae=>ev d o ae| .Call _ args _ _,ae=>Mv d args ae|_,_=>stuck
noncomputable def Mv (d:Nat):List Expr->Loc->M AV
 |x::_,ae=>ev d x ae| [],_=>stuck
noncomputable def l_ (d:Nat):List Expr->Loc->M (List AV)
 | [],_=>M.pure []|e::r,ae=>M.bind (ev d e ae) λv=>M.bind (l_ d r ae) λvs=>M.pure (v::vs)
noncomputable def EN (d:Nat):List Expr->Loc->M AV
 | [],_=>stuck| [e],ae=>ev d e ae|e::r,ae=>M.bind (ev d e ae) λv=>match A5 v with
  |some true=>EN d r ae|some false=>M.pure (.bool false)| .none=>stuck
noncomputable def Mu (d:Nat):List Expr->Loc->M AV
 | [],_=>stuck| [e],ae=>ev d e ae|e::r,ae=>M.bind (ev d e ae) λv=>match A5 v with
  |some true=>M.pure (.bool true)|some false=>Mu d r ae| .none=>stuck
noncomputable def EO (d:Nat):Expr->Loc->M AV->M Bool
 | .UnaryOp .Not x _,ae,_=>M.bind (EO d x ae (ev d x ae)) λb=>M.pure (!b)
 | .BoolOp .And vs _,ae,_=>mG d vs ae| .BoolOp .Or vs _,ae,_=>EP d vs ae| .Compare a [op] [b] _,ae,_=>if aZ b then M.bind (ev d a ae) λx=>M.bind (ev d b ae) λy=>lift (mA op x y) else stuck
 | .IfExp ..,_,_=>stuck|_,_,whole=>M.bind whole λv=>lift (A5 v)
noncomputable def mG (d:Nat):List Expr->Loc->M Bool
 | [],_=>M.pure true|e::r,ae=>M.bind (EO d e ae (ev d e ae)) λb=>if b then mG d r ae else M.pure false
noncomputable def EP (d:Nat):List Expr->Loc->M Bool
 | [],_=>M.pure false|e::r,ae=>M.bind (EO d e ae (ev d e ae)) λb=>if b then M.pure true else EP d r ae
end
noncomputable def yG (d:Nat)(tgt e:Expr)(ae:Loc)(whole:M AV):M (List AV):=iB C tgt e ae whole (NU C call mk d e ae)
end
theorem ai {p1 p2 G:Prop}(h:p1/\p2)(k:p1->p2->G):G:=k h.1 h.2
theorem aU {p1 p2 p3 G:Prop}(h:p1/\p2/\p3)(k:p1->p2->p3->G):G:=ai h.2 (k h.1)
theorem gD {p1 p2 p3 p4 G:Prop}(h:p1/\p2/\p3/\p4)(k:p1->p2->p3->p4->G):G:=aU h.2 (k h.1)
theorem bb {p1 p2 p3 p4 p5 G:Prop}(h:p1/\p2/\p3/\p4/\p5)(k:p1->p2->p3->p4->p5->G):G:=gD h.2 (k h.1)
theorem yH {p1 p2 p3 p4 p5 p6 G:Prop}(h:p1/\p2/\p3/\p4/\p5/\p6)(k:p1->p2->p3->p4->p5->p6->G):G:=bb h.2 (k h.1)
theorem Ke {p1 p2 p3 p4 p5 p6 p7 p8 p9 G:Prop}(h:p1/\p2/\p3/\p4/\p5/\p6/\p7/\p8/\p9)(k:p1->p2->p3->p4->p5->p6->p7->p8->p9->G):G:=k h.1 h.2.1 h.2.2.1 h.2.2.2.1 h.2.2.2.2.1 h.2.2.2.2.2.1 h.2.2.2.2.2.2.1 h.2.2.2.2.2.2.2.1 h.2.2.2.2.2.2.2.2
theorem oy {p1 p2 p3 p4 p5 p6 p7 p8 p9 Yu Yv Yw Yx G:Prop}(h:p1/\p2/\p3/\p4/\p5/\p6/\p7/\p8/\p9/\Yu/\Yv/\Yw/\Yx)(k:p1->p2->p3->p4->p5->p6->p7->p8->p9->Yu->Yv->Yw->Yx->G):G:=k h.1 h.2.1 h.2.2.1 h.2.2.2.1 h.2.2.2.2.1 h.2.2.2.2.2.1 h.2.2.2.2.2.2.1 h.2.2.2.2.2.2.2.1 h.2.2.2.2.2.2.2.2.1 h.2.2.2.2.2.2.2.2.2.1 h.2.2.2.2.2.2.2.2.2.2.1 h.2.2.2.2.2.2.2.2.2.2.2.1 h.2.2.2.2.2.2.2.2.2.2.2.2
theorem ac {aL:Sort _}{p1:aL->Prop}{G:Prop}(h:∃x1,p1 x1)(k:∀x1,p1 x1->G):G:=uf h k
theorem af {aL:Sort _}{p1 p2:aL->Prop}{G:Prop}(h:∃x1,p1 x1/\p2 x1)(k:∀x1,p1 x1->p2 x1->G):G:=uf h λx h=>ai h (k x)
theorem aC {aL:Sort _}{p1 p2 p3:aL->Prop}{G:Prop}(h:∃x1,p1 x1/\p2 x1/\p3 x1)(k:∀x1,p1 x1->p2 x1->p3 x1->G):G:=uf h λx h=>aU h (k x)
theorem c7 {aL:Sort _}{p1 p2 p3 p4:aL->Prop}{G:Prop}(h:∃x1,p1 x1/\p2 x1/\p3 x1/\p4 x1)(k:∀x1,p1 x1->p2 x1->p3 x1->p4 x1->G):G:=uf h λx h=>gD h (k x)
theorem ef {aL:Sort _}{p1 p2 p3 p4 p5:aL->Prop}{G:Prop}(h:∃x1,p1 x1/\p2 x1/\p3 x1/\p4 x1/\p5 x1)(k:∀x1,p1 x1->p2 x1->p3 x1->p4 x1->p5 x1->G):G:=uf h λx h=>bb h (k x)
theorem Kf {aL:Sort _}{p1 p2 p3 p4 p5 p6:aL->Prop}{G:Prop}(h:∃x1,p1 x1/\p2 x1/\p3 x1/\p4 x1/\p5 x1/\p6 x1)(k:∀x1,p1 x1->p2 x1->p3 x1->p4 x1->p5 x1->p6 x1->G):G:=uf h λx h=>yH h (k x)
theorem aX {aL aS:Sort _}{p1:aL->aS->Prop}{G:Prop}(h:∃x1 x2,p1 x1 x2)(k:∀x1 x2,p1 x1 x2->G):G:=uf h λx h=>ac h (k x)
theorem aY {aL aS:Sort _}{p1 p2:aL->aS->Prop}{G:Prop}(h:∃x1 x2,p1 x1 x2/\p2 x1 x2)(k:∀x1 x2,p1 x1 x2->p2 x1 x2->G):G:=uf h λx h=>af h (k x)
theorem a8 {aL aS:Sort _}{p1 p2 p3:aL->aS->Prop}{G:Prop}(h:∃x1 x2,p1 x1 x2/\p2 x1 x2/\p3 x1 x2)(k:∀x1 x2,p1 x1 x2->p2 x1 x2->p3 x1 x2->G):G:=uf h λx h=>aC h (k x)
theorem cn {aL aS:Sort _}{p1 p2 p3 p4:aL->aS->Prop}{G:Prop}(h:∃x1 x2,p1 x1 x2/\p2 x1 x2/\p3 x1 x2/\p4 x1 x2)(k:∀x1 x2,p1 x1 x2->p2 x1 x2->p3 x1 x2->p4 x1 x2->G):G:=uf h λx h=>c7 h (k x)
theorem aP {aL aS:Sort _}{p1 p2 p3 p4 p5:aL->aS->Prop}{G:Prop}(h:∃x1 x2,p1 x1 x2/\p2 x1 x2/\p3 x1 x2/\p4 x1 x2/\p5 x1 x2)(k:∀x1 x2,p1 x1 x2->p2 x1 x2->p3 x1 x2->p4 x1 x2->p5 x1 x2->G):G:=uf h λx h=>ef h (k x)
theorem EQ {aL aS:Sort _}{p1 p2 p3 p4 p5 p6:aL->aS->Prop}{G:Prop}(h:∃x1 x2,p1 x1 x2/\p2 x1 x2/\p3 x1 x2/\p4 x1 x2/\p5 x1 x2/\p6 x1 x2)(k:∀x1 x2,p1 x1 x2->p2 x1 x2->p3 x1 x2->p4 x1 x2->p5 x1 x2->p6 x1 x2->G):G:=uf h λx h=>Kf h (k x)
theorem eg {aL aS:Sort _}{p1 p2 p3 p4 p5 p6 p7:aL->aS->Prop}{G:Prop}(h:∃x1 x2,p1 x1 x2/\p2 x1 x2/\p3 x1 x2/\p4 x1 x2/\p5 x1 x2/\p6 x1 x2/\p7 x1 x2)(k:∀x1 x2,p1 x1 x2->p2 x1 x2->p3 x1 x2->p4 x1 x2->p5 x1 x2->p6 x1 x2->p7 x1 x2->G):G:=uf h λx1 h=>uf h λx2 h=>k x1 x2 h.1 h.2.1 h.2.2.1 h.2.2.2.1 h.2.2.2.2.1 h.2.2.2.2.2.1 h.2.2.2.2.2.2
theorem Kg {aL aS:Sort _}{p1 p2 p3 p4 p5 p6 p7 p8 p9:aL->aS->Prop}{G:Prop}(h:∃x1 x2,p1 x1 x2/\p2 x1 x2/\p3 x1 x2/\p4 x1 x2/\p5 x1 x2/\p6 x1 x2/\p7 x1 x2/\p8 x1 x2/\p9 x1 x2)(k:∀x1 x2,p1 x1 x2->p2 x1 x2->p3 x1 x2->p4 x1 x2->p5 x1 x2->p6 x1 x2->p7 x1 x2->p8 x1 x2->p9 x1 x2->G):G:=uf h λx1 h=>uf h λx2 h=>k x1 x2 h.1 h.2.1 h.2.2.1 h.2.2.2.1 h.2.2.2.2.1 h.2.2.2.2.2.1 h.2.2.2.2.2.2.1 h.2.2.2.2.2.2.2.1 h.2.2.2.2.2.2.2.2
theorem Cp {aL aS bl:Sort _}{p1:aL->aS->bl->Prop}{G:Prop}(h:∃x1 x2 x3,p1 x1 x2 x3)(k:∀x1 x2 x3,p1 x1 x2 x3->G):G:=uf h λx h=>aX h (k x)
theorem aB {aL aS bl:Sort _}{p1 p2:aL->aS->bl->Prop}{G:Prop}(h:∃x1 x2 x3,p1 x1 x2 x3/\p2 x1 x2 x3)(k:∀x1 x2 x3,p1 x1 x2 x3->p2 x1 x2 x3->G):G:=uf h λx h=>aY h (k x)
theorem bT {aL aS bl:Sort _}{p1 p2 p3:aL->aS->bl->Prop}{G:Prop}(h:∃x1 x2 x3,p1 x1 x2 x3/\p2 x1 x2 x3/\p3 x1 x2 x3)(k:∀x1 x2 x3,p1 x1 x2 x3->p2 x1 x2 x3->p3 x1 x2 x3->G):G:=uf h λx h=>a8 h (k x)
theorem gE {aL aS bl:Sort _}{p1 p2 p3 p4:aL->aS->bl->Prop}{G:Prop}(h:∃x1 x2 x3,p1 x1 x2 x3/\p2 x1 x2 x3/\p3 x1 x2 x3/\p4 x1 x2 x3)(k:∀x1 x2 x3,p1 x1 x2 x3->p2 x1 x2 x3->p3 x1 x2 x3->p4 x1 x2 x3->G):G:=uf h λx h=>cn h (k x)
theorem cG {aL aS bl:Sort _}{p1 p2 p3 p4 p5:aL->aS->bl->Prop}{G:Prop}(h:∃x1 x2 x3,p1 x1 x2 x3/\p2 x1 x2 x3/\p3 x1 x2 x3/\p4 x1 x2 x3/\p5 x1 x2 x3)(k:∀x1 x2 x3,p1 x1 x2 x3->p2 x1 x2 x3->p3 x1 x2 x3->p4 x1 x2 x3->p5 x1 x2 x3->G):G:=uf h λx h=>aP h (k x)
theorem eh {aL aS bl:Sort _}{p1 p2 p3 p4 p5 p6:aL->aS->bl->Prop}{G:Prop}(h:∃x1 x2 x3,p1 x1 x2 x3/\p2 x1 x2 x3/\p3 x1 x2 x3/\p4 x1 x2 x3/\p5 x1 x2 x3/\p6 x1 x2 x3)(k:∀x1 x2 x3,p1 x1 x2 x3->p2 x1 x2 x3->p3 x1 x2 x3->p4 x1 x2 x3->p5 x1 x2 x3->p6 x1 x2 x3->G):G:=uf h λx h=>EQ h (k x)
theorem d9 {aL aS bl:Sort _}{p1 p2 p3 p4 p5 p6 p7:aL->aS->bl->Prop}{G:Prop}(h:∃x1 x2 x3,p1 x1 x2 x3/\p2 x1 x2 x3/\p3 x1 x2 x3/\p4 x1 x2 x3/\p5 x1 x2 x3/\p6 x1 x2 x3/\p7 x1 x2 x3)(k:∀x1 x2 x3,p1 x1 x2 x3->p2 x1 x2 x3->p3 x1 x2 x3->p4 x1 x2 x3->p5 x1 x2 x3->p6 x1 x2 x3->p7 x1 x2 x3->G):G:=uf h λx h=>eg h (k x)
theorem mH {aL aS bl:Sort _}{p1 p2 p3 p4 p5 p6 p7 p8 p9:aL->aS->bl->Prop}{G:Prop}(h:∃x1 x2 x3,p1 x1 x2 x3/\p2 x1 x2 x3/\p3 x1 x2 x3/\p4 x1 x2 x3/\p5 x1 x2 x3/\p6 x1 x2 x3/\p7 x1 x2 x3/\p8 x1 x2 x3/\p9 x1 x2 x3)(k:∀x1 x2 x3,p1 x1 x2 x3->p2 x1 x2 x3->p3 x1 x2 x3->p4 x1 x2 x3->p5 x1 x2 x3->p6 x1 x2 x3->p7 x1 x2 x3->p8 x1 x2 x3->p9 x1 x2 x3->G):G:=uf h λx h=>Kg h (k x)
theorem yI {aL aS bl bZ:Sort _}{p1:aL->aS->bl->bZ->Prop}{G:Prop}(h:∃x1 x2 x3 x4,p1 x1 x2 x3 x4)(k:∀x1 x2 x3 x4,p1 x1 x2 x3 x4->G):G:=uf h λx h=>Cp h (k x)
theorem kK {aL aS bl bZ:Sort _}{p1 p2:aL->aS->bl->bZ->Prop}{G:Prop}(h:∃x1 x2 x3 x4,p1 x1 x2 x3 x4/\p2 x1 x2 x3 x4)(k:∀x1 x2 x3 x4,p1 x1 x2 x3 x4->p2 x1 x2 x3 x4->G):G:=uf h λx h=>aB h (k x)
theorem jz {aL aS bl bZ:Sort _}{p1 p2 p3:aL->aS->bl->bZ->Prop}{G:Prop}(h:∃x1 x2 x3 x4,p1 x1 x2 x3 x4/\p2 x1 x2 x3 x4/\p3 x1 x2 x3 x4)(k:∀x1 x2 x3 x4,p1 x1 x2 x3 x4->p2 x1 x2 x3 x4->p3 x1 x2 x3 x4->G):G:=uf h λx h=>bT h (k x)
theorem mI {aL aS bl bZ:Sort _}{p1 p2 p3 p4:aL->aS->bl->bZ->Prop}{G:Prop}(h:∃x1 x2 x3 x4,p1 x1 x2 x3 x4/\p2 x1 x2 x3 x4/\p3 x1 x2 x3 x4/\p4 x1 x2 x3 x4)(k:∀x1 x2 x3 x4,p1 x1 x2 x3 x4->p2 x1 x2 x3 x4->p3 x1 x2 x3 x4->p4 x1 x2 x3 x4->G):G:=uf h λx h=>gE h (k x)
theorem ER {aL aS bl bZ:Sort _}{p1 p2 p3 p4 p5:aL->aS->bl->bZ->Prop}{G:Prop}(h:∃x1 x2 x3 x4,p1 x1 x2 x3 x4/\p2 x1 x2 x3 x4/\p3 x1 x2 x3 x4/\p4 x1 x2 x3 x4/\p5 x1 x2 x3 x4)(k:∀x1 x2 x3 x4,p1 x1 x2 x3 x4->p2 x1 x2 x3 x4->p3 x1 x2 x3 x4->p4 x1 x2 x3 x4->p5 x1 x2 x3 x4->G):G:=uf h λx h=>cG h (k x)
theorem O6 {aL aS bl bZ:Sort _}{p1 p2 p3 p4 p5 p6:aL->aS->bl->bZ->Prop}{G:Prop}(h:∃x1 x2 x3 x4,p1 x1 x2 x3 x4/\p2 x1 x2 x3 x4/\p3 x1 x2 x3 x4/\p4 x1 x2 x3 x4/\p5 x1 x2 x3 x4/\p6 x1 x2 x3 x4)(k:∀x1 x2 x3 x4,p1 x1 x2 x3 x4->p2 x1 x2 x3 x4->p3 x1 x2 x3 x4->p4 x1 x2 x3 x4->p5 x1 x2 x3 x4->p6 x1 x2 x3 x4->G):G:=uf h λx h=>eh h (k x)
theorem kN {aL aS bl bZ:Sort _}{p1 p2 p3 p4 p5 p6 p7:aL->aS->bl->bZ->Prop}{G:Prop}(h:∃x1 x2 x3 x4,p1 x1 x2 x3 x4/\p2 x1 x2 x3 x4/\p3 x1 x2 x3 x4/\p4 x1 x2 x3 x4/\p5 x1 x2 x3 x4/\p6 x1 x2 x3 x4/\p7 x1 x2 x3 x4)(k:∀x1 x2 x3 x4,p1 x1 x2 x3 x4->p2 x1 x2 x3 x4->p3 x1 x2 x3 x4->p4 x1 x2 x3 x4->p5 x1 x2 x3 x4->p6 x1 x2 x3 x4->p7 x1 x2 x3 x4->G):G:=uf h λx h=>d9 h (k x)
theorem Kh {aL aS bl bZ:Sort _}{p1 p2 p3 p4 p5 p6 p7 p8 p9:aL->aS->bl->bZ->Prop}{G:Prop}(h:∃x1 x2 x3 x4,p1 x1 x2 x3 x4/\p2 x1 x2 x3 x4/\p3 x1 x2 x3 x4/\p4 x1 x2 x3 x4/\p5 x1 x2 x3 x4/\p6 x1 x2 x3 x4/\p7 x1 x2 x3 x4/\p8 x1 x2 x3 x4/\p9 x1 x2 x3 x4)(k:∀x1 x2 x3 x4,p1 x1 x2 x3 x4->p2 x1 x2 x3 x4->p3 x1 x2 x3 x4->p4 x1 x2 x3 x4->p5 x1 x2 x3 x4->p6 x1 x2 x3 x4->p7 x1 x2 x3 x4->p8 x1 x2 x3 x4->p9 x1 x2 x3 x4->G):G:=uf h λx h=>mH h (k x)
theorem ES {aL aS bl bZ gy:Sort _}{p1 p2 p3 p4 p5 p6 p7 p8:aL->aS->bl->bZ->gy->Prop}{G:Prop}(h:∃x1 x2 x3 x4 x5,p1 x1 x2 x3 x4 x5/\p2 x1 x2 x3 x4 x5/\p3 x1 x2 x3 x4 x5/\p4 x1 x2 x3 x4 x5/\p5 x1 x2 x3 x4 x5/\p6 x1 x2 x3 x4 x5/\p7 x1 x2 x3 x4 x5/\p8 x1 x2 x3 x4 x5)(k:∀x1 x2 x3 x4 x5,p1 x1 x2 x3 x4 x5->p2 x1 x2 x3 x4 x5->p3 x1 x2 x3 x4 x5->p4 x1 x2 x3 x4 x5->p5 x1 x2 x3 x4 x5->p6 x1 x2 x3 x4 x5->p7 x1 x2 x3 x4 x5->p8 x1 x2 x3 x4 x5->G):G:=uf h λx1 h=>uf h λx2 h=>uf h λx3 h=>uf h λx4 h=>uf h λx5 h=>k x1 x2 x3 x4 x5 h.1 h.2.1 h.2.2.1 h.2.2.2.1 h.2.2.2.2.1 h.2.2.2.2.2.1 h.2.2.2.2.2.2.1 h.2.2.2.2.2.2.2
theorem Ki {aL aS bl bZ gy jd:Sort _}{p1 p2:aL->aS->bl->bZ->gy->jd->Prop}{G:Prop}(h:∃x1 x2 x3 x4 x5 x6,p1 x1 x2 x3 x4 x5 x6/\p2 x1 x2 x3 x4 x5 x6)(k:∀x1 x2 x3 x4 x5 x6,p1 x1 x2 x3 x4 x5 x6->p2 x1 x2 x3 x4 x5 x6->G):G:=uf h λx1 h=>uf h λx2 h=>uf h λx3 h=>uf h λx4 h=>uf h λx5 h=>uf h λx6 h=>k x1 x2 x3 x4 x5 x6 h.1 h.2
theorem ET {aL aS bl bZ gy jd kO:Sort _}{p1:aL->aS->bl->bZ->gy->jd->kO->Prop}{G:Prop}(h:∃x1 x2 x3 x4 x5 x6 x7,p1 x1 x2 x3 x4 x5 x6 x7)(k:∀x1 x2 x3 x4 x5 x6 x7,p1 x1 x2 x3 x4 x5 x6 x7->G):G:=uf h λx1 h=>uf h λx2 h=>uf h λx3 h=>uf h λx4 h=>uf h λx5 h=>uf h λx6 h=>uf h λx7 h=>k x1 x2 x3 x4 x5 x6 x7 h
theorem O7 {aL aS bl bZ gy jd kO:Sort _}{p1 p2 p3:aL->aS->bl->bZ->gy->jd->kO->Prop}{G:Prop}(h:∃x1 x2 x3 x4 x5 x6 x7,p1 x1 x2 x3 x4 x5 x6 x7/\p2 x1 x2 x3 x4 x5 x6 x7/\p3 x1 x2 x3 x4 x5 x6 x7)(k:∀x1 x2 x3 x4 x5 x6 x7,p1 x1 x2 x3 x4 x5 x6 x7->p2 x1 x2 x3 x4 x5 x6 x7->p3 x1 x2 x3 x4 x5 x6 x7->G):G:=uf h λx1 h=>uf h λx2 h=>uf h λx3 h=>uf h λx4 h=>uf h λx5 h=>uf h λx6 h=>uf h λx7 h=>k x1 x2 x3 x4 x5 x6 x7 h.1 h.2.1 h.2.2
theorem O8 {aL aS bl bZ gy jd kO:Sort _}{p1 p2 p3 p4:aL->aS->bl->bZ->gy->jd->kO->Prop}{G:Prop}(h:∃x1 x2 x3 x4 x5 x6 x7,p1 x1 x2 x3 x4 x5 x6 x7/\p2 x1 x2 x3 x4 x5 x6 x7/\p3 x1 x2 x3 x4 x5 x6 x7/\p4 x1 x2 x3 x4 x5 x6 x7)(k:∀x1 x2 x3 x4 x5 x6 x7,p1 x1 x2 x3 x4 x5 x6 x7->p2 x1 x2 x3 x4 x5 x6 x7->p3 x1 x2 x3 x4 x5 x6 x7->p4 x1 x2 x3 x4 x5 x6 x7->G):G:=uf h λx1 h=>uf h λx2 h=>uf h λx3 h=>uf h λx4 h=>uf h λx5 h=>uf h λx6 h=>uf h λx7 h=>k x1 x2 x3 x4 x5 x6 x7 h.1 h.2.1 h.2.2.1 h.2.2.2
theorem Kj {aL aS bl bZ gy jd kO:Sort _}{p1 p2 p3 p4 p5 p6 p7 p8 p9:aL->aS->bl->bZ->gy->jd->kO->Prop}{G:Prop}(h:∃x1 x2 x3 x4 x5 x6 x7,p1 x1 x2 x3 x4 x5 x6 x7/\p2 x1 x2 x3 x4 x5 x6 x7/\p3 x1 x2 x3 x4 x5 x6 x7/\p4 x1 x2 x3 x4 x5 x6 x7/\p5 x1 x2 x3 x4 x5 x6 x7/\p6 x1 x2 x3 x4 x5 x6 x7/\p7 x1 x2 x3 x4 x5 x6 x7/\p8 x1 x2 x3 x4 x5 x6 x7/\p9 x1 x2 x3 x4 x5 x6 x7)(k:∀x1 x2 x3 x4 x5 x6 x7,p1 x1 x2 x3 x4 x5 x6 x7->p2 x1 x2 x3 x4 x5 x6 x7->p3 x1 x2 x3 x4 x5 x6 x7->p4 x1 x2 x3 x4 x5 x6 x7->p5 x1 x2 x3 x4 x5 x6 x7->p6 x1 x2 x3 x4 x5 x6 x7->p7 x1 x2 x3 x4 x5 x6 x7->p8 x1 x2 x3 x4 x5 x6 x7->p9 x1 x2 x3 x4 x5 x6 x7->G):G:=uf h λx1 h=>uf h λx2 h=>uf h λx3 h=>uf h λx4 h=>uf h λx5 h=>uf h λx6 h=>uf h λx7 h=>k x1 x2 x3 x4 x5 x6 x7 h.1 h.2.1 h.2.2.1 h.2.2.2.1 h.2.2.2.2.1 h.2.2.2.2.2.1 h.2.2.2.2.2.2.1 h.2.2.2.2.2.2.2.1 h.2.2.2.2.2.2.2.2
theorem O9 {aL aS bl bZ gy jd kO NV:Sort _}{p1:aL->aS->bl->bZ->gy->jd->kO->NV->Prop}{G:Prop}(h:∃x1 x2 x3 x4 x5 x6 x7 x8,p1 x1 x2 x3 x4 x5 x6 x7 x8)(k:∀x1 x2 x3 x4 x5 x6 x7 x8,p1 x1 x2 x3 x4 x5 x6 x7 x8->G):G:=uf h λx h=>ET h (k x)
theorem Mw {aL aS bl bZ gy jd kO NV ZK Vh:Sort _}{p1 p2 p3:aL->aS->bl->bZ->gy->jd->kO->NV->ZK->Vh->Prop}{G:Prop}(h:∃x1 x2 x3 x4 x5 x6 x7 x8 x9 Il,p1 x1 x2 x3 x4 x5 x6 x7 x8 x9 Il/\p2 x1 x2 x3 x4 x5 x6 x7 x8 x9 Il/\p3 x1 x2 x3 x4 x5 x6 x7 x8 x9 Il)(k:∀x1 x2 x3 x4 x5 x6 x7 x8 x9 Il,p1 x1 x2 x3 x4 x5 x6 x7 x8 x9 Il->p2 x1 x2 x3 x4 x5 x6 x7 x8 x9 Il->p3 x1 x2 x3 x4 x5 x6 x7 x8 x9 Il->G):G:=uf h λx1 h=>uf h λx2 h=>uf h λx3 h=>uf h λx4 h=>uf h λx5 h=>uf h λx6 h=>uf h λx7 h=>uf h λx8 h=>uf h λx9 h=>uf h λIl h=>k x1 x2 x3 x4 x5 x6 x7 x8 x9 Il h.1 h.2.1 h.2.2
section
variable {α β γ:Type}{a b:α}{H H':β}{p q:γ}{C:Prop}{c d f tk:Nat}{h':qqK}{l:List AV}{Av':qq7->Prop}{o:Option α}{v x:AV}{p1 p2 p3 p4:Prop}{ps:List PyData}{ob:OB}
theorem Mx (e:some ((Except.ok a:Except γ α),H)=some (Except.ok b,H'))(k:a=b->H=H'->C):C:=k (by cases e;rfl) (by cases e;rfl)
theorem aN (e:some (a,H)=some (b,H'))(k:a=b->H=H'->C):C:=k (by cases e;rfl) (by cases e;rfl)
theorem yJ (e:(a,H)=(b,H'))(k:a=b->H=H'->C):C:=k (by cases e;rfl) (by cases e;rfl)
theorem al (e:some a=some b)(k:a=b->C):C:=k (by cases e;rfl)
theorem jO (e:(Except.ok a:Except γ α)=Except.ok b)(k:a=b->C):C:=k (by cases e;rfl)
theorem jE (e:(Except.error p:Except γ α)=Except.error q)(k:p=q->C):C:=k (by cases e;rfl)
theorem Yy (e:some ((Except.ok a:Except γ α),H)=some (Except.error q,H')):C:=by cases e
theorem xNS (e:none=some a):C:=by cases e
theorem oz (e:some a=none):C:=by cases e
theorem xO (e:(Except.ok a:Except γ α)=Except.error q):C:=by cases e
theorem xE (e:(Except.error q:Except γ α)=Except.ok a):C:=by cases e
theorem ZL (e:true=false):C:=by cases e
theorem di (e:false=true):C:=by cases e
theorem cO.{u}{δ:Type u}(x:Option δ)(k1:x=none->C)(k2: ∀a,x=some a->C):C:=by
 cases x with
 |none=>exact k1 rfl|some a=>exact k2 a rfl
theorem cB (x:Bool)(k1:x=true->C)(k2:x=false->C):C:=by
 cases x with
 |true=>exact k1 rfl|false=>exact k2 rfl
set_option tactic.hygienic true in
theorem b7 {A B:Type}{mm:M A}{f:A->M B}{K K':HS}{r:Except AV B}(e:M.bind mm f K=some (r,K'))(k1: ∀p,mm K=some (.error p,K')->r= .error p->C)(k2: ∀a H1,mm K=some (.ok a,H1)->f a H1=some (r,K')->C):C:=by
 unfold M.bind at e;split at e
 ·cases e
 ·rename_i p H1 q;cases e;exact k1 p q rfl
 ·rename_i a H1 q;exact k2 a H1 q e
theorem hide {T:Prop}(k: ∀G:Prop,(T->G)->G):T:=k T id
theorem Dy {c:Bool}(h:(if c=true then o else none)=some a):c=true/\o=some a:=by
 cases c with
 |true=>exact⟨rfl,h⟩|false=>cases h
theorem tt {c d:Bool}(h:(c && d)=true):c=true/\d=true:=Bool.and_eq_true_iff.mp h
theorem aG {f:α->Option β}{b:β}(h:o.bind f=some b): ∃a,o=some a/\f a=some b:=qqQ.mp h
theorem d5 {f:α->β}{b:β}(h:o.map f=some b): ∃a,o=some a/\f a=b:=qqT.mp h
@[elab_as_elim] theorem aa.{v}{δ:Sort v}{a b:δ}{motive:δ->Prop}(h:a=b)(x:motive b):motive a:=h▸x
@[elab_as_elim] theorem bq.{v}{δ:Sort v}{a b:δ}{motive:δ->Prop}(h:b=a)(x:motive b):motive a:=h▸x
theorem OC {δ:Type}{a:δ}(e:a∈([]:List δ)):C:=(List.not_mem_nil e).elim
theorem NW {c:Prop} [Decidable c](h:(if c then o else none)=some a):c/\o=some a:=by
 by_cases q:c
 ·rw [if_pos q] at h;exact⟨q,h⟩
 ·rw [if_neg q] at h;cases h
theorem Yz {c:Prop} [Decidable c]{x y r:α}(h:(if c then x else y)=r)(k1:c->x=r->C)(k2: ¬c->y=r->C):C:=by
 by_cases q:c
 ·exact k1 q (by rw [<-h,if_pos q])
 ·exact k2 q (by rw [<-h,if_neg q])
theorem eS.{v}{δ:Sort v}{a b c:δ}(q:a=b)(e:a=c):b=c:=q.symm.trans e
theorem eR.{v}{δ:Sort v}{a b c:δ}(q:a=b)(e:c=b):c=a:=e.trans q.symm
theorem aQ (h1:p1)(h2:p2)(h3:p3):p1/\p2/\p3:=⟨h1,h2,h3⟩
theorem gF (h1:p1)(h2:p2)(h3:p3)(h4:p4):p1/\p2/\p3/\p4:=⟨h1,h2,h3,h4⟩
theorem cV {p1 p2 p3 p4 p5:Prop}(h1:p1)(h2:p2)(h3:p3)(h4:p4)(h5:p5):p1/\p2/\p3/\p4/\p5:=⟨h1,h2,h3,h4,h5⟩
theorem OD {p1 p2 p3 p4 p5 p6 p7 p8 p9:Prop}(h1:p1)(h2:p2)(h3:p3)(h4:p4)(h5:p5)(h6:p6)(h7:p7)(h8:p8)(h9:p9):p1/\p2/\p3/\p4/\p5/\p6/\p7/\p8/\p9:=⟨h1,h2,h3,h4,h5,h6,h7,h8,h9⟩
theorem aj {aL:Sort _}{p1 p2:aL->Prop}(x1:aL)(h1:p1 x1)(h2:p2 x1): ∃x1,p1 x1/\p2 x1:=⟨x1,h1,h2⟩
theorem aV {aL:Sort _}{p1 p2 p3:aL->Prop}(x1:aL)(h1:p1 x1)(h2:p2 x1)(h3:p3 x1): ∃x1,p1 x1/\p2 x1/\p3 x1:=⟨x1,h1,h2,h3⟩
theorem cW {aL:Sort _}{p1 p2 p3 p4:aL->Prop}(x1:aL)(h1:p1 x1)(h2:p2 x1)(h3:p3 x1)(h4:p4 x1): ∃x1,p1 x1/\p2 x1/\p3 x1/\p4 x1:=⟨x1,h1,h2,h3,h4⟩
theorem j1 {aL:Sort _}{p1 p2 p3 p4 p5:aL->Prop}(x1:aL)(h1:p1 x1)(h2:p2 x1)(h3:p3 x1)(h4:p4 x1)(h5:p5 x1): ∃x1,p1 x1/\p2 x1/\p3 x1/\p4 x1/\p5 x1:=⟨x1,h1,h2,h3,h4,h5⟩
theorem cK {aL aS:Sort _}{p1:aL->aS->Prop}(x1:aL)(x2:aS)(h1:p1 x1 x2): ∃x1 x2,p1 x1 x2:=⟨x1,x2,h1⟩
theorem ei {aL aS:Sort _}{p1 p2:aL->aS->Prop}(x1:aL)(x2:aS)(h1:p1 x1 x2)(h2:p2 x1 x2): ∃x1 x2,p1 x1 x2/\p2 x1 x2:=⟨x1,x2,h1,h2⟩
theorem cq {aL aS:Sort _}{p1 p2 p3:aL->aS->Prop}(x1:aL)(x2:aS)(h1:p1 x1 x2)(h2:p2 x1 x2)(h3:p3 x1 x2): ∃x1 x2,p1 x1 x2/\p2 x1 x2/\p3 x1 x2:=⟨x1,x2,h1,h2,h3⟩
theorem dn {aL aS:Sort _}{p1 p2 p3 p4:aL->aS->Prop}(x1:aL)(x2:aS)(h1:p1 x1 x2)(h2:p2 x1 x2)(h3:p3 x1 x2)(h4:p4 x1 x2): ∃x1 x2,p1 x1 x2/\p2 x1 x2/\p3 x1 x2/\p4 x1 x2:=⟨x1,x2,h1,h2,h3,h4⟩
theorem mJ {aL aS:Sort _}{p1 p2 p3 p4 p5:aL->aS->Prop}(x1:aL)(x2:aS)(h1:p1 x1 x2)(h2:p2 x1 x2)(h3:p3 x1 x2)(h4:p4 x1 x2)(h5:p5 x1 x2): ∃x1 x2,p1 x1 x2/\p2 x1 x2/\p3 x1 x2/\p4 x1 x2/\p5 x1 x2:=⟨x1,x2,h1,h2,h3,h4,h5⟩
theorem OE {aL aS:Sort _}{p1 p2 p3 p4 p5 p6:aL->aS->Prop}(x1:aL)(x2:aS)(h1:p1 x1 x2)(h2:p2 x1 x2)(h3:p3 x1 x2)(h4:p4 x1 x2)(h5:p5 x1 x2)(h6:p6 x1 x2): ∃x1 x2,p1 x1 x2/\p2 x1 x2/\p3 x1 x2/\p4 x1 x2/\p5 x1 x2/\p6 x1 x2:=⟨x1,x2,h1,h2,h3,h4,h5,h6⟩
theorem OF {aL aS:Sort _}{p1 p2 p3 p4 p5 p6 p7 p8 p9:aL->aS->Prop}(x1:aL)(x2:aS)(h1:p1 x1 x2)(h2:p2 x1 x2)(h3:p3 x1 x2)(h4:p4 x1 x2)(h5:p5 x1 x2)(h6:p6 x1 x2)(h7:p7 x1 x2)(h8:p8 x1 x2)(h9:p9 x1 x2): ∃x1 x2,p1 x1 x2/\p2 x1 x2/\p3 x1 x2/\p4 x1 x2/\p5 x1 x2/\p6 x1 x2/\p7 x1 x2/\p8 x1 x2/\p9 x1 x2:=⟨x1,x2,h1,h2,h3,h4,h5,h6,h7,h8,h9⟩
theorem yK {aL aS bl:Sort _}{p1:aL->aS->bl->Prop}(x1:aL)(x2:aS)(x3:bl)(h1:p1 x1 x2 x3): ∃x1 x2 x3,p1 x1 x2 x3:=⟨x1,x2,x3,h1⟩
theorem ct {aL aS bl:Sort _}{p1 p2:aL->aS->bl->Prop}(x1:aL)(x2:aS)(x3:bl)(h1:p1 x1 x2 x3)(h2:p2 x1 x2 x3): ∃x1 x2 x3,p1 x1 x2 x3/\p2 x1 x2 x3:=⟨x1,x2,x3,h1,h2⟩
theorem iD {aL aS bl:Sort _}{p1 p2 p3:aL->aS->bl->Prop}(x1:aL)(x2:aS)(x3:bl)(h1:p1 x1 x2 x3)(h2:p2 x1 x2 x3)(h3:p3 x1 x2 x3): ∃x1 x2 x3,p1 x1 x2 x3/\p2 x1 x2 x3/\p3 x1 x2 x3:=⟨x1,x2,x3,h1,h2,h3⟩
theorem kP {aL aS bl:Sort _}{p1 p2 p3 p4:aL->aS->bl->Prop}(x1:aL)(x2:aS)(x3:bl)(h1:p1 x1 x2 x3)(h2:p2 x1 x2 x3)(h3:p3 x1 x2 x3)(h4:p4 x1 x2 x3): ∃x1 x2 x3,p1 x1 x2 x3/\p2 x1 x2 x3/\p3 x1 x2 x3/\p4 x1 x2 x3:=⟨x1,x2,x3,h1,h2,h3,h4⟩
theorem j2 {aL aS bl:Sort _}{p1 p2 p3 p4 p5:aL->aS->bl->Prop}(x1:aL)(x2:aS)(x3:bl)(h1:p1 x1 x2 x3)(h2:p2 x1 x2 x3)(h3:p3 x1 x2 x3)(h4:p4 x1 x2 x3)(h5:p5 x1 x2 x3): ∃x1 x2 x3,p1 x1 x2 x3/\p2 x1 x2 x3/\p3 x1 x2 x3/\p4 x1 x2 x3/\p5 x1 x2 x3:=⟨x1,x2,x3,h1,h2,h3,h4,h5⟩
theorem gG {aL aS bl:Sort _}{p1 p2 p3 p4 p5 p6:aL->aS->bl->Prop}(x1:aL)(x2:aS)(x3:bl)(h1:p1 x1 x2 x3)(h2:p2 x1 x2 x3)(h3:p3 x1 x2 x3)(h4:p4 x1 x2 x3)(h5:p5 x1 x2 x3)(h6:p6 x1 x2 x3): ∃x1 x2 x3,p1 x1 x2 x3/\p2 x1 x2 x3/\p3 x1 x2 x3/\p4 x1 x2 x3/\p5 x1 x2 x3/\p6 x1 x2 x3:=⟨x1,x2,x3,h1,h2,h3,h4,h5,h6⟩
theorem fO {aL aS bl:Sort _}{p1 p2 p3 p4 p5 p6 p7:aL->aS->bl->Prop}(x1:aL)(x2:aS)(x3:bl)(h1:p1 x1 x2 x3)(h2:p2 x1 x2 x3)(h3:p3 x1 x2 x3)(h4:p4 x1 x2 x3)(h5:p5 x1 x2 x3)(h6:p6 x1 x2 x3)(h7:p7 x1 x2 x3): ∃x1 x2 x3,p1 x1 x2 x3/\p2 x1 x2 x3/\p3 x1 x2 x3/\p4 x1 x2 x3/\p5 x1 x2 x3/\p6 x1 x2 x3/\p7 x1 x2 x3:=⟨x1,x2,x3,h1,h2,h3,h4,h5,h6,h7⟩
theorem Cq {aL aS bl:Sort _}{p1 p2 p3 p4 p5 p6 p7 p8 p9:aL->aS->bl->Prop}(x1:aL)(x2:aS)(x3:bl)(h1:p1 x1 x2 x3)(h2:p2 x1 x2 x3)(h3:p3 x1 x2 x3)(h4:p4 x1 x2 x3)(h5:p5 x1 x2 x3)(h6:p6 x1 x2 x3)(h7:p7 x1 x2 x3)(h8:p8 x1 x2 x3)(h9:p9 x1 x2 x3): ∃x1 x2 x3,p1 x1 x2 x3/\p2 x1 x2 x3/\p3 x1 x2 x3/\p4 x1 x2 x3/\p5 x1 x2 x3/\p6 x1 x2 x3/\p7 x1 x2 x3/\p8 x1 x2 x3/\p9 x1 x2 x3:=⟨x1,x2,x3,h1,h2,h3,h4,h5,h6,h7,h8,h9⟩
theorem Kk {aL aS bl bZ:Sort _}{p1:aL->aS->bl->bZ->Prop}(x1:aL)(x2:aS)(x3:bl)(x4:bZ)(h1:p1 x1 x2 x3 x4): ∃x1 x2 x3 x4,p1 x1 x2 x3 x4:=⟨x1,x2,x3,x4,h1⟩
theorem Cr {aL aS bl bZ:Sort _}{p1 p2:aL->aS->bl->bZ->Prop}(x1:aL)(x2:aS)(x3:bl)(x4:bZ)(h1:p1 x1 x2 x3 x4)(h2:p2 x1 x2 x3 x4): ∃x1 x2 x3 x4,p1 x1 x2 x3 x4/\p2 x1 x2 x3 x4:=⟨x1,x2,x3,x4,h1,h2⟩
theorem EU {aL aS bl bZ:Sort _}{p1 p2 p3:aL->aS->bl->bZ->Prop}(x1:aL)(x2:aS)(x3:bl)(x4:bZ)(h1:p1 x1 x2 x3 x4)(h2:p2 x1 x2 x3 x4)(h3:p3 x1 x2 x3 x4): ∃x1 x2 x3 x4,p1 x1 x2 x3 x4/\p2 x1 x2 x3 x4/\p3 x1 x2 x3 x4:=⟨x1,x2,x3,x4,h1,h2,h3⟩
theorem eN {aL aS bl bZ:Sort _}{p1 p2 p3 p4:aL->aS->bl->bZ->Prop}(x1:aL)(x2:aS)(x3:bl)(x4:bZ)(h1:p1 x1 x2 x3 x4)(h2:p2 x1 x2 x3 x4)(h3:p3 x1 x2 x3 x4)(h4:p4 x1 x2 x3 x4): ∃x1 x2 x3 x4,p1 x1 x2 x3 x4/\p2 x1 x2 x3 x4/\p3 x1 x2 x3 x4/\p4 x1 x2 x3 x4:=⟨x1,x2,x3,x4,h1,h2,h3,h4⟩
theorem OG {aL aS bl bZ:Sort _}{p1 p2 p3 p4 p5:aL->aS->bl->bZ->Prop}(x1:aL)(x2:aS)(x3:bl)(x4:bZ)(h1:p1 x1 x2 x3 x4)(h2:p2 x1 x2 x3 x4)(h3:p3 x1 x2 x3 x4)(h4:p4 x1 x2 x3 x4)(h5:p5 x1 x2 x3 x4): ∃x1 x2 x3 x4,p1 x1 x2 x3 x4/\p2 x1 x2 x3 x4/\p3 x1 x2 x3 x4/\p4 x1 x2 x3 x4/\p5 x1 x2 x3 x4:=⟨x1,x2,x3,x4,h1,h2,h3,h4,h5⟩
theorem Cs {aL aS bl bZ:Sort _}{p1 p2 p3 p4 p5 p6 p7:aL->aS->bl->bZ->Prop}(x1:aL)(x2:aS)(x3:bl)(x4:bZ)(h1:p1 x1 x2 x3 x4)(h2:p2 x1 x2 x3 x4)(h3:p3 x1 x2 x3 x4)(h4:p4 x1 x2 x3 x4)(h5:p5 x1 x2 x3 x4)(h6:p6 x1 x2 x3 x4)(h7:p7 x1 x2 x3 x4): ∃x1 x2 x3 x4,p1 x1 x2 x3 x4/\p2 x1 x2 x3 x4/\p3 x1 x2 x3 x4/\p4 x1 x2 x3 x4/\p5 x1 x2 x3 x4/\p6 x1 x2 x3 x4/\p7 x1 x2 x3 x4:=⟨x1,x2,x3,x4,h1,h2,h3,h4,h5,h6,h7⟩
theorem Ct {aL aS bl bZ:Sort _}{p1 p2 p3 p4 p5 p6 p7 p8 p9:aL->aS->bl->bZ->Prop}(x1:aL)(x2:aS)(x3:bl)(x4:bZ)(h1:p1 x1 x2 x3 x4)(h2:p2 x1 x2 x3 x4)(h3:p3 x1 x2 x3 x4)(h4:p4 x1 x2 x3 x4)(h5:p5 x1 x2 x3 x4)(h6:p6 x1 x2 x3 x4)(h7:p7 x1 x2 x3 x4)(h8:p8 x1 x2 x3 x4)(h9:p9 x1 x2 x3 x4): ∃x1 x2 x3 x4,p1 x1 x2 x3 x4/\p2 x1 x2 x3 x4/\p3 x1 x2 x3 x4/\p4 x1 x2 x3 x4/\p5 x1 x2 x3 x4/\p6 x1 x2 x3 x4/\p7 x1 x2 x3 x4/\p8 x1 x2 x3 x4/\p9 x1 x2 x3 x4:=⟨x1,x2,x3,x4,h1,h2,h3,h4,h5,h6,h7,h8,h9⟩
theorem EV {aL aS bl bZ gy:Sort _}{p1 p2 p3 p4 p5 p6 p7 p8:aL->aS->bl->bZ->gy->Prop}(x1:aL)(x2:aS)(x3:bl)(x4:bZ)(x5:gy)(h1:p1 x1 x2 x3 x4 x5)(h2:p2 x1 x2 x3 x4 x5)(h3:p3 x1 x2 x3 x4 x5)(h4:p4 x1 x2 x3 x4 x5)(h5:p5 x1 x2 x3 x4 x5)(h6:p6 x1 x2 x3 x4 x5)(h7:p7 x1 x2 x3 x4 x5)(h8:p8 x1 x2 x3 x4 x5): ∃x1 x2 x3 x4 x5,p1 x1 x2 x3 x4 x5/\p2 x1 x2 x3 x4 x5/\p3 x1 x2 x3 x4 x5/\p4 x1 x2 x3 x4 x5/\p5 x1 x2 x3 x4 x5/\p6 x1 x2 x3 x4 x5/\p7 x1 x2 x3 x4 x5/\p8 x1 x2 x3 x4 x5:=⟨x1,x2,x3,x4,x5,h1,h2,h3,h4,h5,h6,h7,h8⟩
theorem OH {aL aS bl bZ gy jd:Sort _}{p1 p2:aL->aS->bl->bZ->gy->jd->Prop}(x1:aL)(x2:aS)(x3:bl)(x4:bZ)(x5:gy)(x6:jd)(h1:p1 x1 x2 x3 x4 x5 x6)(h2:p2 x1 x2 x3 x4 x5 x6): ∃x1 x2 x3 x4 x5 x6,p1 x1 x2 x3 x4 x5 x6/\p2 x1 x2 x3 x4 x5 x6:=⟨x1,x2,x3,x4,x5,x6,h1,h2⟩
theorem OI {aL aS bl bZ gy jd kO:Sort _}{p1:aL->aS->bl->bZ->gy->jd->kO->Prop}(x1:aL)(x2:aS)(x3:bl)(x4:bZ)(x5:gy)(x6:jd)(x7:kO)(h1:p1 x1 x2 x3 x4 x5 x6 x7): ∃x1 x2 x3 x4 x5 x6 x7,p1 x1 x2 x3 x4 x5 x6 x7:=⟨x1,x2,x3,x4,x5,x6,x7,h1⟩
theorem Kl {aL aS bl bZ gy jd kO:Sort _}{p1 p2 p3 p4:aL->aS->bl->bZ->gy->jd->kO->Prop}(x1:aL)(x2:aS)(x3:bl)(x4:bZ)(x5:gy)(x6:jd)(x7:kO)(h1:p1 x1 x2 x3 x4 x5 x6 x7)(h2:p2 x1 x2 x3 x4 x5 x6 x7)(h3:p3 x1 x2 x3 x4 x5 x6 x7)(h4:p4 x1 x2 x3 x4 x5 x6 x7): ∃x1 x2 x3 x4 x5 x6 x7,p1 x1 x2 x3 x4 x5 x6 x7/\p2 x1 x2 x3 x4 x5 x6 x7/\p3 x1 x2 x3 x4 x5 x6 x7/\p4 x1 x2 x3 x4 x5 x6 x7:=⟨x1,x2,x3,x4,x5,x6,x7,h1,h2,h3,h4⟩
theorem OJ {aL aS bl bZ gy jd kO:Sort _}{p1 p2 p3 p4 p5 p6 p7:aL->aS->bl->bZ->gy->jd->kO->Prop}(x1:aL)(x2:aS)(x3:bl)(x4:bZ)(x5:gy)(x6:jd)(x7:kO)(h1:p1 x1 x2 x3 x4 x5 x6 x7)(h2:p2 x1 x2 x3 x4 x5 x6 x7)(h3:p3 x1 x2 x3 x4 x5 x6 x7)(h4:p4 x1 x2 x3 x4 x5 x6 x7)(h5:p5 x1 x2 x3 x4 x5 x6 x7)(h6:p6 x1 x2 x3 x4 x5 x6 x7)(h7:p7 x1 x2 x3 x4 x5 x6 x7): ∃x1 x2 x3 x4 x5 x6 x7,p1 x1 x2 x3 x4 x5 x6 x7/\p2 x1 x2 x3 x4 x5 x6 x7/\p3 x1 x2 x3 x4 x5 x6 x7/\p4 x1 x2 x3 x4 x5 x6 x7/\p5 x1 x2 x3 x4 x5 x6 x7/\p6 x1 x2 x3 x4 x5 x6 x7/\p7 x1 x2 x3 x4 x5 x6 x7:=⟨x1,x2,x3,x4,x5,x6,x7,h1,h2,h3,h4,h5,h6,h7⟩
theorem OK {aL aS bl bZ gy jd kO NV:Sort _}{p1:aL->aS->bl->bZ->gy->jd->kO->NV->Prop}(x1:aL)(x2:aS)(x3:bl)(x4:bZ)(x5:gy)(x6:jd)(x7:kO)(x8:NV)(h1:p1 x1 x2 x3 x4 x5 x6 x7 x8): ∃x1 x2 x3 x4 x5 x6 x7 x8,p1 x1 x2 x3 x4 x5 x6 x7 x8:=⟨x1,x2,x3,x4,x5,x6,x7,x8,h1⟩
theorem bp {M:Model}{A:qqG}{k:α->Sem β}{Q:β->qq1->Prop}{E:qq0->qq1->Prop}{s:qq1}(h:qq3 M A (k a) Q E s):qq3 M A (pure a>>=k) Q E s:=wpAny_bind (wpAny_pure h)
theorem Y0: ¬(1:Int)<0:=by decide
theorem ZM {a:Nat}: ¬((a:Nat):Int)<0:=Int.not_ofNat_neg a
theorem ZN {a b:Nat}:min ((a:Nat):Int) ((b:Nat):Int)=((min a b:Nat):Int):=(Nat.le_total a b).elim (λh=>(Int.min_eq_left (Int.ofNat_le.mpr h)).trans (congrArg Nat.cast (Nat.min_eq_left h).symm)) (λh=>(Int.min_eq_right (Int.ofNat_le.mpr h)).trans (congrArg Nat.cast (Nat.min_eq_right h).symm))
theorem ZO:(1:Int)>0:=Int.one_pos
theorem ZP:(-1:Int)<0:=by intros;simp_all
theorem ZQ: ¬(-1:Int)>0:=Std.Rxo.size_eq_zero_iff_not_le.mp rfl
theorem ZR:(-(-1):Int)=1:=Int.neg_neg 1
theorem Vi {a:Nat}:Int.toNat (0+((a:Nat):Int)*1)=0+a:=(congrArg Int.toNat ((Int.zero_add _).trans (Int.mul_one _))).trans (show Int.toNat (a:Int)=0+a from(Nat.zero_add a).symm)
theorem Vj {a b:Nat}:Int.toNat (((a:Nat):Int)-1+((b:Nat):Int)*(-1))=a-1-b:=by rw [Int.mul_neg_one,<-Int.sub_eq_add_neg,Int.sub_sub];exact(Int.toNat_sub a (1+b)).trans (Nat.sub_sub a 1 b).symm
theorem o0 {a:Nat}:a<=1000->a<=16777216:=by intros;subst_vars;lia
theorem Vk {a:Int}:Int.natAbs a<2^62-> -(2^62)<a/\a<2^62:=λh=>⟨Int.neg_lt_of_neg_lt (uD (Int.le_natAbs (a:= -a)) (Int.natAbs_neg a▸Int.ofNat_lt.mpr h)),uD Int.le_natAbs (Int.ofNat_lt.mpr h)⟩
theorem Vl {a:Int}: -(2^62)<a/\a<2^62-> -(2^64)<a:=λh=>vq (by decide) h.1
theorem Vm {a:Int}: -(2^62)<a/\a<2^62->a<2^64:=λh=>vq h.2 (by decide)
theorem Vn {a:Int}:0<a->a<1000->Int.natAbs a<1073741824:=λh k=>vj (qx0 (vr h) k) (by decide)
theorem OL {a b c d e f:Nat}:a<=64->b+40*c+6*d+100<9900->e=9900->b+min f a<e:=λh k q=>q▸uJ (vE (ub (uq b (40*c)) (uq _ (6*d))) (ub (qxF f a) (ub h (by decide)))) k
theorem Im {a b c d e f:Nat}:a+40*b+6*c+100<9900->d=9900->e<=64->a+1+min f e<d:=λk q h=>q▸uJ (ub (uk (ub (qxF f e) h) (a+1)) (vE (a:=a) (c:=65) (d:=100) (ub (uq a (40*b)) (uq _ (6*c))) (by decide))) k
theorem Vo {b:Nat}{a:Int}:0<=a->Int.toNat a<b->0<=a/\a<((b:Nat):Int):=λh k=>⟨h,(Int.toNat_lt h).mp k⟩
theorem Vp {a:Int}:0<=a-> -(2^63)<=a:=λh=>uP (by decide) h
theorem OM {a:Int}:a<2^62->a<2^63:=λh=>vq h (by decide)
theorem Vq {a b c:Nat}:a=b->c<=b->c<=a:=by intros;subst_vars;omega
theorem My {a b:Nat}:a<=1000->b=a->b<=1000:=by intros;subst_vars;omega
theorem Vr {a b:Nat}:min a b=b->b<=a:=λh=>h▸vI a b
theorem Vs {a:Nat}:max 0 (min 1 ((a:Nat):Int))=((min 1 a:Nat):Int):=(congrArg (max 0) ((Nat.le_total 1 a).elim (λh=>(Int.min_eq_left (Int.ofNat_le.mpr h)).trans (congrArg Nat.cast (Nat.min_eq_left h).symm)) (λh=>(Int.min_eq_right (Int.ofNat_le.mpr h)).trans (congrArg Nat.cast (Nat.min_eq_right h).symm)))).trans (Int.max_eq_right (vn _))
theorem Vt {a:Nat}:min 1 a=a->a<=1:=λh=>h▸vI 1 a
theorem Mz {a b:Nat}:a<=1000->b=a->((b:Nat):Int)<2^63:=λh q=>uD (Int.ofNat_le.mpr (ub (uC q) h)) (by decide)
theorem yL {a b:Nat}:a<=1000->b=a->b<=16777216:=λh q=>q▸ub h (by decide)
theorem Vu {a b:Nat}:a<=b->b<a->False:=by grind
theorem Vv {a b:Nat}:a<b->a<b:=by simp
theorem Vw {a b:Nat}:a+1+b=a+(b+1):=uZ a b
theorem Vx {a b:Int}: -(2^62)<a/\a<2^62-> -(2^62)<b+a/\b+a<2^62->(-(2^63)<=a/\a<2^63)/\ -(2^63)<=b+a/\b+a<2^63:=λh k=>⟨⟨vr (vq (by decide) h.1),vq h.2 (by decide)⟩,vr (vq (by decide) k.1),vq k.2 (by decide)⟩
theorem Vy {a b:Nat}:a<=b-> ¬b=a->a+1<=b:=λh k=>Nat.lt_of_le_of_ne h (Ne.symm k)
theorem Vz {a b c:Nat}:a<b+(c+1)->a<b+1+c:=λh=>vm h (uC (uZ b c).symm)
theorem V0 {a b:Nat}:a<=1000->min a b<=16777216:=λh=>ub (vI a b) (ub h (by decide))
theorem ON {a b:Nat}:a-b=0->b<=a->b=a:=λh k=>qxL k (Nat.le_of_sub_eq_zero h)
theorem Io {a b:Nat}:a=b->a<=b:=λh1=>uC h1
theorem OO {a b c:Nat}:a-b=c+1->b<a:=λh=>Nat.lt_of_sub_eq_succ h
theorem V1 {a b c:Nat}:a<=1000->b<a->min b c<=16777216:=λh k=>ub (vI b c) (ub (Nat.le_of_lt (vm k h)) (by decide))
theorem OP {a b c:Nat}:a-b=c+1->a-(b+1)=c:=λh=>(Nat.sub_sub a b 1).symm.trans (congrArg Nat.pred h)
theorem V2 {a b c:Nat}:a<=1000->b=a->c=b->c<=1000:=by intros;subst_vars;omega
theorem V3 {a b c:Nat}:a=b->c<b->c<a:=by intros;subst_vars;omega
theorem Ip {a b:Nat}:a<=1000->min a b<=1000:=λh=>ub (vI a b) h
theorem M0 {a b:Nat}:a=b->min b a=b:=λh=>h▸Nat.min_self _
theorem V4 {a b:Nat}:a<=1000->b=a->b<4096:=λh q=>q▸uJ h (by decide)
theorem V5 {a b:Nat}:a=b->b=a:=by intros;simp_all
theorem V6 {a:Nat}:a+1<=1000->a<=999:=λh1=>vt h1
theorem V7 {a b c d:Nat}:a<=b+c->b<=d+1->a<=d+(c+1):=λh k=>ub h (ub (uo k c) (uC (uZ d c)))
theorem V8 {a b c:Nat}:a<=900->b<=min c a->b+1<=1000:=λh k=>ub (uh (ub k (ub (qxF c a) h))) (by decide)
theorem V9 {a b:Nat}:a+1=b->0<b:=λh=>h▸uH a
theorem VA {a b:Nat}:a+1=b->a=b-1:=λh=>Nat.eq_sub_of_add_eq h
theorem VB {a b:Nat}:a=b->a=b:=by simp
theorem M1 {a b:Nat}: ¬a<b->b<=a:=λh1=>qxG h1
theorem VC {a:Nat}:a>1->a≠0:=λh1=>Nat.ne_zero_of_lt h1
theorem VD {a:Nat}: ¬a>1-> ¬a=0->a=1:=λh k=>qxL (qxG h) (Nat.pos_of_ne_zero k)
theorem VE {a:Nat}:a<=1-> ¬a=0->a=1:=λh k=>qxL h (Nat.pos_of_ne_zero k)
theorem VF {a b c:Nat}: ¬a<b->c=b->c<=a:=λh q=>q▸qxG h
theorem OQ {a b:Nat}:a=b->b<=a:=λh1=>uC (id (Eq.symm h1))
theorem VG {a b:Nat}:a<=2->b=a->b<=16777216:=by intros;subst_vars;lia
theorem VH {a b:Nat}:a<=2->b=a->b<64:=λh q=>q▸uJ h (by decide)
theorem VI {a b c:Nat}:a<=2->b=a->c=b->c<=1000:=λh q r=>r▸q▸ub h (by decide)
theorem OR {a:Nat}:a<=2->a<=16777216:=by intros;subst_vars;lia
theorem OS {a:Nat}:a<=2->a<=16777216+1:=λh=>ub h (by decide)
theorem VJ {a b:Nat}:a<=2->b=a->b<=2:=λh1 h2=>le_of_eq_of_le h2 h1
theorem VK {a:Nat}:a<=3->a<=900:=λh=>ub h (by decide)
theorem VL {a b:Nat}:a<=15->b=a->b<=15:=λh1 h2=>le_of_eq_of_le h2 h1
theorem VM {a:Nat}:a<=15->a<=1000:=λh=>ub h (by decide)
theorem VN {a b:Nat}:a<b->0<((b:Nat):Int)-((a:Nat):Int):=λh=>Int.sub_pos_of_lt (Int.ofNat_lt.mpr h)
theorem VO {a:Nat}:0+(((a:Nat):Int)+1)*1=0+((a:Nat):Int)*1+1:=Eq.symm ((λ{a b}=>Int.neg_inj.mp) rfl)
theorem VP {a b:Nat}:((a:Nat):Int)-(((b:Nat):Int)+1)=((a:Nat):Int)-((b:Nat):Int)-1:=Eq.symm (Int.sub_sub (↑a) (↑b) 1)
theorem VQ {a:Nat}:0+((a:Nat):Int)*1=((a:Nat):Int):=(Int.zero_add _).trans (Int.mul_one _)
theorem VS {a b:Nat}:a<b->b+1-(a+1)<b+1-a:=λh=>Nat.sub_succ_lt_self (b+1) a (vQ h)
theorem VT {a b:Nat}:a<b->b-(a+1)<b-a:=λh=>Nat.sub_succ_lt_self b a h
theorem VU {a b c d:Nat}:a=b->b<=c->c<d->d<=1000->a<=16777216:=λq h k p=>q▸ub h (ub (Nat.le_of_lt k) (ub p (by decide)))
theorem VW:(-(2^62):Int)<=0:=Int.neg_ofNat_le_ofNat (2^62) 0
theorem VX:(0:Int)<2^62:=by intros;simp_all
theorem VY {a:Nat}: -(2^62)<=((a:Nat):Int):=Int.neg_ofNat_le_natCast (2^62) a
theorem VZ {a:Nat}:a<1000->((a:Nat):Int)<2^62:=λh=>vq (Int.ofNat_lt.mpr h) (by decide)
theorem M2 {a b:Nat}:a<=b+1->a+1<=b+1+1:=λh1=>uo h1 1
theorem OT {a b:Nat}:a<1000->b<=a+1->b<=16777216+1:=λh k=>ub k (ub h (by decide))
theorem OU {a:Nat}:a<29->a<30:=λh1=>vQ h1
theorem V_ {a b c:Nat}:a+40*b+6*c+100<9900->a+1<9900:=λk=>uJ (vE (ub (uq a (40*b)) (uq _ (6*c))) (by decide)) k
theorem Wa {a:Nat}:a<1000->a<=999:=λh1=>vt h1
theorem Wb {a b c:Nat}:a=b->b+c<=1000->a+c<=16777216:=λq h=>q▸ub h (by decide)
theorem OV {a b c:Nat}:a=b->b+c<=1000->a<=16777216:=λq h=>q▸ub (uq b c) (ub h (by decide))
theorem OW {a b c d:Nat}:a=b->b+c<=1000->d=c->a+d<=16777216+1:=λp h q=>p▸q▸ub h (by decide)
theorem OX {a b:Nat}:a+b<=1000->a+b<=1000:=by intros;subst_vars;omega
theorem Wc {a:Nat}:a<=1000->a<=1001:=λh1=>uM h1
theorem Wd {a b c:Nat}:a=b->0<b->c=a->c-1<c:=λh k q=>Nat.pred_lt_of_lt (q▸h▸k)
theorem We {a:Nat}:a<=a-1+1:=Nat.le_succ_of_pred_le (ur _)
theorem Wf {a b c:Nat}:a<=1000->b=c->c=a->b<=16777216:=λh q r=>q▸r▸ub h (by decide)
theorem Wg {a b:Nat}:a=b->min b a+1=b+1:=λh=>h▸congrArg Nat.succ (Nat.min_self _)
theorem Wh {a b:Nat}:a<1000->b=a->b<=16777216:=λh q=>q▸ub (Nat.le_of_lt h) (by decide)
theorem Wi {b:Nat}{a:Int}:0<=a/\Int.toNat a<b->b<=1000->a<2^63:=λh k=>Int.lt_of_lt_of_le ((Int.toNat_lt h.1).mp h.2) (uP (Int.ofNat_le.mpr k) (by decide))
theorem OY {a b:Nat}:a<=b+1->a<=b+1:=by intros;subst_vars;omega
theorem Wj {a b:Nat}:a<1000->b=a->b<1000:=λh1 h2=>lt_of_eq_of_lt h2 h1
theorem Wk {a b c:Nat}:a+1=b->c=b->c=a+1:=λh k=>k.trans h.symm
theorem Wl {a b:Nat}:a+1=b->b<=a+1:=λh1=>uC (id (Eq.symm h1))
theorem OZ {a b:Nat}:a+1<b->a<b:=λh1=>Nat.lt_of_succ_lt h1
theorem O_ {a b c:Nat}:a+1<b->c=a+1->c<b:=λh1 h2=>lt_of_eq_of_lt h2 h1
theorem Pb {a b:Nat}:a+4*b+4<1000->a+2<1000:=λh=>uJ (vE (uq a (4*b)) (by decide)) h
theorem Pc {a b c d:Nat}:a=b->c=b->d=a+1->d=c+1:=λh k q=>q.trans (congrArg Nat.succ (h.trans k.symm))
theorem Pd {a b c:Nat}:a=b->c=b->a<=c:=λh k=>uC (h.trans k.symm)
theorem Cu {a:Nat}:a+1<=a+2:=uF (a+1)
theorem EW {a:Nat}:a<=a+1+1:=by grind
theorem Pe {a b:Nat}:a=b+1->a+1=b+2:=λh=>congrArg Nat.succ h
theorem Pf {a b:Nat}:a<=b+2->a+3<=b+5:=λh=>uo h 3
theorem Pg {a b:Nat}:a+4*(b+1)+4<1000->a<1000:=λh=>uJ (ub (uq a _) (uq _ 4)) h
theorem Ph {a b:Nat}:a+4*(b+1)+4<1000->a+1+4*b+4<1000:=λh=>uJ (uo (ub (uo (uk (k:=a) (show 1<=4 by decide)) (4*b)) (uC (by rw [uV,vH 4];rfl))) 4) h
theorem Pj {a b:Nat}:a+40*(b+1)+6*3+100<9900->a+3+40*b+6*3+100<9900:=λh=>uJ (uo (uo (ub (uo (uk (k:=a) (show 3<=40 by decide)) (40*b)) (uC (by rw [uV,vH 40];rfl))) (6*3)) 100) h
theorem Pk {a b:Nat}:a+4*(b+1)+4<1000->a+1<1000:=λh=>uJ (vE (uq a (4*(b+1))) (by decide)) h
theorem Pl {a b c:Nat}:a+4*(b+1)+4<1000->c=a+2->c+4*b+4<1000:=λh q=>q▸uJ (uo (ub (uo (uk (k:=a) (show 2<=4 by decide)) (4*b)) (uC (by rw [uV,vH 4];rfl))) 4) h
theorem Pm {a b c:Nat}:a+40*(b+1)+6*3+100<9900->c<=a+5->c+40*b+6*3+100<9900:=λh k=>uJ (uo (uo (ub (uo (ub k (uk (k:=a) (show 5<=40 by decide))) (40*b)) (uC (by rw [uV,vH 40];rfl))) (6*3)) 100) h
theorem Pn {a b c d:Nat}:a<=b+1->c<=d+1->max a c<=max b d+1:=λh k=>Nat.max_le.mpr ⟨ub h (uh (uW b d)),ub k (uh (uS b d))⟩
theorem Po:1<=3/\1<=3:=by intros;simp_all
theorem Pp:1<=3/\1+1<=3:=⟨by decide,by decide⟩
theorem Pq:1+1<=3/\1<=3:=by intros;simp_all
theorem Pr {a:Nat}:a<=2->a<=3/\a<=3:=λh=>⟨uM h,uM h⟩
theorem Pt {a:Nat}:a<=2->a+1<=3/\max a 1+1<=3:=λh=>⟨uh h,uh (Nat.max_le.mpr ⟨h,by decide⟩)⟩
theorem Pu {a b:Nat}:a<=2->b<=2->max a b+1<=3/\max b a+1<=3:=λh k=>⟨uh (Nat.max_le.mpr ⟨h,k⟩),uh (Nat.max_le.mpr ⟨k,h⟩)⟩
theorem Pw:1+1<=3/\1+1<=3:=⟨by decide,by decide⟩
theorem Px {a b:Nat}:a<=3/\b<=3->a<=3+0/\b<=3+0:=id
theorem Py {a b c:Nat}:a<=3+b/\c<=3+b->c<=3+(b+1)/\a<=3+(b+1):=λh=>⟨uM h.2,uM h.1⟩
theorem Pz {a b c:Nat}:a<=3+b/\c<=3+b->a+1<=3+(b+1)/\c+1<=3+(b+1):=λh=>⟨uh h.1,uh h.2⟩
theorem mK {a:Nat}:0+12<=a->a=a-12+12:=λh=>(vF h).symm
theorem Cv {a b:Nat}:a+1+12<=b->b=b-13+12+1:=λh=>(vF (m:=13) (ub (uj 13 a) h)).symm
theorem Cw {a b:Nat}:a+(b+1)<=7->b<=50:=λh=>ub (uF b) (ub (uj _ a) (ub h (by decide)))
theorem gH {a b:Nat}:a+(b+1)<=7->a+1+b<=7:=λh=>uZ a b▸h
theorem Cy {a b:Nat}:a+1+12<=b+12+1->a+12<=b+12:=λh1=>vt h1
theorem mM {a b:Nat}:a+(b+1)<=7->a<=6:=λh=>vp (ub (uh (uq a b)) h)
theorem Cz {a b c:Nat}:max a b+1+12<=c->c=c-13+12+1:=λh=>(vF (m:=13) (ub (uj 13 (max a b)) h)).symm
theorem C0 {a b c:Nat}:a+(max b c+1)<=7->b<=50:=λh=>ub (uW b c) (ub (uF _) (ub (uj _ a) (ub h (by decide))))
theorem gI {a b c:Nat}:a+(max b c+1)<=7->a+1+b<=7:=λh=>ub (ub (uC (uZ a b)) (uk (uh (uW b c)) a)) h
theorem C1 {a b c:Nat}:max a b+1+12<=c+12+1->a+12<=c+12:=λh=>ub (uo (uW a b) 12) (vp h)
theorem gJ {a b c:Nat}:a+(max b c+1)<=7->a<=6:=λh=>vp (ub (uh (uq a (max b c))) h)
theorem C2 {a b c:Nat}:a+(max b c+1)<=7->c<=50:=λh=>ub (uS b c) (ub (uF _) (ub (uj _ a) (ub h (by decide))))
theorem gK {a b c:Nat}:a+(max b c+1)<=7->a+1+c<=7:=λh=>ub (ub (uC (uZ a c)) (uk (uh (uS b c)) a)) h
theorem C3 {a b c:Nat}:max a b+1+12<=c+12+1->b+12<=c+12:=λh=>ub (uo (uS a b) 12) (vp h)
theorem Km {a b c d e:Nat}:a+(max b c+1)<=7->d<=3+b/\e<=3+b->e<=60:=λh k=>ub k.2 (ub (uk (ub (uW b c) (ub (uF _) (ub (uj _ a) h))) 3) (by decide))
theorem Kn {a b c d e:Nat}:a+(max b c+1)<=7->d<=3+c/\e<=3+c->d<=60:=λh k=>ub k.1 (ub (uk (ub (uS b c) (ub (uF _) (ub (uj _ a) h))) 3) (by decide))
theorem Ko {a b:Nat}:a+(b+1)=a+b+1:=by grind
theorem P0 {a:Nat}:a<=900->a+1<=1000:=by grind
theorem P1 {a:Nat}:a+2<=1000->a<=1000:=λh1=>qx7 h1
theorem P2 {a:Nat}:a+2<=1000->a<=999:=by lia
theorem P4 {a:Nat}:a+2<=1000->a<=998:=λh1=>Nat.add_le_add_iff_right.mp h1
theorem fD {a:Nat}:a+0<=7->a<=7:=by intros;subst_vars;omega
theorem C4 {a:Nat}:a+1<=1000->a<1000:=λh1=>Nat.lt_of_succ_le h1
theorem EY {a:Nat}:a+1+2<=1000->a+2<=1000:=λh1=>uO h1
theorem mN {a b:Nat}:a+(b+1)<=7->a<=7:=λh1=>qx7 h1
theorem Kp {a b:Nat}:a+(b+1)<=1000->a<1000:=λh1=>Nat.lt_of_add_right_lt h1
theorem Kq {a b:Nat}:a+(b+1)+2<=1000->a+2<=1000:=λh=>ub (uo (uq a (b+1)) 2) h
theorem Kr {a b:Nat}:a+(b+1)<=1000->a+1+b<=1000:=by intros;subst_vars;omega
theorem Ks {a b:Nat}:a+(b+1)+2<=1000->a+b+2<=1000:=λh1=>uO h1
theorem Kt {a b:Nat}:a+1+b=a+b+1:=uK a 1 b
theorem j3 {a b c:Nat}:a+(max b c+1)<=7->a<=7:=λh1=>qx7 h1
theorem Ku {a b c:Nat}:a+(b+c+1)<=1000->a<1000:=λh=>vm (Nat.lt_succ_of_le (uq a (b+c))) h
theorem Kv {a b c:Nat}:a+(b+c+1)+2<=1000->a+2<=1000:=λh=>ub (uo (uq a ((b+c)+1)) 2) h
theorem Kw {a b c:Nat}:a+(b+c+1)<=1000->a+1+c<=1000:=λh=>ub (uC (uZ a c)) (ub (uk (uh (uj c b)) a) h)
theorem Ky {a b c:Nat}:a+(b+c+1)+2<=1000->a+1+c<=998:=λh=>ub (uC (uZ a c)) (ub (uk (uh (uj c b)) a) (vp (vp h)))
theorem Kz {a b c:Nat}:a+(b+c+1)<=1000->a+(c+1)+b<=1000:=λh=>ub (uC (by rw [uV,uK c 1,vH c b])) h
theorem K4 {a b c:Nat}:a+(b+c+1)+2<=1000->a+b+2<=1000:=λh=>ub (uo (uk (uM (uq b c)) a) 2) h
theorem K5 {a b c:Nat}:a+b+1+c=b+(a+c)+1:=by grind
theorem EZ {a:Nat}:a<=900->a<=1000:=by lia
theorem P5 {a:Nat}:a<=900->a<=998:=by grind
theorem P6 {a:Nat}:a<=900->a+(1000-a)=1000:=λh=>Nat.add_sub_cancel' (ub h (by decide))
theorem P7 {a:Nat}:a<=900->1000-a=1000-a-1+1:=λh=>(Nat.succ_pred_eq_of_pos (Nat.sub_pos_of_lt (uJ h (by decide)))).symm
theorem P8 {a b c:Nat}:a+(b+c)<=1000->a+b<=1000:=λh=>ub (uk (uq b c) a) h
theorem P9 {a b:Nat}:a+(b+1)<=1000->a+b<=1000:=λh1=>uO h1
theorem PA {a b c:Nat}:a+(b+1)<=1000->c<=a+b->c<1000:=λh1 h2=>uJ h2 h1
theorem PB {a b c d:Nat}:a<=b+c->d<=a+1->d<=b+(c+1):=λh k=>ub k (uh h)
theorem PC {a b c d:Nat}:a+(b+c+d)<=1000->a+b<=1000:=λh=>ub (uk (ub (uq b c) (uq _ d)) a) h
theorem PD {a b c d e:Nat}:a+(b+c+d)<=1000->e<=a+b->e+c<=1000:=λh k=>ub (ub (uo k c) (ub (uC (uV a b c)) (uk (uq _ d) a))) h
theorem PH {a b c:Nat}:a+(b+c+1)<=1000->a+b<=1000:=λh=>ub (uk (uM (uq b c)) a) h
theorem PJ {a b c d:Nat}:a+(b+c+1)<=1000->d<=a+b->d+c<=1000:=λh k=>ub (ub (uo k c) (ub (uC (uV a b c)) (uF _))) h
theorem PK {a b c d e:Nat}:a+(b+c+1)<=1000->d<=a+b->e<=d+c->e<1000:=λh k q=>vm (Nat.lt_succ_of_le (ub q (ub (uo k c) (uC (uV a b c))))) h
theorem PL {a b c d e f:Nat}:a<=b+c->d<=a+e->f<=d+1->f<=b+(c+e+1):=λh k q=>ub q (uh (ub k (ub (uo h e) (uC (uV b c e)))))
theorem PM {a:Nat}: ¬a<32->a≠31:=λh k=>h (k▸by decide)
theorem PN {a:Nat}: ¬a<32-> ¬a=0:=λh k=>h (k▸by decide)
theorem PO {a:Nat}: ¬a<32-> ¬a=1:=λh k=>h (k▸by decide)
theorem PP {a:Nat}: ¬a<32-> ¬a=2:=λh k=>h (k▸by decide)
theorem PQ {a:Nat}: ¬a<32-> ¬a<7:=λh k=>h (vj k (by decide))
theorem PR {a:Nat}: ¬a<32-> ¬a<11:=λh k=>h (vj k (by decide))
theorem PS {a:Nat}: ¬a<32-> ¬a<27:=λh k=>h (vj k (by decide))
theorem PT {a:Nat}:a<=7->a<=50:=λh=>ub h (by decide)
theorem K6 {a b c:Nat}:a<=b->c<=b->max a c<=b:=λh1 h2=>Nat.max_le_of_le_of_le h1 h2
theorem mP {a b:Nat}:a<=b->a+1<=b+1:=λh1=>uo h1 1
theorem yM:0<=1:=uG 1
theorem C5 {a:Nat}:1<=a+1:=uj 1 a
theorem PU {a b:Nat}:a+1<=b->b=b-1+1:=λh=>(Nat.succ_pred_eq_of_pos (vm (uH a) h)).symm
theorem PV {a b:Nat}:a+1<=b+1->a<=b:=λh1=>vt h1
theorem C6 {a:Nat}:a<=a+1:=uq a 1
theorem E_ {a:Nat}:a<=a+2:=uq a 2
theorem PW:0<=60:=uG 60
theorem mQ {a:Nat}:1<=a+1+1:=uj 1 (a+1)
theorem Fa {a:Nat}:a<=50->a+1<=60:=λh=>ub (uh h) (by decide)
theorem K7 {a b:Nat}:a+(b+1)<=7->b<=7:=λh=>ub (uF b) (ub (uj _ a) h)
theorem PX {a:Nat}:6+3*a+1<=6+3*(a+1):=by grind
theorem PY {a b:Nat}:a+(b+1)<=7->6+3*b<=50:=λh=>ub (uk (vy 3 (ub (uF b) (ub (uj _ a) h))) 6) (by decide)
theorem PZ {a:Nat}:6+3*a+3<=6+3*(a+1):=ur _
theorem K8 {a b c:Nat}:a+(max b c+1)<=7->b<=7:=λh=>ub (uW b c) (ub (uF _) (ub (uj _ a) h))
theorem K9 {a b c:Nat}:a+(max b c+1)<=7->c<=7:=λh=>ub (uS b c) (ub (uF _) (ub (uj _ a) h))
theorem KC {a b:Nat}:6+3*a<=6+3*max a b:=uk (vy 3 (uW a b)) 6
theorem KD {a b:Nat}:6+3*a<=6+3*max b a:=uk (vy 3 (uS b a)) 6
theorem P_ {a b:Nat}:6+3*max a b+2<=6+3*(max a b+1):=uF _
theorem Qa {a b c:Nat}:a+(max b c+1)<=7->6+3*max b c<=50:=λh=>ub (uk (vy 3 (ub (uF _) (ub (uj _ a) h))) 6) (by decide)
theorem Qb {a b:Nat}:6+3*max a b+3<=6+3*(max a b+1):=ur _
theorem Qc {a b:Nat}{c:Int}:a<=b->c+((b:Nat):Int)<=100000->c+((a:Nat):Int)<=100000:=λh k=>uP (vh (Int.ofNat_le.mpr h) c) k
theorem Qd {a:Int}:0<=a->a<4000000000000000000->Int.natAbs a<2^62:=λh k=>vj (qx0 h k) (by decide)
theorem Qe {a b:Int}:0<=a->b+a<4000000000000000000->b<4000000000000000000:=λh k=>uD (vK h) k
theorem Qf {a b:Int}:0<=a->a+b<4000000000000000000->b<4000000000000000000:=λh k=>uD (Int.le_add_of_nonneg_left h) k
theorem Qg {a b:Int}:0<=a->0<=b->0<=a+b:=λh1 h2=>Int.add_nonneg h1 h2
theorem KE {a:Int}:0<a->0<=a:=λh1=>vr h1
theorem Qh {a:Int}:0<a->1<=a:=λh1=>Int.le_of_sub_one_lt h1
theorem Qi {a b:Int}:a*b<4000000000000000000->a<=a*b->a<4000000000000000000:=λh k=>uD k h
theorem KG {a:Nat}:0<a->0<((a:Nat):Int):=λh1=>Int.natCast_pos.mpr h1
theorem KH {a:Nat}:0<a->((a:Nat):Int)≠0:=λh1=>Int.natCast_ne_zero_iff_pos.mpr h1
theorem KJ {a:Int}:0<=a->0<=a+1:=λh1=>Int.le_add_one h1
theorem Qj {b:Nat}{a:Int}:a+((b+1:Nat):Int)<=100000->a+1+((b:Nat):Int)<=100000:=by lia
theorem Fb:(0:Int)<=1:=Int.one_nonneg
theorem Fc {b:Nat}{a:Int}:a+((b+1:Nat):Int)<=100000->a+1<4000000000000000000:=λh=>uD (uP (vh (Int.ofNat_le.mpr (uh (uG b))) a) h) (by decide)
theorem KL {b:Nat}{a:Int}:0<=a->a+1<=((b:Nat):Int)->Int.toNat a<b:=λh k=>(Int.toNat_lt h).mpr k
theorem KN:(1:Int)<4000000000000000000:=by intros;simp_all
theorem Qk {a:Int}:0<=a->0<=a+1-1:=by intros;simp_all
theorem Ql {b:Nat}{a:Int}:a+((b+1:Nat):Int)<=100000->a+1-1<4000000000000000000:=λh=>uD (uP (qxC (Int.add_sub_cancel a 1)) (uP (vK (vn _)) h)) (by decide)
theorem Qm {b:Nat}{a:Int}:a+((b+1:Nat):Int)<=100000->a<4000000000000000000:=λh=>uD (uP (vK (vn _)) h) (by decide)
theorem KO {b:Nat}{a:Int}:a+((b+1:Nat):Int)<=100000->a+1<=100000:=λh=>uP (vh (Int.ofNat_le.mpr (uh (uG b))) a) h
theorem yN {b:Nat}{a:Int}: ¬a+1<=((b:Nat):Int)->0<=a+1:=λh=>uP (vn b) (vr (Int.not_le.mp h))
theorem Qn:(0:Int)<=100000:=Int.zero_le_ofNat 100000
theorem Qo {b:Nat}{a:Int}: ¬a+1<=((b:Nat):Int)->0<a+1:=λh=>uD (vn b) (Int.not_le.mp h)
theorem Qp {a:Int}:(a+1)*(a+1)<=100000*100000->(a+1)*(a+1)<4000000000000000000:=λh=>uD h (by decide)
theorem Qq:(0:Int)<13:=by intros;simp_all
theorem Qr {a:Int}:(a+1)*(a+1)<=100000*100000->(a+1)*(a+1)*13<4000000000000000000:=λh=>uD (vf h (by decide)) (by decide)
theorem Qs:(13:Int)<4000000000000000000:=by simp
theorem Qt:(0:Int)<5:=by intros;simp_all
theorem Qu {b:Nat}{a:Int}:a+((b+1:Nat):Int)<=100000->(a+1)*5<4000000000000000000:=λh=>uD (vf (uP (vh (Int.ofNat_le.mpr (uh (uG b))) a) h) (by decide)) (by decide)
theorem Qv:(5:Int)<4000000000000000000:=by intros;simp_all
theorem Qw {a:Int}:0<=(a+1)*(a+1)->0<=(a+1)*(a+1)*13:=λh=>vR h (by decide)
theorem Qx {b:Nat}{a:Int}: ¬a+1<=((b:Nat):Int)->0<=(a+1)*5:=λh=>vR (uP (vn b) (vr (Int.not_le.mp h))) (by decide)
theorem Qy {b:Nat}{a:Int}:a+((b+1:Nat):Int)<=100000->(a+1)*(a+1)<=100000*100000->(a+1)*(a+1)*13+(a+1)*5<4000000000000000000:=λh k=>uD (Int.add_le_add (vf k (by decide)) (vf (uP (vh (Int.ofNat_le.mpr (uh (uG b))) a) h) (by decide))) (by decide)
theorem Qz {b:Nat}{a:Int}: ¬a+1<=((b:Nat):Int)->0<=(a+1)*(a+1)->0<=(a+1)*(a+1)*13+(a+1)*5:=λh k=>Int.add_nonneg (vR k (by decide)) (vR (uP (vn b) (vr (Int.not_le.mp h))) (by decide))
theorem Q0 {a:Int}:0<=a->0<=a:=by simp
theorem Q1 {b:Nat}{a c:Int}:a+((b+1:Nat):Int)<=100000->c<=1000000000->(a+1)*(a+1)<=100000*100000->(a+1)*(a+1)*13+(a+1)*5+c<4000000000000000000:=λh q k=>uD (Int.add_le_add (Int.add_le_add (vf k (by decide)) (vf (uP (vh (Int.ofNat_le.mpr (uh (uG b))) a) h) (by decide))) q) (by decide)
theorem Q2 {a:Nat}:a<3->a<27:=λh=>vj h (by decide)
theorem Q3 {a:Nat}:a<4->3+a<27:=λh=>vj (Nat.add_lt_add_left h 3) (by decide)
theorem Q4 {a:Nat}:a<4->7+a<27:=λh=>vj (Nat.add_lt_add_left h 7) (by decide)
theorem Q5 {a b:Nat}:a<4->b<4->11+4*a+b<27:=λh k=>uJ (vE (uk (vy 4 (vt h)) 11) (vt k)) (by decide)
theorem Q6 {a:Nat}:0<=((a+1:Nat):Int):=vn (a+1)
theorem Q7 {a:Nat}:a<1000->((a+1:Nat):Int)<4000000000000000000:=λh=>uD (Int.ofNat_le.mpr h) (by decide)
theorem Q8 {a:Nat}:0<=((a+1:Nat):Int)-1:=by intros;simp_all
theorem Q9 {a:Nat}:a<1000->((a+1:Nat):Int)-1<4000000000000000000:=λh=>uD (qxC (Int.add_sub_cancel (a:Int) 1)) (vq (Int.ofNat_lt.mpr h) (by decide))
theorem QA {a:Nat}:((a+1:Nat):Int)-1=((a:Nat):Int):=Int.sub_eq_iff_eq_add.mpr rfl
theorem QB {a:Nat}:((a+1:Nat):Int)>0:=Int.ofNat_succ_pos a
theorem QC {a b:Nat}:a+14+b=a+13+b+1:=Eq.symm (uK (a+13) b 1)
theorem QD {a:Nat}:3<=a->3<=1+2*a:=λh=>ub h (ub (Nat.le_mul_of_pos_left a (show 0<2 by decide)) (uj _ 1))
theorem QE {a b:Nat}:3<=a->b+3<=b+2*a:=λh=>uk (ub h (Nat.le_mul_of_pos_left a (by decide))) b
theorem QF {a b:Nat}:a+14+b=a+1+b+13:=Eq.symm (uK (a+1) b 13)
theorem Fd {a:Nat}:a+1<=10->a<=10:=λh1=>uO h1
theorem QG {a:Nat}:a<5-> ¬a=0->a=1\/a=2\/a=3\/a=4:=λh k=>(show∀a,a<5->(¬(a=0))->((a=1)\/((a=2)\/((a=3)\/(a=4)))) by decide) a h k
theorem Fe {a:Nat}:a+1<=10->a<1000:=λh=>vm h (by decide)
theorem KP {a b:Nat}:a<=2*b->a+1<=2*(b+1):=λh=>uM (uh h)
theorem KQ {a b:Nat}:a<=a+b:=uq a b
theorem QH {a b c d:Nat}:a+1<=10->b<=2*a->c<=3+b/\d<=3+b->c<=60:=λh k q=>ub q.1 (ub (uk (ub k (vy 2 (uO h))) 3) (by decide))
theorem QI {a b c d:Nat}:a+1<=10->b<=2*a->c<=3+b/\d<=3+b->d<=60:=λh k q=>ub q.2 (ub (uk (ub k (vy 2 (uO h))) 3) (by decide))
theorem KR {a b c:Nat}:a<=2*b->c<=2*b->max a c+1<=2*(b+1):=λh k=>uh (uM (Nat.max_le.mpr ⟨h,k⟩))
theorem QJ {a b:Nat}:a<=2*b->max a (a+1)+1<=2*(b+1):=λh=>uh (Nat.max_le.mpr ⟨uM h,uh h⟩)
theorem KS {a b c:Nat}:a<=b->a+1<=max b c+1:=λh=>uh (ub h (uW b c))
theorem KU {a b c:Nat}:a<=b->a+1<=max c b+1:=λh=>uh (ub h (uS c b))
theorem QK {a:Nat}:a<=900->1+a<=1000:=by intros;subst_vars;lia
theorem QL {a b:Nat}:a+b<=1000->b<=1000:=λh1=>Nat.le_of_add_left_le h1
theorem QM {a b:Nat}:a<=899->b=a->1+b<=1000:=λh q=>q▸ub (uk h 1) (by decide)
theorem QN {a b c:Nat}:a=b+1->a<=50->c<=b->c<=900:=λq h k=>ub k (ub (uF b) (ub (uC q.symm) (ub h (by decide))))
theorem QO {a b:Nat}:a+13+b=a+1+b+12:=Eq.symm (uK (a+1) b 12)
theorem QP {a b c:Nat}:a+13+max b c=a+(max b c-b)+13+b:=by rw [uK a 13,uK _ 13 b,uV a (max b c-b) b,vF (uW b c)]
theorem QQ {a b c:Nat}:a+13+max b c=a+(max b c-c)+13+c:=by rw [uK a 13,uK _ 13 c,uV a (max b c-c) c,vF (uS b c)]
theorem QR {a b c:Nat}:a+b<=899->c=a->1+c<=1000:=λh p=>p▸ub (uk (ub (uq a b) h) 1) (by decide)
theorem QS {a b c d:Nat}:a=max b c+1->a<=50->d<=b->d<=900:=λq h k=>ub k (ub (uW b c) (ub (uF _) (ub (q▸h) (by decide))))
theorem QT {a b c d:Nat}:a+b<=899->c=a->d=b->c+1+d<=1000:=λh p q=>p▸q▸ub (uC (Nat.succ_add a b)) (ub (uh h) (by decide))
theorem QU {a b c d:Nat}:a=max b c+1->a<=50->d<=c->d<=900:=λq h k=>ub k (ub (uS b c) (ub (uF _) (ub (q▸h) (by decide))))
theorem QV {a b c:Nat}:a+13+max b c=a+1+max b c+12:=Eq.symm (uK (a+1) (max b c) 12)
theorem KV {a:Nat}:a+1<=900->a<=899:=λh1=>vt h1
theorem KW {a:Nat}:a+1<=50->a<=50:=λh1=>uO h1
theorem KY {a:Nat}:a+1<=900->a<=900:=λh1=>uO h1
theorem KZ {a b:Nat}:a+b+1<=900->a+b<=899:=λh1=>vt h1
theorem K_ {a b:Nat}:max a b+1<=50->a<=50:=λh=>ub (uW a b) (uO h)
theorem La {a b:Nat}:a+b+1<=900->a<=900:=λh=>ub (uq a b) (uO h)
theorem Lb {a b:Nat}:max a b+1<=50->b<=50:=λh=>ub (uS a b) (uO h)
theorem Lc {a b:Nat}:a+b+1<=900->b<=900:=λh=>ub (uj b a) (uO h)
theorem C7 {a:Nat}:0<=((a:Nat):Int):=vn a
theorem QW {a:Nat}:a<20->((a:Nat):Int)<4000000000000000000:=λh=>vq (Int.ofNat_lt.mpr h) (by decide)
theorem C8 {a b:Nat}:a+13+(b+1)=a+b+1+13:=uK a 13 (b+1)
theorem Ld {a b:Nat}:a+b+1+12=a+13+b:=Eq.symm (uK a 13 b)
theorem mR {a b c:Nat}:a+13+(max b c+1)=a+max b c+1+13:=uK a 13 (max b c+1)
theorem Le {a b c:Nat}:a<=b+1->max a c+1<=max b c+1+1:=λh=>uh (Nat.max_le.mpr ⟨ub h (uh (uW b c)),uM (uS b c)⟩)
theorem Lf {a b c:Nat}:a+max b c+1+12=a+(max b c-b)+13+b:=by grind
theorem Lg {a b c:Nat}:a<=b+1->max c a+1<=max c b+1+1:=λh=>uh (Nat.max_le.mpr ⟨uM (uW c b),ub h (uh (uS c b))⟩)
theorem Lh {a b c:Nat}:a+max b c+1+12=a+(max b c-c)+13+c:=by grind
theorem Li {a b:Nat}:a+1<=b->a+1+1<=b*2:=λh=>(Nat.mul_two b).symm▸vE h (ub (uH a) h)
theorem Lj {a b:Nat}:a+1<=max a b+1:=uh (uW a b)
theorem Lk {a b:Nat}:a+1<=max b a+1:=uh (uS b a)
theorem Ll {a b c d e:Nat}:a+1<=b->c+1<=d->b<=e->d<=e->a+c+1+1<=e*2:=λh k p q=>(Nat.mul_two e).symm▸ub (uC (congrArg Nat.succ (uK a c 1))) (vE (ub h p) (ub k q))
theorem QX {a:Nat}:a<=7->a+1<=8:=λh1=>uh h1
theorem QY {a b:Nat}:a+1<=b->b<=2^8->a<=900:=λh k=>ub (uO h) (ub k (by decide))
theorem QZ:1<=12:=Nat.le_of_ble_eq_true rfl
theorem Q_ {a b c:Nat}:a<=7->b<=3+a/\c<=3+a->b<=10:=λh k=>ub k.1 (uk h 3)
theorem Ra {a b c:Nat}:a<=7->b<=3+a/\c<=3+a->c<=10:=λh k=>ub k.2 (uk h 3)
theorem Rb:12+1<=64:=Nat.le_of_ble_eq_true rfl
theorem Rc:1<=2:=by intros;simp_all
theorem Rd:2+1<=64:=by intros;simp_all
theorem Re {a:Nat}:3<=a-> ¬a=0:=λh1=>Nat.ne_zero_of_lt h1
theorem Rf {a:Nat}:3<=a-> ¬a=1:=by lia
theorem Ri {a:Nat}:3<=a-> ¬a=2:=λh1=>Nat.ne_of_lt' h1
theorem Rj {a b:Nat}:a<=b+1->a<=b+2:=λh1=>uM h1
theorem Rk {a b:Nat}:a<=b+1->max b a+1<=b+2:=λh=>uh (Nat.max_le.mpr ⟨uF b,h⟩)
theorem Rl {a:Int}:a<=a:=Int.le_refl a
theorem Ln {a b:Int}:0<=a->0<=a+b%10007:=λh=>Int.add_nonneg h (vV b (show(10007:Int)≠0 by decide))
theorem Rn {b:Nat}{a c:Int}:a+10007*((b+1:Nat):Int)<4000000000000000000->a+c%10007+10007*((b:Nat):Int)<4000000000000000000:=λh=>uD (uP (Int.add_le_add_right (vh (vr (vG c (by decide))) a) _) (qxC (by rw [Int.add_assoc,Int.natCast_succ,Int.mul_add,Int.add_comm 10007];rfl))) h
theorem Ro {a b c:Int}:a+b%10007<=c->a<=c:=λh=>uP (vK (vV b (show(10007:Int)≠0 by decide))) h
theorem Rp {a b c:Int}:a<=b+c%10007+10007*((d:Nat):Int)->a<=b+10007*((d+1:Nat):Int):=λh=>uP h (uP (Int.add_le_add_right (vh (vr (vG c (by decide))) b) _) (qxC (by rw [Int.add_assoc,Int.natCast_succ,Int.mul_add,Int.add_comm 10007];rfl)))
theorem Rq {a:Int}:a%10007<4000000000000000000:=vq (vG a (show(0:Int)<10007 by decide)) (by decide)
theorem Rr {b:Nat}{a c:Int}:a+10007*((b+1:Nat):Int)<4000000000000000000->a+c%10007<4000000000000000000:=λh=>uD (vh (uP (vr (vG c (show(0:Int)<10007 by decide))) (show(10007:Int)*1<=10007*(((b+1):Nat):Int) from vD (Int.ofNat_le.mpr (uh (uG b))) (by decide))) a) h
theorem Rt {a:Nat}:min 40 a<=40:=vI 40 a
theorem Lo:(0:Int)<=0:=by intros;simp_all
theorem Ru {a:Nat}:a<=40->0+10007*((a:Nat):Int)<4000000000000000000:=λh=>uD (uP (qxC (Int.zero_add _)) (vD (Int.ofNat_le.mpr h) (show(0:Int)<=10007 by decide))) (by decide)
theorem Ff {a:Nat}:a<=40->a<=1000:=by intros;subst_vars;lia
theorem Rv {a:Nat}{b:Int}:a<=40->b<=0+10007*((a:Nat):Int)->b<=1000000000:=λh k=>uP k (uP (qxC (Int.zero_add _)) (uP (vD (Int.ofNat_le.mpr h) (show(0:Int)<=10007 by decide)) (by decide)))
theorem Rw {a:Nat}:a<=4->a<=7:=by grind
theorem Lp {a:Nat}:a<=4->100=87-a+13+a:=λh=>by rw [uK,vF (ub h (by decide))]
theorem Rx {a:Nat}:a<=4->a<=50:=by grind
theorem Ry {a b c:Nat}:a<=900->b=a->c<b->((c:Nat):Int)<4000000000000000000:=λh q k=>Int.lt_of_lt_of_le (Int.ofNat_lt.mpr (vm (q▸k) h)) (by decide)
theorem Rz {a b:Nat}:a<=4->b<=a+1->b<=50:=λh k=>ub k (ub (uh h) (by decide))
theorem yO {a b:Nat}:a<=4->b<=a+1->b<=7:=by grind
theorem Lq {a b:Nat}:a<=4->b<=a+1->b+12<=100:=λh k=>ub (uo (ub k (uh h)) 12) (by decide)
theorem Lr {a:Nat}:a<=2*2->a<=7:=by lia
theorem Ls {a b:Nat}:a<=2*2->b<=a+1->b<=7:=by grind
theorem Lu {a b:Nat}:a<=2*2->b<=a+2->b<=7:=λh k=>ub k (ub (uo h 2) (by decide))
theorem Fg {a:Nat}:a<=2*2->a<=4:=by intros;subst_vars;omega
theorem Lv {a b c:Nat}:a<=2*2->b<=3+a/\c<=3+a->b<=7:=λh k=>ub k.1 (uk h 3)
theorem Lw {a b c:Nat}:a<=2*2->b<=3+a/\c<=3+a->c<=7:=λh k=>ub k.2 (uk h 3)
theorem Lx {a b:Nat}:a<=2*2->b<=2*1->max a b+1<=7:=λh k=>uh (Nat.max_le.mpr ⟨ub h (by decide),ub k (by decide)⟩)
theorem Ly {a b c:Nat}:a<=2*2->b<=3+a/\c<=3+a->c<=60:=λh k=>ub k.2 (ub (uk h 3) (by decide))
theorem Lz {a b c:Nat}:a<=2*1->b<=3+a/\c<=3+a->b<=60:=λh k=>ub k.1 (ub (uk h 3) (by decide))
theorem R0:0+((28:Nat):Int)<=100000:=Int.le.intro_sub (100000-Nat.succ 27) rfl
inductive Fl where
 |next
 |ret (v:AV)
noncomputable def bH {α:Type}(x:Str)(v:α)(l:List (Str×α)):List (Str×α):=(x,v)::l.filter (λy=>!(y.1==x))
noncomputable def dN {α:Type}(x:Str)(l:List (Str×α)):List (Str×α):=l.filter (λy=>!(y.1==x))
noncomputable def eu (ae:Loc)(x:Str):Bool:=ae.sc.names.lookup x==some .local||ae.sc.names.lookup x==some .cell
noncomputable def bB (x:Str)(v:AV)(ae:Loc):M Loc:=
 if eu ae x && (ae.om.lookup x).isNone then M.pure {ae with rho:=bH x v ae.rho} else stuck
noncomputable def Fh:List (Str×AV)->Loc->M Loc
 | [],ae=>M.pure ae|(x,v)::r,ae=>M.bind (bB x v ae) λa6=>Fh r a6
noncomputable def gj:OB->Bool
 | .inst .. =>false|_=>true
noncomputable def jV (x:Str)(ob:OB)(ae:Loc):M Loc:=
 if eu ae x && (ae.om.lookup x).isNone && ae.om.all (λy=>gj y.2) && gj ob then M.pure {ae with rho:=dN x ae.rho,om:=bH x ob ae.om} else stuck
noncomputable def cw (x:Str)(ob:OB)(ae:Loc):M Loc:=
 if(ae.om.lookup x).isSome then M.pure {ae with om:=bH x ob ae.om} else stuck
noncomputable def c_ (p:List Int)(v:AV):List (List Int×AV)->List (List Int×AV)
 | []=>[(p,v)]
 |(q,u)::r=>if q=p then(q,v)::r else(q,u)::c_ p v r
noncomputable def kQ (k:Str)(v:AV):HS->HS
 | []=>[]
 |(q,u)::r=>if q=k then(q,v)::r else(q,u)::kQ k v r
noncomputable def Dz (k:Str)(v:AV):List Str->List AV->Option (List Str×List AV)
 | [],[]=>some ([k],[v])|q::qs,u::us=>if q=k then some (q::qs,v::us) else(Dz k v qs us).map λp=>(q::p.1,u::p.2)
 |_,_=>.none
noncomputable def next (ae:Loc):M (Fl×Loc):=M.pure (.next,ae)
noncomputable def raise {α}(p:AV):M α:=λH=>some (.error p,H)
noncomputable def bU (body:AV->Loc->M (Fl×Loc)):List AV->Loc->M (Fl×Loc)
 | [],ae=>next ae|v::r,ae=>M.bind (body v ae) λ(f,a6)=>match f with
  | .next=>bU body r a6| .ret u=>M.pure (.ret u,a6)
noncomputable def fE (lZ:Loc->M Bool)(body:Loc->M (Fl×Loc)):Nat->Loc->M (Fl×Loc)
 |0,_=>stuck|k+1,ae=>M.bind (lZ ae) λb=>if b then M.bind (body ae) λ(f,a6)=>match f with
   | .next=>fE lZ body k a6| .ret u=>M.pure (.ret u,a6)
  else next ae
noncomputable def Iq (ae:Loc)(e:Expr):Option (Str×List AV):=(ownOf ae e).bind λq=>(AL q.2).map λl=>(q.1,l)
noncomputable def o6 (e:Expr):Option ((Expr×Str×Pos)×List Expr×Pos):=(gT e).bind λc=>(fL c.1).map λa=>(a,c.2)
noncomputable def C9:Stmt->Option Expr×Option (List Expr×Expr)
 | .Return v _=>(v,.none)
 | .Assign ts e _=>(.none,some (ts,e))
 |_=>(.none,.none)
noncomputable def Fi (s:Stmt):Option Expr:=(C9 s).1
noncomputable def L4 (s:Stmt):Option (Expr×Expr):=(C9 s).2.bind λx=>(oneOf x.1).map λt=>(t,x.2)
noncomputable def AM:ExceptHandler->Option Expr×Option Str×List Stmt
 | .ExceptHandler t x b _=>(t,x,b)
noncomputable def AN (exc:Option Expr)(eO:Option Expr):Option (Str×Str×Expr):=if eO.isNone then exc.bind λe=>(gT e).bind λc=>(bP c.1).bind λf=>(mC c.2.1).bind λab=>(constOf ab.1).bind λk=>(Mq k).map λw=>(f,w,ab.2) else .none
noncomputable def Ir (st:Stmt):Option (Str×List Expr):=(L4 st).bind λte=>(bP te.1).bind λy=>(fM te.2).map λes=>(y,es)
noncomputable def RA (hb:List Stmt):Option (Str×Const×Str×Str):=(oneOf hb).bind λst=>(Ir st).bind λp=>(mC p.2).bind λab=>(constOf ab.1).bind λc=>(fL ab.2).bind λo=>(bP o.1).map λz=>(p.1,c,z,o.2.1)
noncomputable def Wm (h:Option Expr×Option Str×List Stmt):Option (Str×Str×Str×Const×Str×Str):=h.1.bind λf=>(bP f).bind λf=>h.2.1.bind λx=>(RA h.2.2).map λb=>(f,x,b)
section
variable (C:kh)(call:qq7->List AV->M AV)(mk:qq7->List AV->M AV)
noncomputable def CA (o:Option AV):Bool:=((o.bind ou).map (Kd "list")).getD false
noncomputable def It (f:Str)(ae:Loc):List Expr->Option (M OB)
 | [x]=>if CA (ec C ae f) && aZ x then some (M.bind (ev C call mk 3 x ae) λv=>match v with
   | .tup l=>M.pure (.list l)|_=>stuck) else .none
 |_=>.none
noncomputable def o7:Expr->Bool
 | .Dict ks vs _=>ks.isEmpty && vs.isEmpty|_=>false
noncomputable def CB (e:Expr)(ae:Loc):Option (M OB):=match gU e with
 |some es=>some (if fe es then M.bind (l_ C call mk 3 es ae) λvs=>M.pure (.list vs) else stuck)| .none=>if o7 e then some (M.pure (.kd [])) else(gT e).bind λc=>(bP c.1).bind λf=>It C call mk f ae c.2.1
noncomputable def j4 (ae:Loc)(e:Expr):Option (Str×List AV):=(o6 e).bind λx=>
 if x.2.1.isEmpty && (x.1.2.1==ag "pop") && Ib x.1.1 [] x.1.2.2 x.2.2 then Iq ae x.1.1 else .none
noncomputable def aR (t:Expr)(v:AV)(ae:Loc):M Loc:=match fC t v with
 |some bs=>Fh bs ae| .none=>stuck
noncomputable def eP (o i:Expr)(v:AV)(ae:Loc):M Loc:=match ownOf ae o with
 |some (x,.kd l)=>M.bind (ev C call mk 3 i ae) λiv=>match d4 iv with
  |some p=>if l.length<1000 then cw x (.kd (c_ p v l)) ae else stuck
  | .none=>stuck
 |some (x,.list l)=>M.bind (ev C call mk 3 i ae) λiv=>match iv with
  | .int k=>if 0<=k/\k.toNat<l.length then cw x (.list (l.set k.toNat v)) ae else stuck
  |_=>stuck
 |some _=>stuck| .none=>M.bind (ev C call mk 3 o ae) λov=>M.bind (ev C call mk 3 i ae) λiv=>match ov,iv with
  | .hand,.str k=>M.bind Dx λH=>if(H.lookup k).isSome && (jc v).isSome && decide (H.length<=1000) then M.bind (Mp (kQ k v H)) λ_=>M.pure ae else stuck
  |_,_=>stuck
noncomputable def M3 (e:Expr):Bool:=Nat.beq e.ctorIdx 8
noncomputable def gX (e:Expr):Bool:=M3 e||Nat.beq e.ctorIdx 9||Nat.beq e.ctorIdx 10
noncomputable def Fj:List Expr->Bool
 | [a,b]=>a.pos.line==b.pos.line|_=>false
noncomputable def o8 (x:Str)(e:Expr)(ae:Loc):M Loc:=match CB C call mk e ae with
 |some m=>M.bind m λob=>jV x ob ae
 | .none=>match j4 ae e with
  |some (y,l)=>match l.getLast? with
   |some v=>M.bind (cw y (.list l.dropLast) ae) λa6=>bB x v a6
   | .none=>stuck
  | .none=>if !gX e||M3 e then M.bind (ev C call mk 3 e ae) λv=>bB x v ae else stuck
noncomputable def Iu (o:Expr)(a:Str)(v:AV)(ae:Loc):M Loc:=match ownOf ae o with
 |some (x,.inst c ks vs)=>if C.seta c a && decide (ks.length<1000) then(match Dz a v ks vs with
  |some (ks',vs')=>cw x (.inst c ks' vs') ae| .none=>stuck) else stuck
 |_=>stuck
noncomputable def o9 (t e:Expr)(ae:Loc):M Loc:=match j4 ae e with
 |some (y,l)=>match l.getLast? with
  |some v=>M.bind (cw y (.list l.dropLast) ae) λa6=>aR t v a6
  | .none=>stuck
 | .none=>if !gX e then M.bind (ev C call mk 3 e ae) λv=>aR t v ae else stuck
noncomputable def oA (x y:Str)(v:AV)(ae:Loc):M Loc:=match v with
 | .tup [a,b]=>M.bind (bB y b ae) λa6=>bB x a a6
 |_=>stuck
noncomputable def AO (e:Expr):Bool:=Nat.beq e.ctorIdx 22
noncomputable def RB (e:Expr):Bool:=Nat.beq e.ctorIdx 24||Nat.beq e.ctorIdx 16
noncomputable def M4 (ae:Loc)(ts:List Expr)(x y:Str)(a b:Expr):Bool:=
 Fj ts && (ae.sc.names.lookup x==some .local) && (ae.sc.names.lookup y==some .local) && (x !=y) && !AO a && RB b
noncomputable def Fk (x y:Str)(a b e:Expr)(ae:Loc):M Loc:=match gU a,gU b with
 |some L5,some L6=>if fe L5 && fe L6 then M.bind (l_ C call mk 3 L5 ae) λFo=>M.bind (l_ C call mk 3 L6 ae) λFp=>M.bind (jV y (.list Fp) ae) λa6=>jV x (.list Fo) a6 else stuck
 |_,_=>M.bind (ev C call mk 3 e ae) λv=>oA x y v ae
noncomputable def AP (t:Expr)(ts:List Expr)(e:Expr)(ae:Loc):M Loc:=match kG ts with
 |some p=>match fM e with
  |some es=>match mC es with
   |some q=>if M4 ae ts p.1 p.2 q.1 q.2 then Fk C call mk p.1 p.2 q.1 q.2 e ae else stuck
   | .none=>stuck
  | .none=>o9 C call mk t e ae
 | .none=>stuck
noncomputable def Fq (t e:Expr)(ae:Loc):M Loc:=match EH t with
 |some q=>if !gX e then M.bind (ev C call mk 3 e ae) λv=>eP C call mk q.1 q.2 v ae else stuck
 | .none=>match fL t with
  |some q=>if !gX e then M.bind (ev C call mk 3 e ae) λv=>Iu C q.1 q.2.1 v ae else stuck
  | .none=>stuck
noncomputable def kl (t e:Expr)(ae:Loc):M Loc:=match bP t with
 |some x=>o8 C call mk x e ae| .none=>match fM t with
  |some ts=>AP C call mk t ts e ae| .none=>Fq C call mk t e ae
noncomputable def Fs (x:Str)(l:List AV)(m:Str)(args:List Expr)(ae:Loc):M Loc:=match args with
 | []=>if m=ag "reverse" then cw x (.list l.reverse) ae else stuck
 | [a]=>
  if m=ag "append" then M.bind (ev C call mk 3 a ae) λv=>if l.length<1000 then cw x (.list (l++ [v])) ae else stuck
  else if m=ag "extend" then M.bind (ev C call mk 3 a ae) λv=>match v with
   | .list r=>if l.length+r.length<=1000 then cw x (.list (l++r)) ae else stuck
   | .tup r=>if l.length+r.length<=1000 then cw x (.list (l++r)) ae else stuck
   |_=>stuck
  else stuck
 |_=>stuck
noncomputable def kR (e:Expr)(ae:Loc):M Loc:=match o6 e with
 |some x=>if Ib x.1.1 x.2.1 x.1.2.2 x.2.2 then(match Iq ae x.1.1 with
  |some q=>Fs C call mk q.1 q.2 x.1.2.1 x.2.1 ae| .none=>stuck) else stuck
 | .none=>if !gX e then M.bind (ev C call mk 3 e ae) λv=>match v with
  | .none=>M.pure ae|_=>stuck else stuck
noncomputable def Wn (v:Option Expr)(ae:Loc):M (Fl×Loc):=match v with
 | .none=>M.pure (.ret .none,ae)|some e=>match b9 ae e with
  |some l=>M.pure (.ret (.list l),ae)| .none=>M.bind (ev C call mk 3 e ae) λv=>M.pure (.ret v,ae)
noncomputable def M5:Option AV->Bool
 |some (.glob (.ref a))=>a==C.pf|_=>false
noncomputable def AQ (exc eO:Option Expr)(ae:Loc):M (Fl×Loc):=match AN exc eO with
 |some x=>if M5 C (ec C ae x.1) && aZ x.2.2 then M.bind (ev C call mk 3 x.2.2 ae) λv=>if(jc v).isSome then raise v else stuck else stuck
 | .none=>stuck
noncomputable def RC (b:Str×Const×Str×Str)(ae:Loc):Option AV:=(ki b.2.1).bind λc=>(ec C ae b.2.2.1).bind λz=>(gW C z b.2.2.2).map λv=>.tup [c,v]
noncomputable def Wo (p:AV)(x:Str)(b:Str×Const×Str×Str)(ae:Loc):M (Fl×Loc):=M.bind (bB x (.exc p) ae) λa6=>match RC C b a6 with
 |some v=>M.bind (bB b.1 v a6) λmS=>M.pure (.next,{mS with rho:=dN x mS.rho})
 | .none=>stuck
noncomputable def L7 (a:Str×List Expr)(h:Str×Str×Str×Const×Str×Str)(ae:Loc):M (Fl×Loc):=λH=>match l_ C call mk 3 a.2 ae H with
 |some (.ok vs,H')=>M.bind (bB a.1 (.tup vs) ae) next H'|some (.error p,H')=>Wo C p h.2.1 h.2.2 ae H'| .none=>.none
noncomputable def AR (st:Stmt)(h:Option Expr×Option Str×List Stmt)(ae:Loc):M (Fl×Loc):=match Fi st with
 |some e=>if h.1.isSome && h.2.1.isNone then i9 (M.bind (ev C call mk 3 e ae) λv=>M.pure (.ret v,ae)) else stuck
 | .none=>match(Ir st).bind λa=>(Wm h).map λh=>(a,h) with
  |some x=>if fe x.1.2 && M5 C (ec C ae x.2.1) && (ae.sc.names.lookup x.2.2.1==some .local) then L7 C call mk x.1 x.2 ae else stuck
  | .none=>stuck
noncomputable def RD (body:List Stmt)(hs:List ExceptHandler)(kU yP:List Stmt)(ae:Loc):M (Fl×Loc):=if kU.isEmpty && yP.isEmpty then(match(oneOf body).bind λst=>(oneOf hs).map λh=>(st,h) with
  |some x=>AR C call mk x.1 (AM x.2) ae| .none=>stuck) else stuck
set_option tactic.hygienic true in
mutual
noncomputable def exec (W:Nat):Stmt->Loc->M (Fl×Loc)
 | .Pass _,ae=>next ae| .Return v _,ae=>Wn C call mk v ae| .If t b o _,ae=>M.bind (EO C call mk 3 t ae (ev C call mk 3 t ae)) λc=>if c then execs W b ae else execs W o ae
 | .Expr e _,ae=>M.bind (kR C call mk e ae) next| .Assign ts e _,ae=>match oneOf ts with
  |some t=>M.bind (kl C call mk t e ae) next| .none=>stuck
 | .For t it body o _,ae=>if o.isEmpty && aZ it && (b9 ae it).isNone then M.bind (iB C t it ae (ev C call mk 3 it ae) (NU C call mk 3 it ae)) λitems=>
   bU (λv ae=>M.bind (aR t v ae) λa6=>execs W body a6) items ae else stuck
 | .While t body o _,ae=>if o.isEmpty then fE (λae=>EO C call mk 3 t ae (ev C call mk 3 t ae)) (λae=>execs W body ae) W ae else stuck
 | .Raise exc eO _,ae=>AQ C call mk exc eO ae| .Try body hs o f _,ae=>RD C call mk body hs o f ae|_,_=>stuck
noncomputable def execs (W:Nat):List Stmt->Loc->M (Fl×Loc)
 | [],ae=>next ae|s::r,ae=>M.bind (exec W s ae) λ(f,a6)=>match f with
  | .next=>execs W r a6| .ret v=>M.pure (.ret v,a6)
end
noncomputable def ff (fd:qz3)(args:List AV):Option (List (Str×AV)):=
 if fd.params.args.length=args.length then some ((fd.params.args.map (·.arg)).zip args) else .none
noncomputable def bI (fd:qz3):List Stmt:=match fd.body with
 | .stmts b=>b| .expr _=>[]
noncomputable def Ft (fd:qz3):Bool:=match fd.body with
 | .stmts _=>true| .expr _=>false
noncomputable def eG (fd:qz3):Bool:=
 decide (fd.scope.kind= .function) && !fd.scope.isCoroutine && !fd.scope.isGenerator && fd.closure.isEmpty && fd.defaults== .none && fd.params.posonlyargs.isEmpty && fd.params.vararg.isNone && fd.params.kwonlyargs.isEmpty && fd.params.kwarg.isNone &&
  fd.globals==qqR && fd.builtins==qz0 && decide (fd.scope.names.map (·.1)).Nodup && (fd.scope.names.lookup ("__debug__":Str)).isNone && (fd.scope.names.lookup ("__classdict__":Str)).isNone &&
  decide (fd.params.args.map (·.arg)).Nodup && (fd.params.args.map (·.arg)).all (λx=>fd.scope.names.lookup x==some .local||fd.scope.names.lookup x==some .cell) && fd.scope.names.all (λx=>x.2 != .free) && Ft fd
noncomputable def ew (W:Nat)(fd:qz3)(args:List AV):M AV:=if !eG fd then stuck else match ff fd args with
 |some bs=>M.bind (execs C call mk W (bI fd) ⟨fd.scope,bs.reverse,[]⟩) λ(f,_)=>match f with
  | .next=>M.pure .none| .ret v=>M.pure v
 | .none=>stuck
noncomputable def runInit (W:Nat)(c:qq7)(fd:qz3)(args:List AV):M AV:=if !eG fd then stuck else match fd.params.args.map (·.arg) with
 |self::ps=>if ps.length=args.length then
   M.bind (execs C call mk W (bI fd) ⟨fd.scope,(ps.zip args).reverse,[(self,.inst c [] [])]⟩) λ(f,ae)=>match f with
   | .next=>match ae.om.lookup self with
    |some (.inst c' ks vs)=>if c'=c then M.pure (.inst c ks vs) else stuck
    |_=>stuck
   | .ret _=>stuck
  else stuck
 | []=>stuck
end
mutual
noncomputable def cM (C:kh)(W:Nat):Nat->qq7->List AV->M AV
 |0,_,_=>stuck|n+1,a,args=>match C.func a with
  |some fd=>ew C (cM C W n) (mT C W n) W fd args| .none=>stuck
noncomputable def mT (C:kh)(W:Nat):Nat->qq7->List AV->M AV
 |0,_,_=>stuck|n+1,c,args=>match C.init c with
  |some fi=>match C.func fi with
   |some fd=>runInit C (cM C W n) (mT C W n) W c fd args| .none=>stuck
  | .none=>stuck
end
theorem AS {a k:Str}{ks:List Str}{v:α}{vs:List α}:bK a (k::ks) (v::vs)=if k=a then some v else bK a ks vs:=rfl
theorem eQ {p q:List Int}{u v:AV}{r:List (List Int×AV)}:c_ p v ((q,u)::r)=if q=p then(q,v)::r else(q,u)::c_ p v r:=rfl
theorem mU {p q:Str}{u v:AV}{r:HS}:kQ p v ((q,u)::r)=if q=p then(q,v)::r else(q,u)::kQ p v r:=rfl
theorem M.bind_assoc {a:M α}{f:α->M β}{g:β->M γ}{H:HS}:M.bind (M.bind a f) g H=M.bind a (λx=>M.bind (f x) g) H:=by
 delta M.bind;rcases a H with _|⟨_|_,_⟩<;>rfl
theorem b_ {p:PyData}(h1:jc v=some p)(h2:dE l=some ps):dE (v::l)=some (p::ps):=by
 refine(?_:(jc v).bind (λp=>(dE l).map λps=>p::ps)=_);refine aa h1 (aa h2 ?_);rfl
theorem fP {q:List PyData}(h:dE (v::l)=some q): ∃p ps,jc v=some p/\dE l=some ps/\p::ps=q:=by
 exact af (aG h) λp h1 h=> af (d5 h) λps h2 h=>(cq p ps h1 h2 h)
theorem gk (h:dE l=some ps):jc (.tup l)=some (.tuple ps):=by
 refine(?_:(dE l).map PyData.tuple=_);refine aa h ?_;rfl
theorem yQ (h:dE l=some ps):jc (.list l)=some (.list ps):=by
 refine(?_:(dE l).map PyData.list=_);refine aa h ?_;rfl
theorem AU {p:PyData}(h:p.canLay0=true)(k:p.depth<=64):i7 p=true:=by
 delta i7;refine aa h (aa (decide_eq_true k) ?_);rfl
theorem oB {p:PyData}(e:jc v=some p)(h:p.canLay0=true)(k:p.depth<=64):Cg v=some p:=by
 delta Cg;refine aa e (?_:(if i7 p=true then some p else none)=_);refine aa (AU h k) ?_;rfl
theorem iE {a:AV}{p:PyData}(h:Cg a=some p):jc a=some p/\p.canLay0=true/\p.depth<=64:=by
 exact af (aG h) λq e h=> ai (Dy h) λk h=> bq (ug h) (aQ e (tt k).1 (of_decide_eq_true (tt k).2))
theorem oE {x y:AV}{p q:PyData}(h:Cg x=some p)(k:Cg y=some q):gR x y=some (PyData.eqv p q):=by
 delta gR;refine aa h (aa k ?_);rfl
theorem Fu {x y:AV}{b:Bool}(e:gR x y=some b): ∃p q,Cg x=some p/\Cg y=some q/\PyData.eqv p q=b:=by
 exact af (aG e) λp h1 e=> af (d5 e) λq h2 e=>(cq p q h1 h2 e)
theorem yR {b:Bool}(h:UY x l=some b): ∃p ps,Cg x=some p/\dE l=some ps/\qz6 ps=true/\b=ps.any λq=>PyData.eqv q p:=by
 exact af (aG h) λp h1 h=> af (aG h) λps h2 h=> ai (Dy h) λk h=>(dn p ps h1 h2 (tt k).1 (ug h).symm)
structure Y1 (e:Expr)(v:Ou):Prop where
 nm: ∀c,v.1=some c-> ∃p,e= .Name c p
 ca: ∀c,v.2.1=some c->e= .Call c.1 c.2.1 c.2.2.1 c.2.2.2
 at_: ∀c,v.2.2.1=some c->e= .Attribute c.1 c.2.1 c.2.2
 co: ∀c,v.2.2.2.1=some c-> ∃k p,e= .Constant c k p
 tu: ∀c,v.2.2.2.2.1=some c-> ∃k p,e= .Tuple c k p
 li: ∀c,v.2.2.2.2.2.1=some c-> ∃p,e= .List c p
 su: ∀c,v.2.2.2.2.2.2.1=some c-> ∃p,e= .Subscript c.1 c.2 p
 un: ∀c,v.2.2.2.2.2.2.2.1=some c-> ∃p,e= .UnaryOp c.1 c.2 p
 sl: ∀c,v.2.2.2.2.2.2.2.2=some c-> ∃p,e= .Slice c.1 c.2.1 c.2.2 p
theorem gM (e:Expr):Y1 e (none,none,none,none,none,none,none,none,none):=⟨λ_=>xNS,λ_=>xNS,λ_=>xNS,λ_=>xNS,λ_=>xNS,λ_=>xNS,λ_=>xNS,λ_=>xNS,λ_=>xNS⟩
theorem Iv (e:Expr):Y1 e (view e):=by
 induction e using PySem.Expr.casesOn with
 |Name x p=>exact{gM _ with nm:=λ_ h=>⟨p,al h λh=>h▸rfl⟩}|Call f a k p=>exact{gM _ with ca:=λ_ h=>al h λh=>h▸rfl}|Attribute o a p=>exact{gM _ with at_:=λ_ h=>al h λh=>h▸rfl}|Constant c k p=>exact{gM _ with co:=λ_ h=>(cK k p (al h λh=>h▸rfl))}|Tuple es k p=>exact{gM _ with tu:=λ_ h=>(cK k p (al h λh=>h▸rfl))}|List es p=>exact{gM _ with li:=λ_ h=>⟨p,al h λh=>h▸rfl⟩}|Subscript o i p=>exact{gM _ with su:=λ_ h=>⟨p,al h λh=>h▸rfl⟩}|UnaryOp op e p=>exact{gM _ with un:=λ_ h=>⟨p,al h λh=>h▸rfl⟩}|Slice a b c p=>exact{gM _ with sl:=λ_ h=>⟨p,al h λh=>h▸rfl⟩}|_=>exact gM _
theorem bj {e:Expr}{x:Str}(h:bP e=some x): ∃p,e= .Name x p:=(Iv e).nm x h
theorem ey {e:Expr}{a:Expr×Str×Pos}(h:fL e=some a):e= .Attribute a.1 a.2.1 a.2.2:=(Iv e).at_ a h
theorem dG {e:Expr}{c:Const}(h:constOf e=some c): ∃k p,e= .Constant c k p:=(Iv e).co c h
theorem dO {e:Expr}{es:List Expr}(h:fM e=some es): ∃k p,e= .Tuple es k p:=(Iv e).tu es h
theorem fQ {e:Expr}{es:List Expr}(h:gU e=some es): ∃p,e= .List es p:=(Iv e).li es h
theorem AW {e:Expr}{q:Expr×Expr}(h:EH e=some q): ∃p,e= .Subscript q.1 q.2 p:=(Iv e).su q h
theorem ez {e:Expr}{c:Expr×List Expr×Pos}(h:gT e=some c):e= .Call c.1 c.2.1 [] c.2.2:=by
 refine af (aG h) λq h1 h=> ai (Dy h) λk h=>?_;have h1:=(Iv e).ca q h1;replace h1:=(qqM.mp k)▸h1;exact ug h▸h1
theorem mV {c:Const}{w:Str}(h:Mq c=some w):c= .str w:=by
 induction c using PySem.Const.casesOn with
 |str s=>exact ug h▸rfl|_=>exact xNS h
theorem D0 {c:Const}{w:Int}(h:Ov c=some w):c= .int w:=by
 induction c using PySem.Const.casesOn with
 |int s=>exact ug h▸rfl|_=>exact xNS h
theorem oF {c:UnaryOp}(h:Ci c=true):c= .USub:=by
 cases c with
 |USub=>rfl|_=>exact di h
theorem j5 {e:Expr}{x:(Expr×Str×Pos)×List Expr×Pos}(h:o6 e=some x):e= .Call (.Attribute x.1.1 x.1.2.1 x.1.2.2) x.2.1 [] x.2.2:=by
 refine af (aG h) λc h1 h=> af (d5 h) λa h2 h=>?_;have h1:=ez h1;replace h1:=(ey h2)▸h1;subst h;exact h1
theorem bW {l:List α}(h:oneOf l=some a):l= [a]:=by
 rcases l with _|⟨a,_|⟨b,r⟩⟩
 ·exact xNS h
 ·refine al h λah=>?_;clear h;subst ah;rfl
 ·exact xNS h
theorem gY {l:List α}{q:α×α}(h:mC l=some q):l= [q.1,q.2]:=by
 rcases l with _|⟨a,_|⟨b,_|⟨c,r⟩⟩⟩
 ·exact xNS h
 ·exact xNS h
 ·refine aN h λah ak=>?_;clear h;subst ah;subst ak;rfl
 ·exact xNS h
theorem yS (s:Stmt):(∀e,(C9 s).1=some e-> ∃p,s= .Return (some e) p)/\ ∀x,(C9 s).2=some x-> ∃p,s= .Assign x.1 x.2 p:=by
 induction s using PySem.Stmt.casesOn with
 |Return v p=>exact⟨λe h=>⟨p,(show v=some e from h)▸rfl⟩,λ_=>xNS⟩|Assign ts e p=>exact⟨λ_=>xNS,λ_ h=>⟨p,al h λh=>h▸rfl⟩⟩|_=>exact⟨λ_=>xNS,λ_=>xNS⟩
theorem AX {s:Stmt}{e:Expr}(h:Fi s=some e): ∃p,s= .Return (some e) p:=(yS s).1 e h
theorem AY {s:Stmt}{x:Expr×Expr}(h:L4 s=some x): ∃p,s= .Assign [x.1] x.2 p:=by
 refine af (aG h) λy h1 h=> af (d5 h) λt h2 h=> ac ((yS s).2 y h1) λp h1=>?_;replace h1:=(bW h2)▸h1;exact⟨p,h▸h1⟩
theorem mW {s:Stmt}{x:Str×List Expr}(h:Ir s=some x): ∃p k q r,s= .Assign [.Name x.1 p] (.Tuple x.2 k q) r:=by
 refine af (aG h) λte h1 h=> af (aG h) λy h2 h=> af (d5 h) λes h3 h=> ac (AY h1) λr h1=> ac (bj h2) λp h2=> aX (dO h3) λk q h3=> yJ h λah ak=>?_;clear h;subst ah;subst ak;exact(Kk p k q r (by refine aa h1 (aa h2 ?_);exact aa h3 rfl))
theorem Fv {hb:List Stmt}{b:Str×Const×Str×Str}(h:RA hb=some b): ∃yp kc cp zp ap kt tp p,hb= [.Assign [.Name b.1 yp] (.Tuple [.Constant b.2.1 kc cp,.Attribute (.Name b.2.2.1 zp) b.2.2.2 ap] kt tp) p]:=by
 refine af (aG h) λst h1 h=> af (aG h) λx h2 h=> af (aG h) λab h3 h=> af (aG h) λc h4 h=> af (aG h) λo h5 h=> af (d5 h) λz h6 h=> yI (mW h2) λyp kt tp p h2=> aX (dG h4) λkc cp h4=> ac (bj h6) λzp h6=>?_;subst h;exact(OK yp kc cp zp o.2.2 kt tp p (by refine aa (bW h1) (aa h2 ?_);refine aa (gY h3) (aa h4 ?_);exact aa (ey h5) (aa h6 rfl)))
theorem Fw {h0:Option Expr×Option Str×List Stmt}{x:Str×Str×Str×Const×Str×Str}(h:Wm h0=some x): ∃fp,h0.1=some (.Name x.1 fp)/\h0.2.1=some x.2.1/\RA h0.2.2=some x.2.2:=by
 refine af (aG h) λf h1 h=> af (aG h) λf' h2 h=> af (aG h) λy h3 h=> af (d5 h) λb h4 h=> ac (bj h2) λfp h2=> yJ h λah ak=>?_;clear h;subst ah;refine yJ ak ?_;clear ak;intro ah ak;subst ah;subst ak;exact(aV fp (by exact aa h1 (aa h2 rfl)) h3 h4)
theorem yT {exc eO:Option Expr}{x:Str×Str×Expr}(h:AN exc eO=some x):eO=none/\ ∃fp k cp p,exc=some (.Call (.Name x.1 fp) [.Constant (.str x.2.1) k cp,x.2.2] [] p):=by
 refine ai (Dy h) λk h=> af (aG h) λe h1 h=> af (aG h) λc h2 h=> af (aG h) λf h3 h=> af (aG h) λab h4 h=> af (aG h) λkk h5 h=> af (d5 h) λw h6 h=> ac (bj h3) λfp h3=> aX (dG h5) λkn cp h5=>?_;have h2:=ez h2;replace h2:=h3▸h2;replace h2:=(gY h4)▸h2;replace h2:=h5▸h2;replace h2:=(mV h6)▸h2;subst h;exact⟨vB.mp k,fp,kn,cp,c.2.2,by refine aa h1 (aa h2 ?_);rfl⟩
theorem da {ae:Loc}{e:Expr}{x:Str}(h:ownOf ae e=some (x,ob)): ∃p,e= .Name x p/\ae.om.lookup x=some ob:=by
 refine af (aG h) λy h1 h=> af (d5 h) λob' h2 h=> ac (bj h1) λp h1=> yJ h λah ak=>?_;clear h;subst ah;subst ak;exact(aj p h1 h2)
theorem j6 (h:AL ob=some l):ob= .list l:=by
 induction ob using OB.casesOn with
 |list l'=>exact ug h▸rfl|_=>exact xNS h
theorem D2 {l:List (List Int×AV)}(h:O3 ob=some l):ob= .kd l:=by
 induction ob using OB.casesOn with
 |kd l'=>exact ug h▸rfl|_=>exact xNS h
theorem mX {ae:Loc}{e:Expr}{q:Str×List AV}(h:Iq ae e=some q): ∃p,e= .Name q.1 p/\ae.om.lookup q.1=some (.list q.2):=by
 refine af (aG h) λaz h1 h=>?_;obtain⟨x,ob⟩:=az;refine af (d5 h) λl h2 h=> af (da h1) λp e1 e2=> yJ h λah ak=>?_;clear h;subst ah;subst ak;exact(aj p e1 (j6 h2▸e2))
theorem kW {ae:Loc}{e:Expr}(h:b9 ae e=some l): ∃x p,e= .Name x p/\ae.om.lookup x=some (.list l):=by
 refine af (aG h) λaz h1 h=>?_;obtain⟨x,ob⟩:=az;exact af (da h1) λp e1 e2=>(ei x p e1 (j6 h▸e2))
theorem RE {ae:Loc}{e:Expr}{l:List (List Int×AV)}(h:Cn ae e=some l): ∃x p,e= .Name x p/\ae.om.lookup x=some (.kd l):=by
 refine af (aG h) λaz h1 h=>?_;obtain⟨x,ob⟩:=az;exact af (da h1) λp e1 e2=>(ei x p e1 (D2 h▸e2))
theorem fR {e:Expr}{i:Int}(h:gV e=some i): ∃k p,e= .Constant (.int i) k p:=by
 exact af (aG h) λc h1 h=> D0 h▸dG h1
theorem yU {e:Expr}{i:Int}(h:AH e=some i): ∃a p,e= .UnaryOp .USub a p/\gV a=some i:=by
 exact af (aG h) λq h1 h=> ai (Dy h) λk h=> ac ((Iv e).un q h1) λp h1=>(ei q.2 p (oF k▸h1) h)
theorem oG {c:α->Prop} [∀a,Decidable (c a)]{f:α->β}{b:β}(h:(o.bind λa=>if c a then some (f a) else none)=some b): ∃a,o=some a/\c a/\f a=b:=by
 refine af (aG h) λa h1 h=>?_;by_cases q:c a
 ·replace h:=eS (if_pos q) h;exact(aV a h1 q (ug h))
 ·replace h:=eS (if_neg q) h;exact xNS h
theorem AZ {e:Expr}{c:EG}(h:jy e=some c):(∃a i p,e= .Slice (some a) none none p/\gV a=some i/\(1<=i/\i<1000)/\ .from i.toNat=c)\/(∃a i p,e= .Slice none (some a) none p/\gV a=some i/\(0<=i/\i<1000)/\ .upto i.toNat=c)\/ ∃a i p,e= .Slice none none (some a) p/\AH a=some i/\i=1/\ .rev=c:=by
 refine af (aG h) λaz h1 h=>?_;obtain⟨x,y,z⟩:=az;refine ac ((Iv e).sl _ h1) λp h1=> hide λG hG=>?_
 induction x using Option.casesOn with
 |none=>
  induction y using Option.casesOn with
  |none=>
   induction z using Option.casesOn with
   |none=>exact xNS h|some a=>exact aC (oG h) λi h2 h3 h4=> hG<| .inr (.inr (kP a i p h1 h2 h3 h4))
  |some a=>
   induction z using Option.casesOn with
   |none=>exact aC (oG h) λi h2 h3 h4=> hG<| .inr (.inl (kP a i p h1 h2 h3 h4))
   |some _=>exact xNS h
 |some a=>
  induction y using Option.casesOn with
  |none=>
   induction z using Option.casesOn with
   |none=>exact aC (oG h) λi h2 h3 h4=> hG<| .inl (kP a i p h1 h2 h3 h4)
   |some _=>exact xNS h
  |some _=>exact xNS h
theorem fS {k:Option Expr}{r:List (Option Expr)}{ks:List Str}(h:keysOf (k::r)=some ks): ∃s a p ks',k=some (.Constant (.str s) a p)/\keysOf r=some ks'/\ks=s::ks':=by
 refine af (aG h) λs h1 h=> af (d5 h) λks' h2 h=> af (aG h1) λe h3 h1=> af (aG h1) λc h4 h1=> aX (dG h4) λa p h4=>?_;replace h3:=h4▸h3;replace h3:=(mV h1)▸h3;exact(EU s a p ks' h3 h2 h.symm)
section
variable (P:qzJ)(w:World)(pf:qq7)(aH:Option qq7)
def dA (h:qqK)(a:qq7)(l:List Str):Prop:= ∃o es ep t,h.get? a=some o/\o.ExactSet/\o.data= .set es ep t/\
 (∃ts:List Tok,ts.length=l.length/\es.toList.Perm ((l.zip ts).map λp=>((strKind P w).hash p.1,qq0.str p.1 p.2)))/\l.Nodup/\l.length<=1000/\t.fits es.size=true/\
 (w.params.followText "set-order"=false->t.led=true)/\(es.size≠0->t.plain=false)
def gZ (h:qqK)(a:qq7)(vs:Array qq0):Prop:= ∃n,h.get? a=some {cls:= .type "tuple",data:= .seq vs n}
theorem gZ.is {h:qqK}{a:qq7}{vs:Array qq0}(x:gZ h a vs):h.IsTuple a vs:=ac x λn e=>⟨_,e,rfl,n,rfl⟩
mutual
noncomputable def VR (h:qqK)(Av:qq7->Prop):AV->qq0->Prop
 | .none,v=>v= .none| .bool b,v=>v= .bool b| .int i,v=>∃t,v= .int i t| .str x,v=>∃t,v= .str x t| .tup l,v=>∃a vs,v= .ref a/\ ¬Av a/\gZ h a vs/\l.length<=1000/\aF h Av l vs.toList| .list l,v=>∃a vs,v= .ref a/\ ¬Av a/\h.PlainList a vs/\l.length<=1000/\aF h Av l vs.toList| .wlist l,v=>∃a vs,v= .ref a/\ ¬Av a/\h.IsList a vs/\l.length<=1000/\aF h Av l vs.toList| .dict ks vs,v=>∃a ws,v= .ref a/\ ¬Av a/\h.DictOf (strKind P w) a (ks.zip ws)/\(ks.length=ws.length/\(a==sysModules)=false/\ks.length<=1000)/\aF h Av vs ws| .inst c ks vs,v=>∃a dx es n,v= .ref a/\ ¬Av a/\ ¬Av dx/\h.get? a=some (qz1 c dx)/\h.get? dx=some (dictOf es n)/\
   (∃ts:List Tok,ts.length=ks.length/\es.map (·.key)=(ks.zip ts).map (λx=>qq0.str x.1 x.2))/\aF h Av vs (es.map (·.val))
 | .glob u,v=>v=u| .meth f self,v=>∃a u,v= .ref a/\ ¬Av a/\h.get? a=some (methodObj (.ref f) u)/\VR h Av self u| .rng n,v=>∃a t1 t2 t3,v= .ref a/\ ¬Av a/\IsRange h a 0 n 1 t1 t2 t3| .sset l,v=>∃a,v= .ref a/\ ¬Av a/\dA P w h a l| .items ks vs,v=>∃b d ws,v= .ref b/\ ¬Av b/\h.IsItemsView b d/\ ¬Av d/\h.DictOf (strKind P w) d (ks.zip ws)/\(ks.length=ws.length/\(d==sysModules)=false/\ks.length<=1000)/\aF h Av vs ws| .exc p,v=>∃a o dx es n t u,(t:Tok)=t/\v= .ref a/\ ¬Av a/\ ¬Av dx/\h.get? a=some o/\o.cls= .ref pf/\notCls o=true/\o.dict=some dx/\h.get? dx=some (dictOf es n)/\
   (es.find? (·.key.isStr (qqH "place"))).map (·.val)=some u/\VR h Av p u
 | .hand,v=>∃a,aH=some a/\v= .ref a
noncomputable def aF (h:qqK)(Av:qq7->Prop):List AV->List qq0->Prop
 | [],vs=>vs= []
 |d::ds,vs=>∃v r,vs=v::r/\VR h Av d v/\aF h Av ds r
end
end
variable {P:qzJ}{w:World}{pf:qq7}{aH:Option qq7}
def dB (h:qqK)(Av:qq7->Prop)(h':qqK)(Av':qq7->Prop):Prop:= ∀b o,h.get? b=some o-> ¬Av b->h'.get? b=some o/\ ¬Av' b
theorem dB.list {h h':qqK}{Av Av':qq7->Prop}(c:dB h Av h' Av'){a vs}(n: ¬Av a)(x:h.IsList a vs):h'.IsList a vs/\ ¬Av' a:=
 af x λo ho r=>⟨(aj o (c a o ho n).1 r),(c a o ho n).2⟩
theorem dB.tuple {h h':qqK}{Av Av':qq7->Prop}(c:dB h Av h' Av'){a vs}(n: ¬Av a)(x:gZ h a vs):gZ h' a vs/\ ¬Av' a:=
 ac x λk ho=>⟨⟨k,(c a _ ho n).1⟩,(c a _ ho n).2⟩
theorem dB.plist {h h':qqK}{Av Av':qq7->Prop}(c:dB h Av h' Av'){a vs}(n: ¬Av a)(x:h.PlainList a vs):h'.PlainList a vs/\ ¬Av' a:=
 ac x λk ho=>⟨⟨k,(c a _ ho n).1⟩,(c a _ ho n).2⟩
theorem dB.dict {h h':qqK}{Av Av':qq7->Prop}(c:dB h Av h' Av'){K:Type} [DecidableEq K]{knd:KeyKind P w K}{a kvs}(n: ¬Av a)(x:h.DictOf knd a kvs):h'.DictOf knd a kvs/\ ¬Av' a:=
 aB x λo es ep ho r=>⟨(ct o es ep (c a o ho n).1 r),(c a o ho n).2⟩
theorem dB.set {h h':qqK}{Av Av':qq7->Prop}(c:dB h Av h' Av'){a l}(n: ¬Av a)(x:dA P w h a l):dA P w h' a l/\ ¬Av' a:=
 kK x λo es ep t ho r=>⟨(Cr o es ep t (c a o ho n).1 r),(c a o ho n).2⟩
mutual
theorem VR.chg {h h':qqK}{Av Av':qq7->Prop}(c:dB h Av h' Av'): ∀(d:AV) (v:qq0),VR P w pf aH h Av d v->VR P w pf aH h' Av' d v
 | .none,_,x=>x| .bool _,_,x=>x| .int _,_,x=>x| .str _,_,x=>x| .tup l,_,x=>by
  refine aP x λa vs ak n t z r=>?_;clear x;subst ak;exact(mJ a vs rfl (c.tuple n t).2 (c.tuple n t).1 z (aF.chg c l _ r))
 | .list l,_,x=>by
  refine aP x λa vs ak n t z r=>?_;clear x;subst ak;exact(mJ a vs rfl (c.plist n t).2 (c.plist n t).1 z (aF.chg c l _ r))
 | .wlist l,_,x=>by
  refine aP x λa vs ak n t z r=>?_;clear x;subst ak;exact(mJ a vs rfl (c.list n t).2 (c.list n t).1 z (aF.chg c l _ r))
 | .dict ks vs,_,x=>by
  refine aP x λa ws ak n t e r=>?_;clear x;subst ak;exact(mJ a ws rfl (c.dict n t).2 (c.dict n t).1 e (aF.chg c vs _ r))
 | .inst _ ks vs,_,x=>by
  refine kN x λa dx es m be n1 n2 h1 h2 e r=>?_;clear x;subst be;exact(Cs a dx es m rfl (c _ _ h1 n1).2 (c _ _ h2 n2).2 (c _ _ h1 n1).1 (c _ _ h2 n2).1 e (aF.chg c vs _ r))
 | .glob _,_,x=>x| .meth f self,_,x=>by
  refine cn x λa u ak n t r=>?_;clear x;subst ak;exact(dn a u rfl (c _ _ t n).2 (c _ _ t n).1 (VR.chg c self _ r))
 | .rng n,_,x=>by
  refine jz x λa t1 t2 t3 be n t=>?_;clear x;subst be;exact(EU a t1 t2 t3 rfl (c _ _ t n).2 (c _ _ t n).1)
 | .sset l,_,x=>by
  refine aC x λa ah n t=>?_;clear x;subst ah;exact(aV a rfl (c.set n t).2 (c.set n t).1)
 | .items ks vs,_,x=>by
  refine d9 x λb d ws c8 n dX n2 t e r=>af dX λo ho q=>?_;clear dX;subst c8;exact(fO b d ws rfl (c _ _ ho n).2 (aj o (c _ _ ho n).1 q) (c.dict n2 t).2 (c.dict n2 t).1 e (aF.chg c vs _ r))
 | .exc p,_,x=>by
  refine Kj x λa o dx es m t u mY Fx n1 n2 h1 e1 e2 e3 aI=>aU aI λh2 e4 r=>?_;clear aI;subst Fx;exact⟨a,o,dx,es,m,t,u,rfl,rfl,(c _ _ h1 n1).2,(c _ _ h2 n2).2,(c _ _ h1 n1).1,e1,e2,e3,(c _ _ h2 n2).1,e4,VR.chg c p _ r⟩
 | .hand,_,x=>x
theorem aF.chg {h h':qqK}{Av Av':qq7->Prop}(c:dB h Av h' Av'): ∀(ds:List AV) (vs:List qq0),aF P w pf aH h Av ds vs->aF P w pf aH h' Av' ds vs
 | [],_,x=>x|d::ds,_,x=>by
  refine a8 x λv r ak h1 h2=>?_;clear x;subst ak;exact(cq v r rfl (VR.chg c d v h1) (aF.chg c ds r h2))
end
variable {h:qqK}{Av:qq7->Prop}
theorem aF.length: ∀{ds:List AV} {vs:List qq0},aF P w pf aH h Av ds vs->vs.length=ds.length
 | [],_,x=>by refine aa (show _= [] from x) ?_;rfl
 |d::ds,_,x=>by
  refine a8 x λv r ak c8 h2=>?_;clear x;subst ak;simp [aF.length h2]
theorem aF.get: ∀{ds:List AV} {vs:List qq0} (i:Nat) {d:AV},aF P w pf aH h Av ds vs->ds[i]? =some d-> ∃v,vs[i]? =some v/\VR P w pf aH h Av d v
 | [],_,i,d,_,e=>by simp at e
 |d::ds,_,0,d',x,e=>by
  refine a8 x λv r ak h1 be=>?_;clear x;subst ak;simp at e;subst e;exact(aj v rfl h1)
 |d::ds,_,i+1,d',x,e=>by
  refine a8 x λv r ak c8 h2=>?_;clear x;subst ak;simp only [List.getElem?_cons_succ] at e⊢;exact aF.get i h2 e
theorem aF.append: ∀{ds es:List AV} {vs us:List qq0},aF P w pf aH h Av ds vs->aF P w pf aH h Av es us->aF P w pf aH h Av (ds++es) (vs++us)
 | [],_,_,_,x,y=>by exact aa (show _= [] from x) y
 |d::ds,_,_,_,x,y=>by
  refine a8 x λv r ak h1 h2=>?_;clear x;subst ak;exact(cq v _ rfl h1 (aF.append h2 y))
theorem aF.nil:aF P w pf aH h Av [] []:=rfl
theorem aF.cons {d:AV}{v:qq0}{ds:List AV}{vs:List qq0}(x:VR P w pf aH h Av d v)(y:aF P w pf aH h Av ds vs):aF P w pf aH h Av (d::ds) (v::vs):=(cq v vs rfl x y)
theorem aF.single {d:AV}{v:qq0}(x:VR P w pf aH h Av d v):aF P w pf aH h Av [d] [v]:= .cons x .nil
theorem aF.take: ∀(n:Nat) {ds:List AV} {vs:List qq0},aF P w pf aH h Av ds vs->aF P w pf aH h Av (ds.take n) (vs.take n)
 |0,_,_,_=>by rfl
 |n+1,[],_,x=>by refine aa (show _= [] from x) ?_;rfl
 |n+1,d::ds,_,x=>by
  refine a8 x λv r ak h1 h2=>?_;clear x;subst ak;exact .cons h1 (aF.take n h2)
theorem aF.drop: ∀(n:Nat) {ds:List AV} {vs:List qq0},aF P w pf aH h Av ds vs->aF P w pf aH h Av (ds.drop n) (vs.drop n)
 |0,_,_,x=>by simpa using x
 |n+1,[],_,x=>by refine aa (show _= [] from x) ?_;rfl
 |n+1,d::ds,_,x=>by
  refine a8 x λv r ak h1 h2=>?_;clear x;subst ak;exact aF.drop n h2
theorem aF.reverse: ∀{ds:List AV} {vs:List qq0},aF P w pf aH h Av ds vs->aF P w pf aH h Av ds.reverse vs.reverse
 | [],_,x=>by refine aa (show _= [] from x) ?_;rfl
 |d::ds,_,x=>by
  refine a8 x λv r ak h1 h2=>?_;clear x;subst ak;refine aa vw (aa vw ?_);exact .append (aF.reverse h2) (.single h1)
theorem aF.set: ∀(n:Nat) {ds:List AV} {vs:List qq0} {d:AV} {v:qq0},aF P w pf aH h Av ds vs->VR P w pf aH h Av d v->aF P w pf aH h Av (ds.set n d) (vs.set n v)
 |_,[],_,_,_,x,_=>by refine aa (show _= [] from x) ?_;rfl
 |0,d::ds,_,_,_,x,y=>by
  refine a8 x λv r ak h1 h2=>?_;clear x;subst ak;exact .cons y h2
 |n+1,d::ds,_,_,_,x,y=>by
  refine a8 x λv r ak h1 h2=>?_;clear x;subst ak;exact .cons h1 (aF.set n h2 y)
mutual
theorem VR.reads: ∀(d:AV) (v:qq0) (p:PyData),VR P w pf aH h Av d v->jc d=some p-> ∃as,Reads h v p as:=λd v p x e=>by
 induction d using AV.casesOn with
 |none=>exact aa (show v=qq0.none from x) (bq (ug (show some PyData.none=some p from e)) (⟨_,.none⟩))|bool b=>exact aa (show v=qq0.bool b from x) (bq (ug (show some (PyData.bool b)=some p from e)) (⟨_,.bool b⟩))|int i=>refine ac x ?_;clear x;intro t x;exact aa x (bq (ug (show some (PyData.int i)=some p from e)) (⟨_,.int i t⟩))|str i=>refine ac x ?_;clear x;intro t x;exact aa x (bq (ug (show some (PyData.str i)=some p from e)) (⟨_,.str i t⟩))|tup l=>
  refine aP x ?_;clear x;intro a vs x n be z r;refine ac be λm ho=> af (d5 (show(dE l).map PyData.tuple=some p from e)) λps e e2=> ac (aF.reads l _ ps r e) λas q=> aa x (bq e2 ?_);exact⟨as,.tuple ho rfl rfl q⟩
 |list l=>
  refine aP x ?_;clear x;intro a vs x n be z r;refine ac be λm ho=> af (d5 (show(dE l).map PyData.list=some p from e)) λps e e2=> ac (aF.reads l _ ps r e) λas q=> aa x (bq e2 ?_);exact⟨_,.list ho rfl rfl q⟩
 |_=>exact xNS e
theorem aF.reads: ∀(ds:List AV) (vs:List qq0) (ps:List PyData),aF P w pf aH h Av ds vs->dE ds=some ps-> ∃as,ReadsAll h vs ps as:=λds vs ps x e=>by
 induction ds using List.casesOn with
 |nil=>exact aa (show vs= [] from x) (bq (ug (show some []=some ps from e)) (⟨_,.nil⟩))|cons d ds=>
  refine a8 x ?_;clear x;intro v r x h1 h2;refine a8 (fP e) λp Y2 e1 e2 e3=> ac (VR.reads d v p h1 e1) λas q1=> ac (aF.reads ds r Y2 h2 e2) λbs q2=> aa x (bq e3 ?_);exact⟨_,.cons q1 q2⟩
end
structure Cx where
 P:qzJ
 w:World
 K:Frag
 C:kh
 h0:qqK
 aH:Option qq7
noncomputable def slot (env:Env)(m cm:Str->Option qq0)(x:Str):Option qq0:=
 if env.kindOf x=some .local then m x else if env.kindOf x=some .cell\/env.kindOf x=some .free then cm x else none
section
variable (X:Cx)
noncomputable abbrev VV (h:qqK)(Av:qq7->Prop)(d:AV)(v:qq0):Prop:=VR X.P X.w X.C.pf X.aH h Av d v
noncomputable abbrev cu (h:qqK)(Av:qq7->Prop)(d:List AV)(v:List qq0):Prop:=aF X.P X.w X.C.pf X.aH h Av d v
def oH (h:qqK)(Av:qq7->Prop)(ob:OB)(a:qq7)(L:qq7):Prop:=match ob with
 | .list l=>∃vs,h.PlainList a vs/\l.length<=1000/\cu X h Av l vs.toList| .kd l=>∃xs:List (List Int×qq7×qq0),h.DictOfH (tupleKind (intKind X.P X.w)) a xs/\xs.map (·.1)=l.map (·.1)/\cu X h Av (l.map (·.2)) (xs.map (·.2.2))/\ ∀x∈xs,¬Av x.2.1| .inst c ks vs=>∃dx es n,Av dx/\dx≠L/\X.aH≠some dx/\h.get? a=some (qz1 c dx)/\h.get? dx=some (dictOf es n)/\
   (∃ts:List Tok,ts.length=ks.length/\es.map (·.key)=(ks.zip ts).map (λx=>qq0.str x.1 x.2))/\cu X h Av vs (es.map (·.val))
structure aJ (h:qqK)(env:Env)(Av:qq7->Prop)(oa:Str->qq7)(ae:Loc)(m cm:Str->Option qq0):Prop where
 kind:env.scope.kind= .function
 glb:env.globals=qqR
 bi:env.builtins=qz0
 dbg:env.kindOf "__debug__"=none
 cdt:env.kindOf "__classdict__"=none
 kinds: ∀x k,ae.sc.names.lookup x=some k->env.kindOf x=some k\/(k= .free/\env.kindOf x=some .cell)
 ns:h.Ns env.locals m
 cells: ∀x c,env.cells.lookup x=some c->h.IsCell c (cm x)
 hasc: ∀x,env.kindOf x=some .cell\/env.kindOf x=some .free->(env.cells.lookup x).isSome=true
 avL:Av env.locals
 avC: ∀x c,env.cells.lookup x=some c->Av c
 apart: ∀x y c,env.cells.lookup x=some c->env.cells.lookup y=some c->x=y
 vals: ∀x d,ae.rho.lookup x=some d-> ∃v,slot env m cm x=some v/\VV X h Av d v
 owns: ∀x ob,ae.om.lookup x=some ob->slot env m cm x=some (.ref (oa x))/\Av (oa x)/\oa x≠env.locals/\X.aH≠some (oa x)/\oH X h Av ob (oa x) env.locals
 inj: ∀x y ob ob',ae.om.lookup x=some ob->ae.om.lookup y=some ob'->oa x=oa y->x=y
 solo: ∀x y c ks vs ob,ae.om.lookup x=some (.inst c ks vs)->ae.om.lookup y=some ob->x=y
 nL:X.aH≠some env.locals
def au (h:qqK)(Av:qq7->Prop)(H:HS):Prop:=match X.aH with
 |none=>H= []
 |some a=>Av a/\ ∃ws,h.DictOf (strKind X.P X.w) a ((H.map (·.1)).zip ws)/\ws.length=H.length/\cu X h Av (H.map (·.2)) ws/\ ∀x∈H,(jc x.2).isSome=true
def Fy (h:qqK)(Av:qq7->Prop)(l:List Env):Prop:=
 ∀env∈l,env.scope.kind≠ .module/\ ∃L o,env.frame=some L/\Av L/\X.aH≠some L/\X.h0.get? L=none/\h.get? L=some o/\o.cls= .type "frame"/\ ∀vs,o.data≠ .fields vs
noncomputable def aO (l:List Env):List qq7:=l.filterMap (·.frame)
structure E8 (A:qqG)(fr:List Env)(n:Nat)(d:Nat):Prop where
 handled:A.handled=none
 depth:A.depth+4*n+4<1000
 units:A.units+40*n+6*d+100<9900
 frames:A.frames=some fr
structure ao (h:qqK)(Av:qq7->Prop)(fr:List Env)(H:HS):Prop where
 base: ∀b o,X.h0.get? b=some o->h.get? b=some o
 off: ∀b o,X.h0.get? b=some o-> ¬Av b
 live: ∀b,Av b-> ∃o,h.get? b=some o
 hand:au X h Av H
 frok:Fy X h Av fr
structure Ex (fr:List qq7)(s s':qq1):Prop where
 keep: ∀b o,s.heap.get? b=some o->X.aH≠some b->b∉fr->s'.heap.get? b=some o
 slots: ∀b o,s.heap.get? b=some o->X.aH≠some b->b∈fr-> ∃sl,s'.heap.get? b=some {o with slots:=sl}
 gens:s'.gens=s.gens
 os:s'.os=s.os
end
variable {X:Cx}
theorem Ex.refl (fr:List qq7)(s:qq1):Ex X fr s s:=⟨λ_ _ e _ _=>e,λ_ o e _ _=>⟨o.slots,e⟩,rfl,rfl⟩
theorem Ex.trans {fr:List qq7}{s s' ty:qq1}(x:Ex X fr s s')(y:Ex X fr s' ty):Ex X fr s ty:=
 ⟨λb o e h n=>y.keep b o (x.keep b o e h n) h n,λb o e h n=>by
  refine ac (x.slots b o e h n) λsl e1=> ac (y.slots b _ e1 h n) λM6 e2=>?_;exact⟨M6,e2⟩,y.gens.trans x.gens,y.os.trans x.os⟩
theorem Ex.mono {fr Y3:List qq7}{s s':qq1}(x:Ex X fr s s')(h: ∀b∈fr,b∈Y3):Ex X Y3 s s':=
 ⟨λb o e a n=>x.keep b o e a λq=>n (h b q),λb o e a n=>by
  by_cases q:b∈fr
  ·exact x.slots b o e a q
  ·exact⟨o.slots,x.keep b o e a q⟩,x.gens,x.os⟩
theorem Ex.of_keeps {fr:List qq7}{s:qq1}{h':qqK}{tk:Nat}(k: ∀b o,s.heap.get? b=some o->h'.get? b=some o):Ex X fr s {s with heap:=h',toks:=tk}:=
 ⟨λb o e _ _=>k b o e,λb o e _ _=>⟨o.slots,k b o e⟩,rfl,rfl⟩
theorem Ex.push {fr:List qq7}{s:qq1}{o:Obj}{tk:Nat}:Ex X fr s {s with heap:=s.heap.push o,toks:=tk}:= .of_keeps λ_ _ e=>uc _ e
theorem Ex.tok {fr:List qq7}{s:qq1}{tk:Nat}:Ex X fr s {s with toks:=tk}:= .of_keeps (s:=s) (h':=s.heap) λ_ _ e=>e
theorem yV {a:qq7}{m:Str->Option qq0}(hn:h.Ns a m)(k: ∀o,h.get? a=some o-> ∃sl,h'.get? a=some {o with slots:=sl}):h'.Ns a m:=by
 exact bT hn λo es ep ho hd r=> ac (k o ho) λsl hs=>(iD _ es ep hs hd r)
theorem Ex.live {fr:List qq7}{s s':qq1}(x:Ex X fr s s'){b:qq7}{o:Obj}(e:s.heap.get? b=some o)(n:X.aH≠some b): ∃sl,s'.heap.get? b=some {o with slots:=sl}:=by
 by_cases q:b∈fr
 ·exact x.slots b o e n q
 ·exact⟨o.slots,x.keep b o e n q⟩
variable {Av:qq7->Prop}{fr:List Env}{H H':HS}{s s':qq1}{env:Env}{oa:Str->qq7}{ae:Loc}{m cm:Str->Option qq0}
theorem dH {l:List Env}{b:qq7}(h:b∈aO l): ∃env∈l,env.frame=some b:=by
 exact af (List.mem_filterMap.mp h) λe he h=>(aj e he h)
theorem Fy.av (F:Fy X h Av fr){b:qq7}(hb:b∈aO fr):Av b:=by
 refine af (dH hb) λe he hf=> ai (F e he) λaz aI=>a8 aI λL o hL av A6=>?_;replace hL:=eS hf hL;refine al hL λah=>?_;clear hL;subst ah;exact av
theorem Ex.chg (x:Ex X (aO fr) s s')(F:Fy X s.heap Av fr)(hH: ∀a,X.aH=some a->Av a):dB s.heap Av s'.heap Av:=λb o e n=>
 ⟨x.keep b o e (λq=>n (hH b q)) λq=>n (F.av q),n⟩
theorem au.av (x:au X h Av H): ∀a,X.aH=some a->Av a:=λa e=>by
 delta au at x;replace x:=e▸x;exact x.1
theorem ao.chg (B:ao X s.heap Av fr H)(x:Ex X (aO fr) s s'):dB s.heap Av s'.heap Av:=x.chg B.frok B.hand.av
theorem ao.frs_live (B:ao X s.heap Av fr H){b:qq7}{o:Obj}(hb:b∈aO fr)(e:s.heap.get? b=some o):o.cls= .type "frame":=by
 refine af (dH hb) λen he hf=> ai (B.frok en he) λaz aI=>eg aI λL o' hL av A6 yW ho hc Y4=>?_;replace hL:=eS hf hL;refine al hL λah=>?_;clear hL;subst ah;replace ho:=eS e ho;refine al ho λah=>?_;clear ho;subst ah;exact hc
theorem au.dict (x:au X h Av H){a:qq7}(e:X.aH=some a): ∃o es n,h.get? a=some o/\o.data= .dict es n/\o.cls= .type "dict":=by
 delta au at x;replace x:=e▸x;exact ai x λaz aI=>af aI λws gm jX=> gE gm λo es ep ho hx hd zx6=>(iD o es ep ho hd hx.1)
theorem aJ.cellH (x:aJ X s.heap env Av oa ae m cm)(B:ao X s.heap Av fr H){y:Str}{c:qq7}(e:env.cells.lookup y=some c):X.aH≠some c:=λq=>by
 refine af (x.cells y c e) λo ho hd=> bT (B.hand.dict q) λo' es n d6 fF dX=>?_;replace d6:=eS ho d6;refine al d6 λah=>?_;clear d6;subst ah;replace fF:=eS hd fF;cases fF
theorem aJ.ex (x:aJ X s.heap env Av oa ae m cm)(B:ao X s.heap Av fr H)(y:Ex X (aO fr) s s'):aJ X s'.heap env Av oa ae m cm:=
 have c:=B.chg y;have kk: ∀b o,s.heap.get? b=some o->X.aH≠some b->o.cls≠ .type "frame"->s'.heap.get? b=some o:=λb o e n1 n2=>y.keep b o e n1 λq=>n2 (B.frs_live q e)
 {kind:=x.kind,glb:=x.glb,bi:=x.bi,dbg:=x.dbg,cdt:=x.cdt,kinds:=x.kinds,ns:=yV x.ns λo e=>y.live e x.nL,cells:=λz cc e=>by
   exact af (x.cells z cc e) λo ho hd=> ac (y.live ho (x.cellH B e)) λsl h=>(aj _ h hd),hasc:=x.hasc,avL:=x.avL,avC:=x.avC,apart:=x.apart,vals:=λz d e=>af (x.vals z d e) λv h1 h2=>(aj v h1 (VR.chg c d v h2)),owns:=λz ob e=>by
   refine bb (x.owns z ob e) λh1 h2 h3 h4 h5=>(cV h1 h2 h3 h4 ?_)
   induction ob using OB.casesOn with
   |list l=>
    exact aC h5 λvs ah z r=>ac ah λn hp=>(aV vs ⟨n,kk _ _ hp h4 (by simp)⟩ z (aF.chg c _ _ r))
   |kd l=>
    refine c7 h5 λxs ah e1 r av=>eh ah λo es ep ho r1 r2 r3 r4 r5=>(cW xs (gG o es ep (kk _ _ ho h4 (by refine aa r1.1 ?_;simp)) r1 r2 r3 (λz hz=>?_) r5) e1 (aF.chg c _ _ r) av);refine aB (r4 z hz) λo1 i1 n1 g1 g2=>?_;exact⟨o1,i1,n1,(c _ _ g1 (av z hz)).1,g2⟩
   |inst cc ks vs=>
    exact d9 h5 λdx es n av nl nh g1 g2 e1 r=>(fO dx es n av nl nh (kk _ _ g1 h4 (by simp)) (kk _ _ g2 nh (by simp)) e1 (aF.chg c _ _ r)),inj:=x.inj,solo:=x.solo,nL:=x.nL}
theorem ao.ex (B:ao X s.heap Av fr H)(y:Ex X (aO fr) s s')(hH:au X s'.heap Av H'):ao X s'.heap Av fr H' where
 base:=λb o e=>(B.chg y b o (B.base b o e) (B.off b o e)).1
 off:=B.off
 live:=λb av=>by
  refine ac (B.live b av) λo ho=>?_;by_cases q:X.aH=some b
  ·refine aB (hH.dict q) λo' ah ak d6 be=>?_;exact⟨o',d6⟩
  ·refine ac (y.live ho q) λsl h=>?_;exact⟨_,h⟩
 hand:=hH
 frok:=λen he=>by
  refine ai (B.frok en he) λk aI=>eg aI λL o hL av nH nb ho hc hn=> ac (y.live ho nH) λsl h=>?_;exact⟨k,L,_,hL,av,nH,nb,h,hc,hn⟩
theorem au.ex (B:ao X s.heap Av fr H)(y: ∀b o,s.heap.get? b=some o->s'.heap.get? b=some o):au X s'.heap Av H:=by
 have x:=B.hand;unfold au at x⊢;cases h:X.aH with
 |none=>replace x:=h▸x;exact x|some a=>
  replace x:=h▸x;refine ai x λav aI=>c7 aI λws gm l vs dt=> aB gm λo es ep ho r=>?_;exact⟨av,ws,(ct o es ep (y _ _ ho) r),l,aF.chg (λb o e n=>⟨y b o e,n⟩) _ _ vs,dt⟩
theorem ao.fresh (B:ao X s.heap Av fr H){b:qq7}(e:s.heap.get? b=none): ¬Av b:=λq=>by
 refine ac (B.live b q) λo ho=>?_;replace ho:=eS e ho;exact xNS ho
theorem ao.size (B:ao X s.heap Av fr H): ¬Av s.heap.objs.size:=B.fresh (by
 cases h:s.heap.get? s.heap.objs.size with
 |none=>rfl|some o=>exact absurd (ul h) (vg _))
section
variable (X:Cx)
def Iw (h h':qqK)(Av:qq7->Prop)(a:qq7)(v:Option qq0):Prop:=v=some .none\/ ∃T oT ts,v=some (.ref T)/\h.get? T=none/\T≠a/\ ¬Av T/\h'.get? T=some oT/\oT.data= .fields ts/\3<ts.size
def Ix (h':qqK)(Av:qq7->Prop)(p:AV)(a:qq7)(o:Obj)(v:Option qq0):Prop:= ∃dx es n u,¬Av dx/\o.cls= .ref X.C.pf/\notCls o=true/\o.dict=some dx/\h'.get? dx=some (dictOf es n)/\
 (es.find? (·.key.isStr (qqH "place"))).map (·.val)=some u/\VV X h' (λb=>Av b\/b=a\/v=some (.ref b)) p u
def fH (h h':qqK)(Av:qq7->Prop)(p:AV)(e:qq0):Prop:= ∃a o vs,e= .ref a/\h.get? a=none/\ ¬Av a/\h'.get? a=some o/\o.data= .fields vs/\1<vs.size/\(jc p).isSome=true/\Ix X h' Av p a o vs[1]? /\Iw h h' Av a vs[1]?
def At {α β:Type}(A:qqG)(fr:List Env)(Av:qq7->Prop)(R:qqK->α->β->Prop)(s:qq1)(H:HS)(t:Sem β)(mm:M α):Prop:=
 ∀r H',mm H=some (r,H')-> ∀(Q:β->qq1->Prop) (E:qq0->qq1->Prop),
  (∀d,r= .ok d-> ∀v s',Ex X (aO fr) s s'->au X s'.heap Av H'->R s'.heap d v->Q v s')->
  (∀p,r= .error p-> ∀e s',Ex X (aO fr) s s'->au X s'.heap Av H'->fH X s.heap s'.heap Av p e->E e s')->
  qq3 (qq5 X.P X.w) A t Q E s
end
end
section
variable {X:Cx}{A:qqG}{fr:List Env}{Av:qq7->Prop}{s s':qq1}{H H':HS}{α β γ δ:Type}{v u:qq0}{pos:Pos}{x r y:AV}{mm:M α}{R:qqK->α->β->Prop}{h h1 h' h2:qqK}{Q:qq0->qq1->Prop}{i:Int}{b:Bool}{t:Sem β}{vs ws:List qq0}{k:Str}{value slice:Expr}{ks:List Str}{mx my:M AV}{op:CmpOp}{l ds:List AV}{c:EG}{ix yX:qq7->Prop}{o:Obj}{f:α->M δ}{es:List Expr}
theorem Iw.old {a:qq7}{v:Option qq0}(k: ∀b,h.get? b=none->h1.get? b=none)(f:Iw h h' Av a v):Iw h1 h' Av a v:=f.imp id λf=>bT f λT oT ts k1 k2 k3=>(iD T oT ts k1 (k T k2) k3)
theorem Iw.chg {a:qq7}{v:Option qq0}(c:dB h1 ix h2 yX)(f:Iw h h1 ix a v):Iw h h2 yX a v:=f.imp id λf=>eh f λT oT ts k1 k2 k3 k4 k5 k6=>(gG T oT ts k1 k2 k3 (c T oT k5 k4).2 (c T oT k5 k4).1 k6)
theorem Ix.chg {p:AV}{a:qq7}{v:Option qq0}(c:dB h1 ix h2 yX)(f:Ix X h1 ix p a o v):Ix X h2 yX p a o v:=
 kN f λdx es n u q g1 g2 g3 g4 g5 g6=>(Cs dx es n u (c dx _ g4 q).2 g1 g2 g3 (c dx _ g4 q).1 g5 (VR.chg (λb o e n=>⟨(c b o e λq=>n (.inl q)).1,λq=>q.elim (c b o e λq=>n (.inl q)).2 λq=>n (.inr q)⟩) _ _ g6))
theorem fH.old {p:AV}{e:qq0}(k: ∀b,h.get? b=none->h1.get? b=none)(f:fH X h h' Av p e):fH X h1 h' Av p e:=
 mH f λa o vs he n1 q1 g1 g2 g3 g4 g5 g6=>(Cq a o vs he (k a n1) q1 g1 g2 g3 g4 g5 (g6.old k))
theorem fH.chg {p:AV}{e:qq0}(c:dB h1 ix h2 yX)(f:fH X h h1 ix p e):fH X h h2 yX p e:=
 mH f λa o vs he n1 q1 g1 g2 g3 g4 g5 g6=>(Cq a o vs he n1 (c a o g1 q1).2 (c a o g1 q1).1 g2 g3 g4 (g5.chg c) (g6.chg c))
theorem fH.back {s0:qq1}{p:AV}{e:qq0}(hH: ∀a,X.aH=some a->Av a)(B:ao X s.heap Av fr H)(x:Ex X (aO fr) s0 s)(f:fH X s.heap h' Av p e):fH X s0.heap h' Av p e:=
 f.old λb n=>by
  refine cO (s0.heap.get? b) (λq=>q) λo q=>?_;by_cases z:X.aH=some b
  ·exact absurd (hH b z) (B.fresh n)
  ·exact ac (x.live q z) λsl h=> xNS (n.symm.trans h)
set_option tactic.hygienic true in
theorem M.bind_some {mm:M α}{f:α->M δ}{r:Except AV δ}(e:M.bind mm f H=some (r,H')):
  (∃p,mm H=some (.error p,H')/\r= .error p)\/ ∃a H1,mm H=some (.ok a,H1)/\f a H1=some (r,H'):=by
 delta M.bind at e;split at e
 ·exact xNS e
 ·rename_i p H1 q;refine aN e λah ak=>?_;clear e;subst ah;subst ak;exact .inl (aj p q rfl)
 ·rename_i a H1 q;exact .inr (ei a H1 q e)
theorem At.bind {R1:qqK->α->β->Prop}{R2:qqK->δ->γ->Prop}{k:β->Sem γ}(B:ao X s.heap Av fr H)(h1:At X A fr Av R1 s H t mm)
  (h2: ∀a v s1 H1,Ex X (aO fr) s s1->ao X s1.heap Av fr H1->R1 s1.heap a v->At X A fr Av R2 s1 H1 (k v) (f a)):At X A fr Av R2 s H (t>>=k) (M.bind mm f):=by
 intro r H' e Q E hQ hE;refine ua (b7 e ?_ ?_);intro p e1 ak;subst ak;rotate_left;intro a H1 e1 e2;rotate_right
 ·exact h1 _ _ e1 _ _ (λd q=>xE q) λp' q e' s' x y z=>hE p' (by refine jE q λah=>?_;clear q;subst ah;rfl) e' s' x y z
 ·refine h1 _ _ e1 _ _ (λd q v s1 x1 y1 z1=>?_) (λp q=>xO q);refine jO q λah=>?_;clear q;subst ah;have B1:=B.ex x1 y1;exact h2 a v s1 H1 x1 B1 z1 _ _ e2 _ _ (λd q v' s' x y z=>hQ d q v' s' (x1.trans x) y z) λp q e' s' x y z=>hE p q e' s' (x1.trans x) y (z.back B.hand.av B1 x1)
theorem At.use {R1:qqK->α->β->Prop}{r:Except AV δ}(h1:At X A fr Av R1 s H t mm)(e:M.bind mm f H=some (r,H')){Q:β->qq1->Prop}{E:qq0->qq1->Prop}
  (hQ: ∀a H1,f a H1=some (r,H')-> ∀v s',Ex X (aO fr) s s'->au X s'.heap Av H1->R1 s'.heap a v->Q v s')
  (hE: ∀p,r= .error p-> ∀e s',Ex X (aO fr) s s'->au X s'.heap Av H'->fH X s.heap s'.heap Av p e->E e s'):qq3 (qq5 X.P X.w) A t Q E s:=by
 refine(M.bind_some e).elim (λq=>?_) (λq=>?_)
 ·exact af q λp e1 e2=> h1 _ _ e1 _ _ (λd q=>xE q) λp' q=>Except.error.inj q▸hE p e2
 ·exact aY q λa H1 e1 e2=> h1 _ _ e1 _ _ (λd q=>vl q▸hQ a H1 e2) (λp q=>xO q)
theorem At.pure {a:α}{v:β}(B:ao X s.heap Av fr H)(h:R s.heap a v):At X A fr Av R s H (pure v) (M.pure a):=by
 intro r H' e Q E hQ hE;refine aN e λah ak=>?_;clear e;subst ah;subst ak;exact ud (hQ _ rfl _ _ (.refl _ _) B.hand h)
theorem At.of {a:α}(h: ∀Q E,(∀v s',Ex X (aO fr) s s'->au X s'.heap Av H->R s'.heap a v->Q v s')->qq3 (qq5 X.P X.w) A t Q E s):At X A fr Av R s H t (M.pure a):=by
 intro r H' e Q E hQ hE;refine aN e λah ak=>?_;clear e;subst ah;subst ak;exact h Q E λv s' x y z=>hQ _ rfl v s' x y z
theorem At.stuck:At X A fr Av R s H t (stuck:M α):=λ_ _ e=>by exact xNS e
theorem At.lift {o:Option α}(h: ∀a,o=some a->At X A fr Av R s H t (M.pure a)):At X A fr Av R s H t (lift o):=by
 induction o using Option.casesOn with
 |none=>exact .stuck|some a=>exact h a rfl
theorem At.holding (h:At X A fr Av R s H t mm):At X A fr Av R s H (holding vs t) mm:=λr H' e Q E hQ hE=>qq8 (h r H' e Q E hQ hE)
theorem At.seq {t:Sem γ}{k:γ->Sem β}(ht: ∀Q E,(∀u,Q u s)->qq3 (qq5 X.P X.w) A t Q E s)(h: ∀u,At X A fr Av R s H (k u) mm):At X A fr Av R s H (t>>=k) mm:=λr H' e Q E hQ hE=>
 ua (ht _ _ λu=>h u r H' e Q E hQ hE)
theorem At.stand {k:Unit->Sem β}(h:At X A fr Av R s H (k ()) mm):At X A fr Av R s H (qqU pos>>=k) mm:=
 .seq (λ_ _ q=>qqF (q ())) λ_=>h
theorem At.bind_pure {t:Sem γ}{k:γ->Sem β}{c:γ}(e:t=Pure.pure c)(h:At X A fr Av R s H (k c) mm):At X A fr Av R s H (t>>=k) mm:=λr H' q Q E hQ hE=>by
 exact aa e (bp (h r H' q Q E hQ hE))
variable {prog:qzJ}{w:World}{E:qq0->qq1->Prop}
theorem M7 {t b:qq7}{vs ws:List qq0}(ht:IsTup s.heap t vs.toArray)(hb:IsTup s.heap b ws.toArray)
  (h0:vs= []->Q (.ref b) s) (h1:ws= []->Q (.ref t) s)
  (h2:Q (.ref s.heap.objs.size) {s with heap:=s.heap.push {cls:= .type "tuple",data:= .seq (vs++ws).toArray}})
  (hsz:vs.length+ws.length<=sizeLine):qq3 (qq5 prog w) A (binaryOp .Add (.ref t) (.ref b)) Q E s:=by
 refine aC (id ht) λaz ho hc aI=>?_;obtain⟨cls,dd,data,sl⟩:=az;refine ac aI λn hd=> aC (id hb) λaz fg M8 aI=>?_;obtain⟨Wp,RG,data2,RH⟩:=az;refine ac aI λn2 iy=>?_;simp only at hc hd M8 iy;subst hc hd M8 iy;have e:vs.toArray++ws.toArray=(vs++ws).toArray:=by simp
 by_cases hv:vs= []
 ·exact concat_meets (aj _ ho rfl) (aj _ fg rfl) noFill_tuple_add seq_tuple_add PySem.F.slot_tuple_add PySem.F.entry_tuple_add (PySem.F.args_tuple_add_2 _ _)
   (tuple_addW0 t b vs.toArray ws.toArray n n2 dd RG sl RH (by simp [hv])) (aQ ho fg (h0 hv))
 ·by_cases hw:ws= []
  ·exact concat_meets (aj _ ho rfl) (aj _ fg rfl) noFill_tuple_add seq_tuple_add PySem.F.slot_tuple_add PySem.F.entry_tuple_add (PySem.F.args_tuple_add_2 _ _)
    (tuple_addW1 t b vs.toArray ws.toArray n n2 dd RG sl RH (by simpa using hv) (by simp [hw])) (aQ ho fg (h1 hw))
  ·refine concat_meets (aj _ ho rfl) (aj _ fg rfl) noFill_tuple_add seq_tuple_add PySem.F.slot_tuple_add PySem.F.entry_tuple_add (PySem.F.args_tuple_add_2 _ _)
    (tuple_addW2 t b vs.toArray ws.toArray n n2 dd RG sl RH (by simpa using hv) (by simpa using hw) (by refine aa ve (aa ve ?_);exact hsz)) (aQ ho fg ?_)
   exact aa e h2
theorem M9 {l b:qq7}{vs ws:List qq0}(hl:s.heap.IsList l vs.toArray)(hb:s.heap.IsList b ws.toArray)
  (h:Q (.ref s.heap.objs.size) {s with heap:=s.heap.push {cls:= .type "list",data:= .seq (vs++ws).toArray}})
  (hsz:vs.length+ws.length<=sizeLine):qq3 (qq5 prog w) A (binaryOp .Add (.ref l) (.ref b)) Q E s:=by
 refine aC (id hl) λaz ho hc aI=>?_;obtain⟨cls,dd,data,sl⟩:=az;refine ac aI λn hd=> aC (id hb) λaz fg M8 aI=>?_;obtain⟨Wp,RG,data2,RH⟩:=az;refine ac aI λn2 iy=>?_;simp only at hc hd M8 iy;subst hc hd M8 iy;have e:vs.toArray++ws.toArray=(vs++ws).toArray:=by simp
 refine concat_meets (aj _ ho rfl) (aj _ fg rfl) noFill_list_add seq_list_add PySem.F.slot_list_add PySem.F.entry_list_add (PySem.F.args_list_add_2 _ _) (list_addW l b vs.toArray ws.toArray n n2 dd RG sl RH (by simpa using hsz)) (aQ ho fg ?_);exact aa e h
theorem Fz (b n:Nat):qq4 none (some (b:Int)) 1 (n:Int)=((0:Int),(((min b n:Nat)):Int)):=by
 delta qq4;have h1: ¬((1:Int)<0):=by exact Y0
 have h2: ¬((b:Int)<0):=by exact ZM
 simp only [h1,h2,if_false];congr 1;exact ZN
theorem yY (b:Nat):qqB 0 (b:Int) 1=b:=by
 delta qqB;have h1:(1:Int)>0:=by exact ZO
 simp only [h1,if_true,Int.ediv_one];split<;>omega
theorem RI (n:Nat):qq4 none none (-1) (n:Int)=((n:Int)-1,(-1:Int)):=by
 delta qq4;have h1:((-1:Int)<0):=by exact ZP
 rfl
theorem yZ (n:Nat):qqB ((n:Int)-1) (-1) (-1)=n:=by
 delta qqB;have h1: ¬((-1:Int)>0):=by exact ZQ
 simp only [h1,if_false];have h2:(-(-1):Int)=1:=by exact ZR
 refine aa h2 ?_;rewrite [Int.ediv_one];split<;>omega
theorem D3 {sl:qq7}{va vb vc:qq0}{lo hi st:Option Int}{n:Nat}{Q:Int×Int×Nat->qq1->Prop}(hs:s.heap.IsSliceOf sl va vb vc)(pa:IsPart va lo)(pb:IsPart vb hi)(pc:IsPart vc st)
  (h0:(st.getD 1==0)=false)
  (h:Q ((qq4 lo hi (st.getD 1) (n:Int)).1,st.getD 1,qqB (qq4 lo hi (st.getD 1) (n:Int)).1 (qq4 lo hi (st.getD 1) (n:Int)).2 (st.getD 1)) s):
  qq3 (qq5 prog w) A (qxT (.ref sl) (pure (n:Int))) Q E s:=by
 refine aC (id hs) λos RJ RK Up=>?_;have part: ∀{v:qq0} {o:Option Int} {Q':Option Int->qq1->Prop},IsPart v o->Q' o s->qq3 (qq5 prog w) A (Builtin.Slice.slicePartIndex v) Q' E s:=λp q=>by
  cases p with
  |none=>exact slicePart_none q|int i t=>exact slicePart_int q
 unfold qxT Builtin.Slice.sliceFields;refine ua (ua (qqE RJ Up (x:=va) rfl (ua (qqE RJ Up (x:=vb) rfl (ua (qqE RJ Up (x:=vc) rfl (ud ?_)))))));refine ua (part pc ?_);refine(?_:qq3 _ _ (if(st.getD 1==0)=true then _ else _) _ _ s);refine aa (if_neg (by refine aa h0 ?_;decide)) ?_;exact ua (part pa (ua (part pb (bp (ud h)))))
theorem kX {t sl:qq7}{items:Array qq0}{va vb vc:qq0}{lo hi st:Option Int}(ht:IsTup s.heap t items)(hs:s.heap.IsSliceOf sl va vb vc)
  (pa:IsPart va lo) (pb:IsPart vb hi) (pc:IsPart vc st) (h0:(st.getD 1==0)=false) (res:List qq0)
  (hr:((List.range (qqB (qq4 lo hi (st.getD 1) (items.size:Int)).1 (qq4 lo hi (st.getD 1) (items.size:Int)).2 (st.getD 1))).filterMap λ(k:Nat)=>items[((qq4 lo hi (st.getD 1) (items.size:Int)).1+(k:Int)*(st.getD 1)).toNat]?)=res)
  (hw:((qq4 lo hi (st.getD 1) (items.size:Int)).1==0 && st.getD 1==1 && (qqB (qq4 lo hi (st.getD 1) (items.size:Int)).1 (qq4 lo hi (st.getD 1) (items.size:Int)).2 (st.getD 1))==items.size)=true->res=items.toList)
  (h1:res=items.toList->Q (.ref t) s)
  (h:Q (.ref s.heap.objs.size) {s with heap:=s.heap.push {cls:= .type "tuple",data:= .seq res.toArray}})
  (hsz:res.length<=sizeLine):qq3 (qq5 prog w) A (getItem (.ref t) (.ref sl)) Q E s:=by
 refine aC (id hs) λos RJ RK Up=>?_;have ZS:s.TypeIs (.ref sl) "slice":=(aj os RJ RK);delta getItem
 try with_reducible refine qq8 ?_
 first|refine bp ?_|skip
 refine ua (wpAny_sequenceKey ht.typeIs (by rfl) ?_);refine ua (wpAny_callSpecial?_slot (name:=qqH "__getitem__") ht.typeIs slot_tuple_getitem
  (qqD slot_tuple_getitem ht.typeIs entry_tuple_getitem ?_ (args_tuple_getitem _ _)))
 refine(?_:qq3 _ _ (Builtin.Tuple.tupleItemsOf (.ref t)>>=_) _ _ s);refine ua (tupleItemsOf_ ht ?_);refine ua (wpAny_typeOf ZS ?_);refine aa (if_pos (by rfl)) (ua (D3 hs pa pb pc h0 ?_));generalize qq4 lo hi (st.getD 1) (items.size:Int)=ad at*;obtain⟨Wq,ZT⟩:=ad;generalize qqB Wq ZT (st.getD 1)=np at*;dsimp only at*;subst hr;by_cases hc:(Wq==0 && st.getD 1==1 && np==items.size)=true
 ·refine aa (if_pos hc) (ua ?_);delta Builtin.Tuple.tupleIsExact;refine ua (wpAny_typeOf ht.typeIs (ud ?_));exact aa (if_pos (by rfl)) (ua (qzU (bp (ud ⟨_,rfl,ud (h1 (hw hc))⟩))))
 ·refine aa (if_neg hc) ?_;have Iy:sizeOk (.seq ((List.range np).filterMap λ(k:Nat)=>items[(Wq+(k:Int)*(st.getD 1)).toNat]?).toArray):=by
   refine(?_:Array.size _<=sizeLine);exact aa ve hsz
  first
   |exact ua (m:=qzE _) (qqA (ud (aj _ rfl (ud h))) Iy)
   |exact ua (m:=qzE _) (qqA (bp (ud ⟨_,rfl,ud h⟩)) Iy)
   |exact ua (ua (m:=qzE _) (qqA (ud (ud ⟨_,rfl,ud h⟩)) Iy))
   |exact ua (ua (m:=qzE _) (qqA (ud ⟨_,rfl,ud h⟩) Iy))
theorem D4 (xs:Array qq0)(b:Nat):((List.range (min b xs.size)).filterMap λ(k:Nat)=>xs[((0:Int)+(k:Int)*1).toNat]?)=xs.toList.take b:=by
 have e:(λ(k:Nat)=>xs[((0:Int)+(k:Int)*1).toNat]?)=λk=>xs[0+k]? :=by
  funext k;have:((0:Int)+(k:Int)*1).toNat=0+k:=by exact Vi
  refine aa this ?_;rfl
 refine aa e ?_;have:=pick_run xs 0 (min b xs.size);replace this:=eS List.filterMap_map this;have e2:((λx=>xs[x]?)∘λx=>0+x)=λk=>xs[0+k]? :=rfl;replace this:=e2▸this;refine aa this (aa List.drop_zero ?_);refine bq ux ?_;simp [List.take_eq_take_iff]
theorem F3 (xs:Array qq0):((List.range xs.size).filterMap λ(k:Nat)=>xs[(((xs.size:Int)-1)+(k:Int)*(-1)).toNat]?)=xs.toList.reverse:=by
 apply List.ext_getElem?;intro i;have hm:((List.range xs.size).filterMap λ(k:Nat)=>xs[(((xs.size:Int)-1)+(k:Int)*(-1)).toNat]?)=(List.range xs.size).filterMap λk=>xs[xs.size-1-k]? :=by
  congr 1;funext k;have:(((xs.size:Int)-1)+(k:Int)*(-1)).toNat=xs.size-1-k:=by exact Vj
  refine aa this ?_;rfl
 refine aa hm ?_;have h2:(List.range xs.size).filterMap (λk=>xs[xs.size-1-k]?)=((List.range xs.size).map λk=>xs.size-1-k).filterMap (xs[·]?):=by
  refine aa List.filterMap_map ?_;rfl
 refine aa h2 ?_;rewrite [krv_range];refine aa List.filterMap_reverse ?_;rewrite [krv_all];rfl
structure CxOk (X:Cx):Prop where
 ins:X.K.In X.h0
 nolim:X.h0.NoLimit
 glob: ∃mg mb,X.h0.Ns qqR mg/\X.h0.Ns qz0 mb/\ ∀x v,X.C.glob x=some v->mg x=some v\/(mg x=none/\mb x=some v)
 big: ∃a o,1<a/\X.h0.get? a=some o
variable {env:Env}{oa:Str->qq7}{ae:Loc}{m cm:Str->Option qq0}
noncomputable abbrev bw (X:Cx)(A:qqG)(fr:List Env)(Av:qq7->Prop)(s:qq1)(H:HS)(t:Sem qq0)(mm:M AV):Prop:=At X A fr Av (λh d v=>VV X h Av d v) s H t mm
noncomputable abbrev Ic (X:Cx)(A:qqG)(fr:List Env)(Av:qq7->Prop)(s:qq1)(H:HS)(t:Sem (List qq0))(mm:M (List AV)):Prop:=At X A fr Av (λh d v=>cu X h Av d v) s H t mm
noncomputable abbrev g_ (X:Cx)(A:qqG)(fr:List Env)(Av:qq7->Prop)(s:qq1)(H:HS)(t:Sem Bool)(mm:M Bool):Prop:=At X A fr Av (λ_ b c=>b=c) s H t mm
set_option tactic.hygienic true in
theorem jg {x:Str}(h:slot env m cm x=some v): ∃k,env.kindOf x=some k/\(k= .local\/k= .cell\/k= .free):=by
 delta slot at h;split at h
 ·rename_i e;exact(aj _ e (.inl rfl))
 ·split at h
  ·rename_i e
   refine ui e (λe=>?_) λe=>?_
   ·exact(aj _ e (.inr (.inl rfl)))
   ·exact(aj _ e (.inr (.inr rfl)))
  ·exact xNS h
theorem gn (L:aJ X s.heap env Av oa ae m cm){x:Str}{k:qqL}(h:env.kindOf x=some k):(x==("__debug__":Str))=false:=by
 cases q:x==("__debug__":Str) with
 |false=>rfl|true=>replace h:=(beq_iff_eq.mp q)▸h;replace h:=eS L.dbg h;exact xNS h
set_option tactic.hygienic true in
theorem kY (L:aJ X s.heap env Av oa ae m cm){x:Str}(h:slot env m cm x=some v)(hQ:Q v s):
  qq3 (qq5 X.P X.w) A (loadName env x) Q E s:=by
 have h':=h;delta slot at h;split at h
 ·rename_i e
  exact wpAny_loadName_local L.kind e L.ns h hQ
 ·split at h
  ·rename_i e1 e
   refine ac (Option.isSome_iff_exists.mp (L.hasc x e)) λc hc=>?_;have eA:=L.cells x c hc;replace eA:=h▸eA;refine ui e (λe=>?_) λe=>?_
   ·exact wpAny_loadName_cell L.kind e hc eA hQ
   ·refine wpAny_loadName_free L.kind e hc eA hQ ?_;cases q:x==("__classdict__":Str) with
    |false=>rfl|true=>replace e:=(beq_iff_eq.mp q)▸e;replace e:=eS L.cdt e;exact xNS e
  ·exact xNS h
set_option tactic.hygienic true in
theorem gp (O:CxOk X)(B:ao X s.heap Av fr H)(L:aJ X s.heap env Av oa ae m cm){x:Str}:bw X A fr Av s H (eval (.Name x pos) env) (lift (ec X.C ae x)):=by
 refine .lift λd e=>.of λQ E hQ=>?_;unfold ec at e;split at e
 ·rename_i v hv
  refine al e λah=>?_;clear e;subst ah;exact af (L.vals x v hv) λu hu hr=> af (jg hu) λk hk ak=> wpAny_Name (kY L hu (hQ _ _ (.refl _ _) B.hand hr)) (gn L hk)
 ·split at e
  ·rename_i hk
   simp only [qqT] at e;refine af e λv hv ak=>?_;clear e;subst ak;have jY:env.kindOf x=some .globalImplicit:=by
    refine ui (L.kinds x _ hk) ?_ ?_;intro h;rotate_left;intro az;refine ai az λh gm=>?_;rotate_right
    ·exact h
    ·cases h
   refine a8 O.glob λmg mb hg hb md=>?_;have L8:s.heap.Ns env.globals mg:=by exact aa L.glb (hg.keeps B.base)
   have F4:s.heap.Ns env.builtins mb:=by exact aa L.bi (hb.keeps B.base)
   refine Calls.Name_function_global L.kind jY ?_ (gn L jY);refine ui (md x v hv) ?_ ?_;intro h;rotate_left;intro az;refine ai az λh1 h2=>?_;rotate_right
   ·exact Calls.loadGlobal_global L8 h (hQ _ _ (.refl _ _) B.hand rfl)
   ·exact Calls.loadGlobal_builtin L8 h1 F4 h2 (hQ _ _ (.refl _ _) B.hand rfl)
  ·exact xNS e
theorem y_ (B:ao X s.heap Av fr H){c:Const}{k:Nat}:bw X A fr Av s H (eval (.Constant c k pos) env) (lift (ki c)):=by
 refine .lift λd e=>.of λQ E hQ=>?_
 induction c using PySem.Const.casesOn with
 |none=>refine al e λe=>?_;subst e;exact wpAny_Constant_none (hQ _ _ (.refl _ _) B.hand rfl)
 |bool b=>refine al e λe=>?_;subst e;exact wpAny_Constant_bool (hQ _ _ (.refl _ _) B.hand rfl)
 |int i=>refine al e λe=>?_;subst e;exact wpAny_Constant_int (hQ _ _ .tok (au.ex (s':={s with toks:=s.toks+1}) B λ_ _ e=>e) ⟨_,rfl⟩)
 |str x=>refine al e λe=>?_;subst e;exact wpAny_Constant_str (hQ _ _ .tok (au.ex (s':={s with toks:=s.toks+1}) B λ_ _ e=>e) ⟨_,rfl⟩)
 |_=>exact xNS e
theorem au.push (B:ao X s.heap Av fr H):au X (s.heap.push o) Av H:=au.ex (s':={s with heap:=s.heap.push o}) B λ_ _ e=>uc _ e
theorem au.tok (B:ao X s.heap Av fr H){k:Nat}:au X ({s with toks:=k}:qq1).heap Av H:=au.ex (s':={s with toks:=k}) B λ_ _ e=>e
theorem du:dB s.heap Av (s.heap.push o) Av:=λb x e n=>⟨uc _ e,n⟩
theorem za (B:ao X s.heap Av fr H)(h:cu X s.heap Av ds vs)(hz:ds.length<=1000):bw X A fr Av s H (newTuple vs) (M.pure (.tup ds)):=by
 refine .of λQ E hQ=> qqA (hQ _ _ .push (au.push B) ⟨_,_,rfl,B.size,⟨_,ue _ rfl⟩,hz,?_⟩) ?_
 ·exact aF.chg du _ _ (by simpa using h)
 ·refine(?_:vs.toArray.size<=sizeLine);refine aa ve (aa (aF.length h) ?_);exact aa sizeLine_eq (o0 hz)
theorem A_ (B:ao X s.heap Av fr H)(h:cu X s.heap Av ds vs)(hz:ds.length<=1000):bw X A fr Av s H (newList vs) (M.pure (.list ds)):=by
 refine .of λQ E hQ=> qqA (hQ _ _ .push (au.push B) ⟨_,_,rfl,B.size,⟨_,ue _ rfl⟩,hz,?_⟩) ?_
 ·exact aF.chg du _ _ (by simpa using h)
 ·refine(?_:vs.toArray.size<=sizeLine);refine aa ve (aa (aF.length h) ?_);exact aa sizeLine_eq (o0 hz)
theorem gN (e:Expr)(r:List Expr)(env:Env):(∃a p,e= .Starred a p)\/qqO (e::r) env=(false,eval e env)::qqO r env:=by
 cases e<;>first|exact .inr rfl|exact .inl (cK _ _ rfl)
theorem dP (B:ao X s.heap Av fr H):Ic X A fr Av s H (qzP (backTo pos (qqO [] env))) (M.pure []):= .pure B rfl
theorem cA (B:ao X s.heap Av fr H){e:Expr}{r:List Expr}{m1:M AV}{m2:M (List AV)}(hs: ∀a p,e≠ .Starred a p)
  (h1:bw X A fr Av s H (eval e env) m1) (h2: ∀s1 H1,ao X s1.heap Av fr H1->Ex X (aO fr) s s1->Ic X A fr Av s1 H1 (qzP (backTo pos (qqO r env))) m2):
  Ic X A fr Av s H (qzP (backTo pos (qqO (e::r) env))) (M.bind m1 λv=>M.bind m2 λvs=>M.pure (v::vs)):=by
 refine ui (gN e r env) ?_ ?_;intro az;refine aX az λa p q=>?_;rotate_left;intro q;rotate_right
 ·exact absurd q (hs a p)
 ·exact aa q (.bind B h1 λa v s1 H1 x1 B1 v1=> .bind_pure (c:= [v]) rfl (.bind B1 (.holding (h2 s1 H1 B1 x1)) λas vs s2 H2 x2 B2 v2=> .pure B2 (aF.cons (VR.chg (B1.chg x2) _ _ v1) v2)))
variable {n d:Nat}
theorem hM {R:qqK->α->qq0->Prop}{t:Sem qq0}(h:At X A fr Av R s H t mm):At X A fr Av R s H (operate vs t) mm:=λr H' e Q E hQ hE=>wpAny_operateT (h r H' e Q E hQ hE)
theorem j7 (B:ao X s.heap Av fr H){k k':Nat}(hQ: ∀v s',Ex X (aO fr) s s'->au X s'.heap Av H->VV X s'.heap Av (.int i) v->Q v s'):Q (.int i k) {s with toks:=k'}:=hQ _ _ .tok (au.tok B) ⟨_,rfl⟩
theorem fT (B:ao X s.heap Av fr H){k':Nat}(hQ: ∀v s',Ex X (aO fr) s s'->au X s'.heap Av H->VV X s'.heap Av (.bool b) v->Q v s'):Q (.bool b) {s with toks:=k'}:=hQ _ _ .tok (au.tok B) rfl
theorem gq (h:bu i=true): -(2^62)<i/\i<2^62:=by
 delta bu at h;have:=of_decide_eq_true h;exact Vk this
theorem Ba (h: -(2^62)<i/\i<2^62):Builtin.Int.intBits i<=64:=intBits_le_64 (Vl h) (Vm h)
theorem Bb {b:Int}(h:0<b)(k:b<1000):b.natAbs<1073741824:=by exact Vn h k
theorem fh {f:Int->Int->Option AV}(e:intOp f x y=some r): ∃a b,x= .int a/\y= .int b/\f a b=some r:=by
 refine hide λG hG=>?_
 induction x using AV.casesOn with
 |int a=>
  induction y using AV.casesOn with
  |int b=>exact hG (cq a b rfl rfl e)|_=>exact xNS e
 |_=>exact xNS e
theorem cC {c:Prop} [Decidable c]{a r:α}(e:(if c then some a else none)=some r):c/\a=r:=by
 by_cases h:c
 ·replace e:=eS (if_pos h) e;exact⟨h,ug e⟩
 ·replace e:=eS (if_neg h) e;exact xNS e
theorem Iz (B:ao X s.heap Av fr H){a b:List AV}(hx:VV X s.heap Av (.tup a) u)(hy:VV X s.heap Av (.tup b) v)(q:a.length+b.length<=1000){Q E}(hQ: ∀v s',Ex X (aO fr) s s'->au X s'.heap Av H->VV X s'.heap Av (.tup (a++b)) v->Q v s'):qq3 (qq5 X.P X.w) A (binaryOp .Add u v) Q E s:=by
 refine aP hx λt vs ak n1 h1 z1 r1=>?_;clear hx;subst ak;refine aP hy λk ws ak n2 h2 z2 r2=>?_;clear hy;subst ak;have l1:=aF.length r1;have l2:=aF.length r2;have z:(a++b).length<=1000:=by exact aa qxU q
 have r3:=aF.append r1 r2;refine M7 (vs:=vs.toList) (ws:=ws.toList) h1.is h2.is (λq0=>?_) (λq0=>?_) ?_ (by refine aa l1 (aa l2 ?_);exact aa sizeLine_eq (ub q (by exact uj _ _)))
 ·replace r3:=q0▸r3;rewrite [vx] at r3;exact hQ _ _ (.refl _ _) B.hand ⟨k,ws,rfl,n2,h2,z,r3⟩
 ·replace r3:=q0▸r3;rewrite [uN] at r3;exact hQ _ _ (.refl _ _) B.hand ⟨t,vs,rfl,n1,h1,z,r3⟩
 ·exact hQ _ _ .push (au.push B) ⟨_,_,rfl,B.size,⟨_,ue _ rfl⟩,z,aF.chg du _ _ r3⟩
theorem F5 (B:ao X s.heap Av fr H){a b:List AV}(hx:VV X s.heap Av (.list a) u)(hy:VV X s.heap Av (.list b) v)(q:a.length+b.length<=1000){Q E}(hQ: ∀v s',Ex X (aO fr) s s'->au X s'.heap Av H->VV X s'.heap Av (.list (a++b)) v->Q v s'):qq3 (qq5 X.P X.w) A (binaryOp .Add u v) Q E s:=by
 refine aP hx λt vs ak n1 h1 z1 r1=>?_;clear hx;subst ak;refine aP hy λk ws ak n2 h2 z2 r2=>?_;clear hy;subst ak;refine M9 (vs:=vs.toList) (ws:=ws.toList) h1.isList h2.isList ?_ (by refine aa (aF.length r1) (aa (aF.length r2) ?_);exact aa sizeLine_eq (ub q (by exact uj _ _)));exact hQ _ _ .push (au.push B) ⟨_,_,rfl,B.size,⟨_,ue _ rfl⟩,by exact aa qxU q,aF.chg du _ _ (aF.append r1 r2)⟩
theorem MA (B:ao X s.heap Av fr H)(hx:VV X s.heap Av x u)(hy:VV X s.heap Av y v)(e:Ot x y=some r){Q E}(hQ: ∀v s',Ex X (aO fr) s s'->au X s'.heap Av H->VV X s'.heap Av r v->Q v s'):qq3 (qq5 X.P X.w) A (binaryOp .Add u v) Q E s:=by
 induction x using AV.casesOn with
 |int a=>
  induction y using AV.casesOn with
  |int b=>
   refine ac hx λt ah=>?_;clear hx;subst ah;refine ac hy λk ah=>?_;clear hy;subst ah;refine ai (cC e) λaz ah=>?_;subst ah;exact add_int (j7 B hQ)
  |_=>exact xNS e
 |tup a=>
  induction y using AV.casesOn with
  |tup b=>refine ai (cC e) λq ah=>?_;subst ah;exact Iz B hx hy q hQ
  |_=>exact xNS e
 |list a=>
  induction y using AV.casesOn with
  |list b=>refine ai (cC e) λq ah=>?_;subst ah;exact F5 B hx hy q hQ
  |_=>exact xNS e
 |_=>exact xNS e
theorem F6 (B:ao X s.heap Av fr H){op:Operator}(hx:VV X s.heap Av x u)(hy:VV X s.heap Av y v):bw X A fr Av s H (binaryOp op u v) (lift (binop op x y)):=by
 refine .lift λr e=>.of λQ E hQ=>?_;cases op with
 |Add=>exact MA B hx hy e hQ|Sub=>
  refine a8 (fh e) λa b ak c8 e=>?_;subst ak;subst c8;refine ac hx λt ah=>?_;clear hx;subst ah;refine ac hy λk ah=>?_;clear hy;subst ah;refine ai (cC e) λaz ah=>?_;subst ah;exact sub_int (j7 B hQ)
 |Mult=>
  refine a8 (fh e) λa b ak c8 e=>?_;subst ak;subst c8;refine ac hx λt ah=>?_;clear hx;subst ah;refine ac hy λk ah=>?_;clear hy;subst ah;refine ai (cC e) λq ah=>?_;subst ah;have h1:=gq (uv .. |>.mp (uv .. |>.mp q).1).1;exact mul_int (j7 B hQ) (.of_left (Ba h1))
 |FloorDiv=>
  refine a8 (fh e) λa b ak c8 e=>?_;subst ak;subst c8;refine ac hx λt ah=>?_;clear hx;subst ah;refine ac hy λk ah=>?_;clear hy;subst ah;refine ai (cC e) λq ah=>?_;subst ah;have q:=uv .. |>.mp q;have q1:=of_decide_eq_true q.1;have q2:=of_decide_eq_true q.2;refine floordiv_int (Int.ne_of_gt q1) ?_ (.inl (PyProof.noPylong_small (Bb q1 q2)));exact aa (Int.fdiv_eq_ediv_of_nonneg _ (vr q1)) (j7 B hQ)
 |Mod=>
  refine a8 (fh e) λa b ak c8 e=>?_;subst ak;subst c8;refine ac hx λt ah=>?_;clear hx;subst ah;refine ac hy λk ah=>?_;clear hy;subst ah;refine ai (cC e) λq ah=>?_;subst ah;have q:=of_decide_eq_true q;exact mod_int (Int.ne_of_gt q) (aa (Int.fmod_eq_emod_of_nonneg _ (vr q)) (j7 B hQ))
 |_=>exact xNS e
theorem L9 (O:E8 A fr n d)(B:ao X s.heap Av fr H)(hx:VV X s.heap Av x u)(hy:VV X s.heap Av y v)(e:gR x y=some b):(∀{Q E},Q (.bool b) s->qq3 (qq5 X.P X.w) A (compareOp .Eq u v) Q E s)/\ ∀{Q E},Q (.bool (!b)) s->qq3 (qq5 X.P X.w) A (compareOp .NotEq u v) Q E s:=by
 refine a8 (Fu e) λp q e1 e2 be=>?_;subst be;refine aU (iE e1) λa1 a2 a3=> aU (iE e2) λb1 b2 b3=> ac (VR.reads _ _ _ hx a1) λas ra=> ac (VR.reads _ _ _ hy b1) λbs rb=>?_;have MB:=O.units;have mZ:cLine=9900:=rfl;exact⟨SeqAt.compareEq_reads ra rb a2 b2 (OL b3 MB mZ),SeqAt.compareNe_reads ra rb a2 b2 (OL b3 MB mZ)⟩
theorem F7 {k:Str}(e:ks.length=ws.length):(valueAt (ks.zip ws) k).isSome=ks.contains k:=by
 induction ks generalizing ws with
 |nil=>rfl|cons x xs ih=>
  induction ws using List.casesOn with
  |nil=>simp at e|cons y ys=>
   have:=ih (ws:=ys) (by simpa using e);unfold valueAt at this⊢;simp only [uU,qxM,List.contains_cons];by_cases q:x=k
   ·subst q;simp
   ·have q':(k==x)=false:=by exact Iff.mpr beq_eq_false_iff_ne (λh=>q h.symm)
    simp only [q,decide_false,q',Bool.false_or];exact this
theorem cb {P:qzJ}{t:Tok}:(strKind P w).is k (.str k t)=true:=by
 refine(?_:qq0.isStrOf k (.str k t)=true);simp [qq0.isStrOf]
theorem jh {f:Int->Int->Bool}(e:Ig f x y=some b): ∃i j,x= .int i/\y= .int j/\f i j=b:=by
 refine hide λG hG=>?_
 induction x using AV.casesOn with
 |int i=>
  induction y using AV.casesOn with
  |int j=>exact hG (cq i j rfl rfl (ug e))|_=>exact xNS e
 |_=>exact xNS e
theorem j8 (hx:VV X s.heap Av x u)(hy:VV X s.heap Av y v)(e:oq x y=some b):v= .none/\(u==qq0.none)=b:=by
 induction y using AV.casesOn with
 |none=>
  refine⟨hy,?_⟩;have e:Ch x=some b:=e
  induction x using AV.casesOn with
  |none=>exact aa (show u=qq0.none from hx) (ug e)|bool _=>exact aa (show u=qq0.bool _ from hx) (ug e)|int _=>refine ac hx λt ah=>?_;clear hx;subst ah;exact ug e
  |str _=>refine ac hx λt ah=>?_;clear hx;subst ah;exact ug e
  |tup _=>refine aY hx λa vs ak c8=>?_;clear hx;subst ak;exact ug e
  |list _=>refine aY hx λa vs ak c8=>?_;clear hx;subst ak;exact ug e
  |_=>exact xNS e
 |_=>exact xNS e
theorem LA (O:E8 A fr n d)(B:ao X s.heap Av fr H)(hx:VV X s.heap Av x u)(hy:VV X s.heap Av y v)(e:U_ x y=some b):
  (∀{Q E},(∀s',Ex X (aO fr) s s'->au X s'.heap Av H->Q (.bool b) s')->qq3 (qq5 X.P X.w) A (compareOp .In u v) Q E s)/\ ∀{Q E},(∀s',Ex X (aO fr) s s'->au X s'.heap Av H->Q (.bool (!b)) s')->qq3 (qq5 X.P X.w) A (compareOp .NotIn u v) Q E s:=by
 have MB:=O.units;have mZ:cLine=9900:=rfl
 induction y using AV.casesOn with
 |tup l=>
  refine cn (yR e) λp ps e1 e2 e3 dX=>?_;subst dX;refine aU (iE e1) λa1 a2 a3=> ac (VR.reads _ _ _ hx a1) λas ra=> ac (VR.reads _ _ (.tuple ps) hy (gk e2)) λbs rb=>?_;exact⟨λh=>SeqAt.in_tuple_reads rb ra e3 a2 (Im MB mZ a3) (h _ (.refl _ _) B.hand),λh=>SeqAt.notIn_tuple_reads rb ra e3 a2 (Im MB mZ a3) (h _ (.refl _ _) B.hand)⟩
 |list l=>
  refine cn (yR e) λp ps e1 e2 e3 dX=>?_;subst dX;refine aU (iE e1) λa1 a2 a3=> ac (VR.reads _ _ _ hx a1) λas ra=> ac (VR.reads _ _ (.list ps) hy (yQ e2)) λbs rb=>?_;exact⟨λh=>SeqAt.in_list_reads rb ra e3 a2 (Im MB mZ a3) (h _ (.refl _ _) B.hand),λh=>SeqAt.notIn_list_reads rb ra e3 a2 (Im MB mZ a3) (h _ (.refl _ _) B.hand)⟩
 |dict ks vs=>
  induction x using AV.casesOn with
  |str k=>
   refine ac hx λt ah=>?_;clear hx;subst ah;refine aP hy λa ws ak n1 hd dX r=>aU dX λz1 z2 z3=>?_;clear dX;subst ak;obtain rfl:=ug e;have hm:=F7 (k:=k) z1;exact⟨λh=>wpAny_in_of cb z2 hd.mapOf (by exact aa hm (h _ .tok (au.tok B))),λh=>wpAny_notIn_of cb z2 hd.mapOf (by exact aa hm (h _ .tok (au.tok B)))⟩
  |_=>exact xNS e
 |_=>exact xNS e
theorem map_some {f:α->β}{o:Option α}{b:β}(e:o.map f=some b): ∃a,o=some a/\f a=b:=by
 induction o using Option.casesOn with
 |none=>exact xNS e|some a=>exact(aj a rfl (ug e))
theorem zc (O:E8 A fr n d)(B:ao X s.heap Av fr H)(hx:VV X s.heap Av x u)(hy:VV X s.heap Av y v):bw X A fr Av s H (compareOp op u v) (lift ((mA op x y).map .bool)):=by
 refine .lift λr e=>.of λQ E hQ=> af (map_some e) λb e1 ak=>?_;subst ak;have hb:Q (.bool b) s:=hQ _ _ (.refl _ _) B.hand rfl;have hc: ∀s',Ex X (aO fr) s s'->au X s'.heap Av H->Q (.bool b) s':=λs' x y=>hQ _ _ x y rfl;cases op with
 |Eq=>exact(L9 O B hx hy e1).1 hb|NotEq=>refine af (map_some e1) λc e2 ak=>?_;subst ak;exact(L9 O B hx hy e2).2 hb
 |Lt=>
  refine a8 (jh e1) λi j ak c8 be=>?_;subst ak;subst c8;subst be;refine ac hx λt ah=>?_;clear hx;subst ah;refine ac hy λk ah=>?_;clear hy;subst ah;exact lt_int hb
 |LtE=>
  refine a8 (jh e1) λi j ak c8 be=>?_;subst ak;subst c8;subst be;refine ac hx λt ah=>?_;clear hx;subst ah;refine ac hy λk ah=>?_;clear hy;subst ah;exact le_int hb
 |Gt=>
  refine a8 (jh e1) λi j ak c8 be=>?_;subst ak;subst c8;subst be;refine ac hx λt ah=>?_;clear hx;subst ah;refine ac hy λk ah=>?_;clear hy;subst ah;exact gt_int hb
 |Is=>
  refine ai (j8 hx hy e1) λaz h=>?_;subst az;exact is_none (by exact aa h hb)
 |IsNot=>
  refine af (map_some e1) λc e2 ak=>?_;subst ak;refine ai (j8 hx hy e2) λaz h=>?_;subst az;exact isNot_none (by exact aa h hb)
 |In=>exact(LA O B hx hy e1).1 hc|NotIn=>refine af (map_some e1) λc e2 ak=>?_;subst ak;exact(LA O B hx hy e2).2 hc
 |_=>exact xNS e1
theorem dk {o i:qq0}{T id:String}(hT:s.TypeIs o T)
  (hl:typeLookup (.type T) "__getitem__"=pure (some (.builtin id))) (hg:qq3 (qq5 X.P X.w) A (getItem o i) Q E s):qq3 (qq5 X.P X.w) A (qqW value slice o i) Q E s:=by
 induction slice using PySem.Expr.casesOn with
 |Slice a b c p=>
  induction c using Option.casesOn with
  |none=>exact tail_any hT hl hg rfl|some c=>exact tail_any (ops:= [o,i]) hT hl hg rfl
 |_=>exact tail_any (ops:= [o,i]) hT hl hg rfl
set_option tactic.hygienic true in
theorem hU {d:AV}(h:gS l i=some d):0<=i/\i<2^62/\l[i.toNat]? =some d:=by
 delta gS at h;split at h
 ·rename_i c;have:=gq c.2;exact(aQ c.1 this.2 h)
 ·exact xNS h
theorem aF.getA {vs:Array qq0}(i:Nat){d:AV}(x:cu X h Av ds vs.toList)(e:ds[i]? =some d): ∃v,vs[i]? =some v/\VV X h Av d v:=by
 exact af (aF.get i x e) λv h1 h2=>(aj v (by refine bq qqP ?_;exact h1) h2)
theorem m_ {vs:List AV}{d:AV}(r:cu X h Av vs ws)(e:bK k ks vs=some d): ∃v,valueAt (ks.zip ws) k=some v/\VV X h Av d v:=by
 induction ks generalizing vs ws with
 |nil=>exact xNS e|cons x xs ih=>
  induction vs using List.casesOn with
  |nil=>exact xNS e|cons y ys=>
   refine a8 r λv r' ak h1 h2=>?_;clear r;subst ak;refine Yz (e:(if x=k then some y else bK k xs ys)=some d) (λq e'=>?_) λq e'=>?_
   ·subst q;refine al e' λah=>?_;clear e';subst ah;exact(aj v (congrArg (Option.map Prod.snd) (List.find?_cons_of_pos (decide_eq_true rfl))) h1)
   ·exact af (ih h2 e') λu e1 e2=>(aj u ((congrArg (Option.map Prod.snd) (List.find?_cons_of_neg (λz=>q (of_decide_eq_true z)))).trans e1) e2)
theorem j9 (h:0<=i)(k:i.toNat<n):seqIndex? i n=some i.toNat:=by
 delta seqIndex?;simp only [Int.not_lt.mpr h,if_false];refine aa (if_pos (by simp;exact Vo h k)) ?_;rfl
theorem MC (h:0<=i): -(2^63)<=i:=by exact Vp h
theorem MD (h:i<2^62):i<2^63:=by exact OM h
theorem ni (e:Mr l y=some r): ∃i,y= .int i/\gS l i=some r:=by
 induction y using AV.casesOn with
 |int i=>exact(aj i rfl e)|_=>exact xNS e
theorem CD (B:ao X s.heap Av fr H)(hx:VV X s.heap Av x u)(hy:VV X s.heap Av y v):
  bw X A fr Av s H (qqW value slice u v) (lift (dK x y)):=by
 refine .lift λr e=>.of λQ E hQ=>?_
 induction x using AV.casesOn with
 |tup l=>
  refine af (ni e) λi ah e1=>?_;subst ah;refine aP hx λt vs ak n1 h1 z1 r1=>?_;clear hx;subst ak;refine ac hy λk ah=>?_;clear hy;subst ah;exact aU (hU e1) λi0 i1 e2=> af (aF.getA _ r1 e2) λv e3 e4=> dk h1.is.typeIs slot_tuple_getitem.lookup (getItem_tuple h1.is (MC i0) (MD i1) (j9 i0 (Array.getElem?_eq_some_iff.mp e3).1) e3 (hQ _ _ (.refl _ _) B.hand e4))
 |list l=>
  refine af (ni e) λi ah e1=>?_;subst ah;refine aP hx λt vs ak n1 h1 z1 r1=>?_;clear hx;subst ak;refine ac hy λk ah=>?_;clear hy;subst ah;exact aU (hU e1) λi0 i1 e2=> af (aF.getA _ r1 e2) λv e3 e4=> dk h1.isList.typeIs PySem.slot_list_getitem.lookup (wpAny_getItem_list h1.isList i0 (vq i1 (by decide)) e3 (hQ _ _ (.refl _ _) B.hand e4))
 |str st=>
  induction y using AV.casesOn with
  |int i=>
   refine ac hx λt ah=>?_;clear hx;subst ah;refine ac hy λk ah=>?_;clear hy;subst ah;by_cases q:i=0
   ·subst q;refine af (map_some (show(st.cps.toList[0]?).map (λc=>AV.str ⟨#[c]⟩)=some r from e)) λc e1 ak=>?_;subst ak;have hc:st.cps[0]? =some c:=by exact bq qqP e1
    exact dk (typeIs_str s st t) PyProof.Rows.slot_str_getitem.lookup (PyProof.Rows.getItem_str (c:=c) (by rfl) (by refine aa (show seqIndex? 0 st.length=some 0 from j9 (Int.le_refl 0) (Array.getElem?_eq_some_iff.mp hc).1) ?_;exact hc) (hQ _ _ .tok (au.tok B) ⟨_,rfl⟩))
   ·exact Internal.xNS ((if_neg q).symm.trans e)
  |_=>exact xNS e
 |dict ks vs=>
  induction y using AV.casesOn with
  |str k=>
   refine aP hx λa ws ak n1 hd dX r=>aU dX λz1 z2 z3=>?_;clear dX;subst ak;refine ac hy λk ah=>?_;clear hy;subst ah;exact af (m_ r e) λv e1 e2=> dk hd.typeIs PySem.slot_dict_getitem.lookup (wpAny_getItem_of cb hd.mapOf e1 (hQ _ _ .tok (au.tok B) e2))
  |_=>exact xNS e
 |_=>exact xNS e
theorem F8 (B:ao X s.heap Av fr H){a:qq7}(e:X.aH=some a){dv:AV}(h:H.lookup k=some dv): ∃kvs v,s.heap.DictOf (strKind X.P X.w) a kvs/\valueAt kvs k=some v/\VV X s.heap Av dv v:=by
 have x:=B.hand;unfold au at x;replace x:=e▸x;refine ai x λav aI=>c7 aI λws hd l r A6=>?_;have key: ∀(H:HS) (ws:List qq0),cu X s.heap Av (H.map (·.2)) ws->H.lookup k=some dv-> ∃v,valueAt ((H.map (·.1)).zip ws) k=some v/\VV X s.heap Av dv v:=by
  intro H
  induction H with
  |nil=>intro ws _ h;simp at h|cons p H ih=>
   intro ws r h;refine a8 r λv r' ak h1 h2=>?_;clear r;subst ak;rw [um] at h;delta valueAt;simp only [ut,uU,qxM];refine cB (k==p.1) (λq=>?_) λq=>?_
   ·rw [q] at h;refine al h λah=>?_;clear h;subst ah;have:=beq_iff_eq.mp q;exact(aj v (by simp [this]) h1)
   ·rw [q] at h;refine af (ih _ h2 h) λu e1 e2=>?_;have q': ¬p.1=k:=λz=>by replace q:=z▸q;simp at q
    refine(aj u ?_ e2);simp only [q',decide_false];exact e1
 exact af (key H ws r h) λv e1 e2=>(cq _ v hd e1 e2)
theorem zd (B:ao X s.heap Av fr H)(hx:VV X s.heap Av .hand u)(hy:VV X s.heap Av (.str k) v):
  bw X A fr Av s H (qqW value slice u v) (M.bind Dx λH=>lift (H.lookup k)):=by
 intro r H' e Q E hQ hE;refine af hx λa ha ak=>?_;clear hx;subst ak;refine ac hy λt ah=>?_;clear hy;subst ah;have e':lift (H.lookup k) H=some (r,H'):=e;refine cO (H.lookup k) (λq=>?_) λdv q=>?_
 ·replace e':=q▸e';exact xNS e'
 ·replace e':=q▸e';refine aN e' λah ak=>?_;clear e';subst ah;subst ak;exact a8 (F8 B ha q) λkvs v hd e1 e2=> dk hd.typeIs PySem.slot_dict_getitem.lookup (wpAny_getItem_of cb hd.mapOf e1 (hQ _ rfl _ _ .tok (au.tok B) e2))
def CE (h:qqK)(v:qq0)(c:EG):Prop:= ∃sl va vb vc,v= .ref sl/\h.IsSliceOf sl va vb vc/\match c with
 | .from a=>IsPart va (some (a:Int))/\IsPart vb none/\IsPart vc none/\1<=a| .upto b=>va= .none/\(∃t,vb= .int b t)/\vc= .none| .rev=>IsPart va none/\IsPart vb none/\IsPart vc (some (-1))
theorem ME (B:ao X s.heap Av fr H){i:Expr}(e:jy i=some c):At X A fr Av (λh (_:Unit) v=>CE h v c) s H (eval i env) (M.pure ()):=by
 refine .of λQ E hQ=>?_;rcases AZ e with⟨a,i,p,rfl,h1,q,rfl⟩|⟨a,i,p,rfl,h1,q,rfl⟩|⟨a,i,p,rfl,h1,rfl,rfl⟩
 ·refine aX (fR h1) λk pp ak=>?_;subst ak;refine wpAny_Slice ?_;rw [evalPart_some];refine wpAny_Constant_int (ud (ud (hQ _ _ .push (au.push B) ⟨_,_,_,_,rfl,qqK.IsSliceOf.new ..,?_,.none,.none,Int.pos_iff_toNat_pos.mp q.1⟩)));exact aa (vX (uP (by decide) q.1)) (.int _ _)
 ·refine aX (fR h1) λk pp ak=>?_;subst ak;refine wpAny_Slice (ud ?_);rw [evalPart_some];exact wpAny_Constant_int (ud (hQ _ _ .push (au.push B) ⟨_,_,_,_,rfl,qqK.IsSliceOf.new ..,rfl,⟨_,by refine aa (vX q.1) ?_;rfl⟩,rfl⟩))
 ·refine aY (yU h1) λb pp ak h2=>?_;subst ak;refine aX (fR h2) λk pq ak=>?_;subst ak;refine wpAny_Slice (ud (ud ?_));rw [evalPart_some];exact wpAny_UnaryOp (wpAny_Constant_int (PyProof.Rows.neg_int (hQ _ _ .push (au.push B) ⟨_,_,_,_,rfl,qqK.IsSliceOf.new ..,.none,.none,.int _ _⟩)))
theorem Bc (l:List AV)(c:EG):(gh l c).length<=l.length:=by
 cases c with
 |«from» a=>exact List.length_drop .. ▸Nat.sub_le _ _|upto b=>exact List.length_take_le' _ _|rev=>exact uC List.length_reverse
theorem eB (h:n<=1000):n<=sizeLine:=by exact aa sizeLine_eq (ub h (by exact uj _ _))
theorem toList_len {vs:Array qq0}(r:cu X h Av l vs.toList):vs.size=l.length:=by exact bq (aF.length r) (aa ux rfl)
theorem I0 (B:ao X s.heap Av fr H)(hx:VV X s.heap Av (.tup l) u)(hc:CE s.heap v c)(q:Cj c l.length=true){Q E}
  (hQ: ∀v s',Ex X (aO fr) s s'->au X s'.heap Av H->VV X s'.heap Av (.tup (gh l c)) v->Q v s'):qq3 (qq5 X.P X.w) A (qqW value slice u v) Q E s:=by
 refine jz hc ?_;clear hc;intro sl va vb vc be hs hc;subst be;refine aP hx λt vs ak n1 h1 z1 r1=>?_;clear hx;subst ak;have lv:=toList_len r1;have z2:=ub (Bc l c) z1;have fin: ∀(res:List qq0),cu X s.heap Av (gh l c) res->Q (.ref s.heap.objs.size) {s with heap:=s.heap.push {cls:= .type "tuple",data:= .seq res.toArray}}:=λres r2=>
  hQ _ _ .push (au.push B) ⟨_,_,rfl,B.size,⟨_,ue _ rfl⟩,z2,aF.chg du _ _ r2⟩
 have same: ∀{res:List qq0},cu X s.heap Av (gh l c) res->res=vs.toList->Q (.ref t) s:=λr2 e=>by
  replace r2:=e▸r2;exact hQ _ _ (.refl _ _) B.hand ⟨t,vs,rfl,n1,h1,z2,r2⟩
 have sz: ∀{res:List qq0},cu X s.heap Av (gh l c) res->res.length<=sizeLine:=λr2=>by exact aa (aF.length r2) (eB z2)
 refine dk h1.is.typeIs PyProof.Rows.slot_tuple_getitem.lookup ?_;cases c with
 |«from» a=>
  refine gD hc λpa pb pc a1=>?_;have q:=of_decide_eq_true q;cases pa with
  |int i tk=>
   cases pb;cases pc;exact getItem_tuple_from h1.is hs a1 (Vq lv q) (fin _ (aF.drop a r1)) (eB (My z1 lv))
 |upto b=>
  refine aU hc λaz ah ak=>ac ah λtk gm=>?_;clear ah;subst gm;subst az;subst ak;have r2:=aF.take b r1;refine kX h1.is hs .none (.int _ _) .none rfl (vs.toList.take b) ?_ ?_ (same r2) (fin _ r2) (sz r2)
  ·refine(?_:((List.range (qqB (qq4 none (some (b:Int)) 1 (vs.size:Int)).1 (qq4 none (some (b:Int)) 1 (vs.size:Int)).2 1)).filterMap λ(k:Nat)=>vs[((qq4 none (some (b:Int)) 1 (vs.size:Int)).1+(k:Int)*1).toNat]?)=_);rw [Fz,yY];exact D4 vs b
  ·refine(?_:((qq4 none (some (b:Int)) 1 (vs.size:Int)).1==0 && (1:Int)==1 && (qqB (qq4 none (some (b:Int)) 1 (vs.size:Int)).1 (qq4 none (some (b:Int)) 1 (vs.size:Int)).2 1)==vs.size)=true->_);rw [Fz,yY];intro h;have h:=beq_iff_eq.mp (uv .. |>.mp h).2;exact qx8 (by exact aa ux (Vr h))
 |rev=>
  refine aU hc λpa pb pc=>?_;have r2:=aF.reverse r1;refine kX h1.is hs pa pb pc (by rfl) vs.toList.reverse ?_ (λh=>?_) (same r2) (fin _ r2) (sz r2)
  ·refine(?_:((List.range (qqB (qq4 none none (-1) (vs.size:Int)).1 (qq4 none none (-1) (vs.size:Int)).2 (-1))).filterMap λ(k:Nat)=>vs[((qq4 none none (-1) (vs.size:Int)).1+(k:Int)*(-1)).toNat]?)=_);rw [RI,yZ];exact F3 vs
  ·exact absurd (uv .. |>.mp (uv .. |>.mp h).1).2 (by decide)
set_option tactic.hygienic true in
theorem I1 (B:ao X s.heap Av fr H){st:Str}(hx:VV X s.heap Av (.str st) u)(hc:CE s.heap v (.upto 1)){Q E}
  (hQ: ∀v s',Ex X (aO fr) s s'->au X s'.heap Av H->VV X s'.heap Av (.str ⟨(st.cps.toList.take 1).toArray⟩) v->Q v s'):qq3 (qq5 X.P X.w) A (qqW value slice u v) Q E s:=by
 refine ER hc λsl va vb vc be hs D5 mY Fx=>ac mY λtk gm=>?_;clear mY;subst gm;subst be;subst D5;subst Fx;refine ac hx λt ah=>?_;clear hx;subst ah;refine dk (typeIs_str s st t) PyProof.Rows.slot_str_getitem.lookup (wpAny_getItem_str_slice (l:=none) (u:=some (1,tk)) (st:=none) hs rfl ?_);have hp:slicePicked st none (some (1,tk)) none=List.range (min 1 st.cps.size):=by
  refine(?_:qxN none (some 1) 1 st.cps.size=_);delta qxN;simp only [show((1:Int)>0)=True from by simp,if_true,show ¬((1:Int)<0) from by exact Y0,if_false];refine aa (show max (0:Int) (min 1 (st.cps.size:Int))=((min 1 st.cps.size:Nat):Int) from by exact Vs) ?_;have:=sliceRange_one 0 (min 1 st.cps.size);simpa using this
 have RL:(List.range (min 1 st.cps.size)).filterMap (st.cps[·]?)=st.cps.toList.take 1:=by
  have:=pick_run st.cps 0 (min 1 st.cps.size);simp only [Nat.zero_add,List.drop_zero] at this;rw [List.map_id'] at this;refine aa this (bq ux ?_);simp [List.take_eq_take_iff]
 delta sliceMade;refine aa hp (aa RL ?_);have hl:(st.cps.toList.take 1).length<=1:=List.length_take_le _ _;split
 ·rename_i q
  refine hQ _ _ (.refl _ _) B.hand ⟨t,?_⟩;simp at q;have q':min 1 st.cps.size=st.cps.size:=q;have:st.cps.toList.take 1=st.cps.toList:=qx8 (by exact aa ux (Vt q'));refine aa this ?_;rfl
 ·refine⟨?_,hQ _ _ .tok (au.tok B) ⟨_,rfl⟩⟩;refine(?_:(List.toArray _).size<=sizeLine);exact aa ve (eB (ub hl (by exact uH _)))
theorem Bd (B:ao X s.heap Av fr H)(hx:VV X s.heap Av x u)(hc:CE s.heap v c):
  bw X A fr Av s H (qqW value slice u v) (lift (Ck x c)):=by
 refine .lift λr e=>.of λQ E hQ=>?_
 induction x using AV.casesOn with
 |tup l=>refine ai (cC e) λq ah=>?_;subst ah;exact I0 B hx hc q hQ
 |wlist l=>
  cases c with
  |upto b=>
   obtain rfl:=ug e;refine ER hc λsl va vb vc be hs D5 mY Fx=>ac mY λtk gm=>?_;clear mY;subst gm;subst be;subst D5;subst Fx;refine aP hx λt vs ak n1 h1 z1 r1=>?_;clear hx;subst ak;refine dk h1.typeIs PySem.slot_list_getitem.lookup (wpAny_getItem_list_slice h1 hs .none (.int _ _) .none (by decide) ?_ (eB (by exact aa (toList_len r1) z1)));exact hQ _ _ .push (au.push B) ⟨_,_,rfl,B.size,⟨_,ue _ rfl⟩,ub (List.length_take_le' ..) z1,aF.chg du _ _ (by rw [slicePick_upto'];exact aF.take b r1)⟩
  |_=>exact xNS e
 |str st=>
  cases c with
  |upto b=>refine ai (cC e) λaz ah=>?_;subst az;subst ah;exact I1 B hx hc hQ
  |_=>exact xNS e
 |_=>exact xNS e
theorem At.det {t:Sem γ}{k:γ->Sem β}{c:γ}(ht: ∀(Q:γ->qq1->Prop) E,Q c s->qq3 (qq5 X.P X.w) A t Q E s)(h:At X A fr Av R s H (k c) mm):At X A fr Av R s H (t>>=k) mm:=λr H' e Q E hQ hE=>
 ua (ht _ _ (h r H' e Q E hQ hE))
def Later (X:Cx)(fr:List Env)(Av:qq7->Prop)(s:qq1)(p:qq1->HS->Prop):Prop:= ∀s1 H1,Ex X (aO fr) s s1->ao X s1.heap Av fr H1->p s1 H1
theorem iF {v:AV}(h:A5 v=some b):v= .bool b:=by
 induction v using AV.casesOn with
 |bool c=>exact ug h▸rfl|_=>exact xNS h
theorem D6 (B:ao X s.heap Av fr H){v:AV}(h:VV X s.heap Av v u):g_ X A fr Av s H (truthy u) (lift (A5 v)):=by
 refine .lift λb e=>.of λQ E hQ=>?_;have q:=iF e;subst q;refine al e λah=>?_;clear e;cases ah;exact aa (show u=qq0.bool _ from h) (wpAny_truthy_bool (hQ _ _ (.refl _ _) B.hand rfl))
theorem db (B:ao X s.heap Av fr H){v:AV}(h:VV X s.heap Av v u)(e:A5 v=some b){Q:Bool->qq1->Prop}(hQ:Q b s):qq3 (qq5 X.P X.w) A (truthy u) Q E s:=by
 rw [iF e] at h;exact aa (show u=qq0.bool b from h) (wpAny_truthy_bool hQ)
theorem MF (B:ao X s.heap Av fr H){x:Expr}{mm:M AV}(h:bw X A fr Av s H (eval x env) mm):
  bw X A fr Av s H (eval (.UnaryOp .Not x pos) env) (M.bind mm λv=>match A5 v with|some b=>M.pure (.bool (!b))| .none=>stuck):=by
 refine(?_:At _ _ _ _ _ _ _ (eval x env>>=λv=>qqU pos>>=λ_=>holding [v] (unaryOp .Not v)) _);refine .bind B h λa v s1 H1 x1 B1 v1=>.stand (.holding ?_);refine cO (A5 a) (λe=>?_) λb e=>?_
 ·exact aa e .stuck
 ·exact aa e (.of λQ E hQ=>not_value (db B1 v1 e (hQ _ _ (.refl _ _) B1.hand rfl)))
theorem F9 (B:ao X s.heap Av fr H){x y:Expr}{op:Operator}(h:bw X A fr Av s H (eval x env) mx)(h2:Later X fr Av s λs1 H1=>bw X A fr Av s1 H1 (eval y env) my):
  bw X A fr Av s H (eval (.BinOp x op y pos) env) (M.bind mx λa=>M.bind my λb=>lift (binop op a b)):=by
 rw [eval_BinOp];refine .bind B h λa v s1 H1 x1 B1 v1=>.bind B1 (.holding (h2 s1 H1 x1 B1)) λb u s2 H2 x2 B2 v2=>.stand (hM (F6 B2 (VR.chg (B1.chg x2) _ _ v1) v2))
theorem nj {e:Expr}(h: ∀a b c,e≠ .Set a b c):behindInMarks op e=false:=by
 induction e using PySem.Expr.casesOn with
 |Set a b c=>exact absurd rfl (h _ _ _)|_=>rfl
theorem MG (O:E8 A fr n d)(B:ao X s.heap Av fr H){x y:Expr}(hy: ∀a b c,y≠ .Set a b c)(h:bw X A fr Av s H (eval x env) mx)(h2:Later X fr Av s λs1 H1=>bw X A fr Av s1 H1 (eval y env) my):
  bw X A fr Av s H (eval (.Compare x [op] [y] pos) env) (M.bind mx λa=>M.bind my λb=>lift ((mA op a b).map AV.bool)):=by
 rewrite [eval_Compare1];refine aa (markedBehindIn_of_false (nj hy)) (.bind B h λa v s1 H1 x1 B1 v1=>.bind B1 (.holding (h2 s1 H1 x1 B1)) λb u s2 H2 x2 B2 v2=>.stand (hM (zc O B2 (VR.chg (B1.chg x2) _ _ v1) v2)))
theorem MH (O:E8 A fr n d)(B:ao X s.heap Av fr H){x y:Expr}{w:Sem qq0}(hy: ∀a b c,y≠ .Set a b c)(h:bw X A fr Av s H (eval x env) mx)(h2:Later X fr Av s λs1 H1=>bw X A fr Av s1 H1 (eval y env) my):
  g_ X A fr Av s H (isTrue (.Compare x [op] [y] pos) env w) (M.bind mx λa=>M.bind my λb=>lift (mA op a b)):=by
 rewrite [isTrue_Compare1];refine aa (markedBehindIn_of_false (nj hy)) (.bind B h λa v s1 H1 x1 B1 v1=>.bind B1 (.holding (h2 s1 H1 x1 B1)) λb u s2 H2 x2 B2 v2=>.stand (.lift λc e=>?_));intro r H' q Q E hQ hE;refine aN q λah ak=>?_;clear q;subst ah;subst ak;refine ua (hM (zc O B2 (VR.chg (B1.chg x2) _ _ v1) v2) (Except.ok (AV.bool c)) H2 ?_ _ _ (λdd hd v s3 x3 y3 z3=>?_) (λp hp=>xO hp))
 ·refine(?_:lift ((mA op a b).map AV.bool) H2=_);refine aa e ?_;rfl
 ·refine jO hd λah=>?_;clear hd;subst ah;exact qq8 (db (B2.ex x3 y3) z3 rfl (hQ _ rfl _ _ x3 y3 rfl))
theorem MI (B:ao X s.heap Av fr H){x:Expr}{w:Sem qq0}{mm:M Bool}(h:g_ X A fr Av s H (isTrue x env (eval x env)) mm):
  g_ X A fr Av s H (isTrue (.UnaryOp .Not x pos) env w) (M.bind mm λb=>M.pure (!b)):=by
 refine(?_:At _ _ _ _ _ _ _ (isTrue x env (eval x env)>>=λb=>pure (!b)) _);refine .bind B h λa b s1 H1 x1 B1 e=>?_;subst e;exact .pure B1 rfl
theorem CF {op:BoolOp}{vs:List Expr}{w:Sem qq0}{mm:M Bool}(h:g_ X A fr Av s H (allTrue op vs env) mm):g_ X A fr Av s H (isTrue (.BoolOp op vs pos) env w) mm:=h
theorem ze (B:ao X s.heap Av fr H){e:Expr}{w:Sem qq0}{mm:M AV}(he:isTrue e env w=(w>>=λv=>qqU e.pos>>=λ_=>holding [v] (truthy v)))(h:bw X A fr Av s H w mm):
  g_ X A fr Av s H (isTrue e env w) (M.bind mm λv=>lift (A5 v)):=by
 exact aa he (.bind B h λa v s1 H1 x1 B1 v1=>.stand (.holding (D6 B1 v1)))
theorem Be (B:ao X s.heap Av fr H):g_ X A fr Av s H (allTrue .And [] env) (M.pure true):= .pure B rfl
theorem Bf (B:ao X s.heap Av fr H):g_ X A fr Av s H (allTrue .Or [] env) (M.pure false):= .pure B rfl
theorem zf (B:ao X s.heap Av fr H){x:Expr}{r:List Expr}{mx mr:M Bool}(h:g_ X A fr Av s H (isTrue x env (eval x env)) mx)(h2:Later X fr Av s λs1 H1=>g_ X A fr Av s1 H1 (allTrue .And r env) mr):
  g_ X A fr Av s H (allTrue .And (x::r) env) (M.bind mx λb=>if b then mr else M.pure false):=by
 refine(?_:At _ _ _ _ _ _ _ (isTrue x env (eval x env)>>=λc=>match BoolOp.And,c with| .And,false=>pure false| .Or,true=>pure true|_,_=>allTrue .And r env) _);refine .bind B h λa b s1 H1 x1 B1 e=>?_;subst e
 induction a using Bool.casesOn with
 |true=>exact h2 s1 H1 x1 B1|false=>exact .pure B1 rfl
theorem zg (B:ao X s.heap Av fr H){x:Expr}{r:List Expr}{mx mr:M Bool}(h:g_ X A fr Av s H (isTrue x env (eval x env)) mx)(h2:Later X fr Av s λs1 H1=>g_ X A fr Av s1 H1 (allTrue .Or r env) mr):
  g_ X A fr Av s H (allTrue .Or (x::r) env) (M.bind mx λb=>if b then M.pure true else mr):=by
 refine(?_:At _ _ _ _ _ _ _ (isTrue x env (eval x env)>>=λc=>match BoolOp.Or,c with| .And,false=>pure false| .Or,true=>pure true|_,_=>allTrue .Or r env) _);refine .bind B h λa b s1 H1 x1 B1 e=>?_;subst e
 induction a using Bool.casesOn with
 |true=>exact .pure B1 rfl|false=>exact h2 s1 H1 x1 B1
theorem zh (B:ao X s.heap Av fr H){x:Expr}{r:List Expr}{mx mr:M AV}(hr:r≠ [])(h:bw X A fr Av s H (eval x env) mx)(h2:Later X fr Av s λs1 H1=>bw X A fr Av s1 H1 (boolOp pos .And (evalEach r env)) mr):
  bw X A fr Av s H (boolOp pos .And (evalEach (x::r) env)) (M.bind mx λv=>match A5 v with|some true=>mr|some false=>M.pure (.bool false)| .none=>stuck):=by
 refine aX (by induction r using List.casesOn with|nil=>exact absurd rfl hr|cons y r=>exact(cK y r rfl): ∃y r',r=y::r') λy r ak=>?_;subst ak;refine(?_:At _ _ _ _ _ _ _ (eval x env>>=λv=>qqU pos>>=λ_=>holding [v] (truthy v)>>=λt=>match BoolOp.And,t with| .And,false| .Or,true=>pure v|_,_=>boolOp pos .And (evalEach (y::r) env)) _);refine .bind B h λa v s1 H1 x1 B1 v1=>.stand (cO (A5 a) (λe=>?_) λb e=>?_)
 ·exact aa e .stuck
 ·refine aa e ?_
  induction b using Bool.casesOn with
  |true=>exact .det (λQ E hq=>qq8 (db B1 v1 e hq)) (h2 s1 H1 x1 B1)|false=>exact .det (λQ E hq=>qq8 (db B1 v1 e hq)) (.pure B1 (iF e▸v1))
theorem Bg (B:ao X s.heap Av fr H){x:Expr}{r:List Expr}{mx mr:M AV}(hr:r≠ [])(h:bw X A fr Av s H (eval x env) mx)(h2:Later X fr Av s λs1 H1=>bw X A fr Av s1 H1 (boolOp pos .Or (evalEach r env)) mr):
  bw X A fr Av s H (boolOp pos .Or (evalEach (x::r) env)) (M.bind mx λv=>match A5 v with|some true=>M.pure (.bool true)|some false=>mr| .none=>stuck):=by
 refine aX (by induction r using List.casesOn with|nil=>exact absurd rfl hr|cons y r=>exact(cK y r rfl): ∃y r',r=y::r') λy r ak=>?_;subst ak;refine(?_:At _ _ _ _ _ _ _ (eval x env>>=λv=>qqU pos>>=λ_=>holding [v] (truthy v)>>=λt=>match BoolOp.Or,t with| .And,false| .Or,true=>pure v|_,_=>boolOp pos .Or (evalEach (y::r) env)) _);refine .bind B h λa v s1 H1 x1 B1 v1=>.stand (cO (A5 a) (λe=>?_) λb e=>?_)
 ·exact aa e .stuck
 ·refine aa e ?_
  induction b using Bool.casesOn with
  |true=>exact .det (λQ E hq=>qq8 (db B1 v1 e hq)) (.pure B1 (iF e▸v1))|false=>exact .det (λQ E hq=>qq8 (db B1 v1 e hq)) (h2 s1 H1 x1 B1)
theorem CG {op:BoolOp}{vs:List Expr}{mm:M AV}(h:bw X A fr Av s H (boolOp pos op (evalEach vs env)) mm):bw X A fr Av s H (eval (.BoolOp op vs pos) env) mm:=h
theorem FA (B:ao X s.heap Av fr H){t a b:Expr}{mt:M Bool}{ma mb:M AV}(h:g_ X A fr Av s H (isTrue t env (eval t env)) mt)
  (ha:Later X fr Av s λs1 H1=>bw X A fr Av s1 H1 (eval a env) ma) (hb:Later X fr Av s λs1 H1=>bw X A fr Av s1 H1 (eval b env) mb):
  bw X A fr Av s H (eval (.IfExp t a b pos) env) (M.bind mt λc=>if c then ma else mb):=by
 refine(?_:At _ _ _ _ _ _ _ (isTrue t env (eval t env)>>=λc=>if c=true then eval a env else eval b env) _);refine .bind B h λc c' s1 H1 x1 B1 e=>?_;subst e
 induction c using Bool.casesOn with
 |true=>exact ha s1 H1 x1 B1|false=>exact hb s1 H1 x1 B1
theorem kZ (B:ao X s.heap Av fr H){k:Nat}{pos:Pos}{ms:M (List AV)}(hl: ∀vs H',ms H=some (.ok vs,H')->vs.length<=1000)(h:Ic X A fr Av s H (qzP (backTo pos (qqO es env))) ms):
  bw X A fr Av s H (eval (.Tuple es k pos) env) (M.bind ms λvs=>M.pure (.tup vs)):=by
 refine(?_:At _ _ _ _ _ _ _ (qqU pos>>=λ_=>qzP (backTo pos (qqO es env))>>=λvs=>newTuple vs) _);refine .stand ?_;intro r H' e Q E hQ hE;have ZU: ∀vs H1,ms H=some (.ok vs,H1)->vs.length<=1000:=hl;refine b7 e ?_ ?_;intro p e1 ak;subst ak;rotate_left;intro a H1 e1 e2;rotate_right
 ·exact ua (h _ _ e1 _ _ (λd q=>xE q) λp' q e' s' x y z=>hE p' (by refine jE q λah=>?_;clear q;subst ah;rfl) e' s' x y z)
 ·refine ua (h _ _ e1 _ _ (λdd q v s1 x1 y1 z1=>?_) (λp q=>xO q));refine jO q λah=>?_;clear q;subst ah;have B1:=B.ex x1 y1;exact za B1 z1 (ZU _ _ e1) _ _ e2 _ _ (λd q v' s' x y z=>hQ d q v' s' (x1.trans x) y z) λp q e' s' x y z=>hE p q e' s' (x1.trans x) y (z.back B.hand.av B1 x1)
theorem I2 (B:ao X s.heap Av fr H){ms:M (List AV)}(hl: ∀vs H',ms H=some (.ok vs,H')->vs.length<=1000)(h:Ic X A fr Av s H (qzP (backTo pos (qqO es env))) ms):
  bw X A fr Av s H (eval (.List es pos) env) (M.bind ms λvs=>M.pure (.list vs)):=by
 refine(?_:At _ _ _ _ _ _ _ (qqU pos>>=λ_=>qzP (backTo pos (qqO es env))>>=λvs=>newList vs) _);refine .stand ?_;intro r H' e Q E hQ hE;refine b7 e ?_ ?_;intro p e1 ak;subst ak;rotate_left;intro a H1 e1 e2;rotate_right
 ·exact ua (h _ _ e1 _ _ (λd q=>xE q) λp' q e' s' x y z=>hE p' (by refine jE q λah=>?_;clear q;subst ah;rfl) e' s' x y z)
 ·refine ua (h _ _ e1 _ _ (λdd q v s1 x1 y1 z1=>?_) (λp q=>xO q));refine jO q λah=>?_;clear q;subst ah;have B1:=B.ex x1 y1;exact A_ B1 z1 (hl _ _ e1) _ _ e2 _ _ (λd q v' s' x y z=>hQ d q v' s' (x1.trans x) y z) λp q e' s' x y z=>hE p q e' s' (x1.trans x) y (z.back B.hand.av B1 x1)
theorem MJ (B:ao X s.heap Av fr H){o i:Expr}{mo mi:M AV}(hc:jy i=none)(h:bw X A fr Av s H (eval o env) mo)(h2:Later X fr Av s λs1 H1=>bw X A fr Av s1 H1 (eval i env) mi):
  bw X A fr Av s H (eval (.Subscript o i pos) env) (M.bind mo λov=>M.bind mi λiv=>match ov,iv with
    | .hand,.str k=>M.bind Dx λH=>lift (H.lookup k)
    |_,_=>lift (dK ov iv)):=by
 refine(?_:At _ _ _ _ _ _ _ (eval o env>>=λov=>holding [ov] (eval i env)>>=λiv=>qqU pos>>=λ_=>qqW o i ov iv) _);refine .bind B h λa v s1 H1 x1 B1 v1=>.bind B1 (.holding (h2 s1 H1 x1 B1)) λb u s2 H2 x2 B2 v2=>.stand ?_;have Wr:=VR.chg (B1.chg x2) _ _ v1
 induction a using AV.casesOn with
 |hand=>
  induction b using AV.casesOn with
  |str k=>exact zd B2 Wr v2|_=>exact CD B2 Wr v2
 |_=>exact CD B2 Wr v2
theorem MK (B:ao X s.heap Av fr H){o i:Expr}{mo:M AV}(hc:jy i=some c)(h:bw X A fr Av s H (eval o env) mo):
  bw X A fr Av s H (eval (.Subscript o i pos) env) (M.bind mo λov=>lift (Ck ov c)):=by
 refine(?_:At _ _ _ _ _ _ _ (eval o env>>=λov=>holding [ov] (eval i env)>>=λiv=>qqU pos>>=λ_=>qqW o i ov iv) _);refine .bind B h λa v s1 H1 x1 B1 v1=>?_;have key:At X A fr Av (λh d v=>VV X h Av d v) s1 H1 (holding [v] (eval i env)>>=λiv=>qqU pos>>=λ_=>qqW o i v iv) (M.bind (M.pure ()) λ_=>lift (Ck a c)):=
  .bind B1 (.holding (ME B1 hc)) λ_ u s2 H2 x2 B2 v2=>.stand (Bd B2 (VR.chg (B1.chg x2) _ _ v1) v2)
 exact key
def fU (X:Cx)(A:qqG)(f:qq0)(s:qq1):Prop:= ∀(Q:Keeper->qq1->Prop) E,(∀k,Q k s)->qq3 (qq5 X.P X.w) A (keeperOf f) Q E s
theorem bX {f:qq0}(h: ∀a,f≠ .ref a):fU X A f s:=λQ E q=>by
 delta keeperOf;cases f<;>first|exact absurd rfl (h _)|exact ud (q _)
theorem cf (h:es.all aZ=true):(backTo pos (qqO es env)).any (·.1)=false:=by
 induction es with
 |nil=>rfl|cons e r ih=>
  simp only [List.all_cons,uv] at h;refine ui (gN e r env) ?_ ?_;intro az;refine aX az λa p q=>?_;rotate_left;intro q;rotate_right
  ·replace h:=q▸h;exact di h.1
  ·refine aa q ?_;unfold backTo at ih⊢;simp only [ut,List.any_cons,Bool.false_or];exact ih h.2
theorem RM (B:ao X s.heap Av fr H)(hx:VV X s.heap Av x v)(e:Ox x=some r){Q E}(hQ: ∀v s',Ex X (aO fr) s s'->au X s'.heap Av H->VV X s'.heap Av r v->Q v s'):
  qq3 (qq5 X.P X.w) A (call (.builtin "len") [v]) Q E s:=by
 induction x using AV.casesOn with
 |tup l=>
  refine al e λah=>?_;clear e;subst ah;refine aP hx λa vs ak n t z rr=>?_;clear hx;subst ak;have lv:=aF.length rr;replace lv:=eS ux lv;exact PyProof.Rows.len_tuple t.is (Mz z lv) (aa lv (j7 B hQ))
 |list l=>
  refine al e λah=>?_;clear e;subst ah;refine aP hx λa vs ak n t z rr=>?_;clear hx;subst ak;have lv:=aF.length rr;replace lv:=eS ux lv;exact PyProof.Rows.len_list t.isList (Mz z lv) (aa lv (j7 B hQ))
 |_=>exact xNS e
theorem I3 (B:ao X s.heap Av fr H)(hx:VV X s.heap Av x v)(e:Oy x=some r){Q E}(hQ: ∀v s',Ex X (aO fr) s s'->au X s'.heap Av H->VV X s'.heap Av r v->Q v s'):
  qq3 (qq5 X.P X.w) A (call (.type "tuple") [v]) Q E s:=by
 induction x using AV.casesOn with
 |tup l=>
  refine al e λah=>?_;clear e;subst ah;refine aP hx λa vs ak n t z rr=>?_;clear hx;subst ak;exact call_tuple_same t.is (hQ _ _ (.refl _ _) B.hand ⟨a,vs,rfl,n,t,z,rr⟩)
 |list l=>
  refine al e λah=>?_;clear e;subst ah;refine aP hx λa vs ak n t z rr=>?_;clear hx;subst ak;have lv:=aF.length rr;replace lv:=eS ux lv;refine call_tuple_list t.isList (λh' hk=>?_) (by exact aa sizeLine_eq (yL z lv));have x1:Ex X (aO fr) s {s with heap:=h'}:= .of_keeps (tk:=s.toks) hk;have H1:au X h' Av H:=au.ex (s':={s with heap:=h'}) B hk;have B1:ao X h' Av fr H:=B.ex x1 H1;refine hQ _ _ (x1.trans .push) (au.push (s:={s with heap:=h'}) B1) ⟨_,vs,rfl,ao.size (s:={s with heap:=h'}) B1,⟨_,ue _ rfl⟩,z,?_⟩;exact aF.chg (λb o e n=>⟨uc _ (hk b o e),n⟩) _ _ rr
 |_=>exact xNS e
theorem ML (B:ao X s.heap Av fr H)(hx:VV X s.heap Av x v)(e:Ka x=some r){Q E}(hQ: ∀v s',Ex X (aO fr) s s'->au X s'.heap Av H->VV X s'.heap Av r v->Q v s'):
  qq3 (qq5 X.P X.w) A (call (.type "list") [v]) Q E s:=by
 induction x using AV.casesOn with
 |tup l=>
  refine al e λah=>?_;clear e;subst ah;refine aP hx λa vs ak n be z rr=>ac be λk ho=>?_;clear be;subst ak;have lv:=aF.length rr;replace lv:=eS ux lv;refine call_list_seq a (.inr rfl) ho rfl rfl (λh' c' hk hg=>?_) (by exact aa sizeLine_eq (yL z lv));have x1:Ex X (aO fr) s {s with heap:=h'}:= .of_keeps (tk:=s.toks) hk;refine hQ _ _ x1 (au.ex (s':={s with heap:=h'}) B hk) ⟨_,vs,rfl,B.size,⟨_,hg⟩,z,?_⟩;exact aF.chg (λb o e n=>⟨hk b o e,n⟩) _ _ rr
 |_=>exact xNS e
theorem I4 (B:ao X s.heap Av fr H)(hx:VV X s.heap Av x v)(e:AJ x=some r){Q E}(hQ: ∀v s',Ex X (aO fr) s s'->au X s'.heap Av H->VV X s'.heap Av r v->Q v s'):
  qq3 (qq5 X.P X.w) A (call (.builtin "isinstance") [v,.type "tuple"]) Q E s:=by
 induction x using AV.casesOn with
 |bool b=>refine al e λah=>?_;clear e;subst ah;exact aa (show v=qq0.bool b from hx) (IsiPair.bool_tuple (fT B hQ))
 |int i=>refine al e λah=>?_;clear e;subst ah;exact ac hx λt q=> aa q (IsiPair.int_tuple (fT B hQ))
 |str i=>refine al e λah=>?_;clear e;subst ah;exact ac hx λt q=> aa q (IsiPair.str_tuple (fT B hQ))
 |tup l=>refine al e λah=>?_;clear e;subst ah;exact aP hx λa vs q n be z rr=>ac be λk ho=> aa q (IsiPair.tuple_tuple ho rfl (hQ _ _ (.refl _ _) B.hand rfl))
 |list l=>refine al e λah=>?_;clear e;subst ah;exact aP hx λa vs q n be z rr=>ac be λk ho=> aa q (IsiPair.list_tuple ho rfl (fT B hQ))
 |_=>exact xNS e
theorem I5 (B:ao X s.heap Av fr H)(hx:VV X s.heap Av x v)(e:AK x=some r){Q E}(hQ: ∀v s',Ex X (aO fr) s s'->au X s'.heap Av H->VV X s'.heap Av r v->Q v s'):
  qq3 (qq5 X.P X.w) A (call (.builtin "isinstance") [v,.type "str"]) Q E s:=by
 induction x using AV.casesOn with
 |bool b=>refine al e λah=>?_;clear e;subst ah;exact aa (show v=qq0.bool b from hx) (IsiPair.bool_str (fT B hQ))
 |int i=>refine al e λah=>?_;clear e;subst ah;exact ac hx λt q=> aa q (IsiPair.int_str (fT B hQ))
 |str i=>refine al e λah=>?_;clear e;subst ah;exact ac hx λt q=> aa q (IsiPair.str_str (hQ _ _ (.refl _ _) B.hand rfl))
 |tup l=>refine al e λah=>?_;clear e;subst ah;exact aP hx λa vs q n be z rr=>ac be λk ho=> aa q (IsiPair.tuple_str ho rfl (fT B hQ))
 |list l=>refine al e λah=>?_;clear e;subst ah;exact aP hx λa vs q n be z rr=>ac be λk ho=> aa q (IsiPair.list_str ho rfl (fT B hQ))
 |_=>exact xNS e
theorem RN (B:ao X s.heap Av fr H)(hx:VV X s.heap Av x v)(e:O0 x=some r){Q E}(hQ: ∀v s',Ex X (aO fr) s s'->au X s'.heap Av H->VV X s'.heap Av r v->Q v s'):
  qq3 (qq5 X.P X.w) A (call (.type "int") [v]) Q E s:=by
 induction x using AV.casesOn with
 |int i=>refine al e λah=>?_;clear e;subst ah;exact ac hx λt q=> aa q (call_int_int (hQ _ _ (.refl _ _) B.hand ⟨t,rfl⟩))
 |_=>exact xNS e
theorem I6 (B:ao X s.heap Av fr H)(hx:VV X s.heap Av x v)(e:EJ x=some r){Q E}(hQ: ∀v s',Ex X (aO fr) s s'->au X s'.heap Av H->VV X s'.heap Av r v->Q v s'):
  qq3 (qq5 X.P X.w) A (call (.type "range") [v]) Q E s:=by
 induction x using AV.casesOn with
 |int i=>
  refine ai (NW e) λc e=> al e λah=>?_;clear e;subst ah;refine ac hx λt ah=>?_;clear hx;subst ah;refine call_range_1 (hQ _ _ .push (au.push B) ⟨_,s.toks,t,s.toks+1,rfl,B.size,?_⟩);exact aa (vX c.1) (IsRange.new s.heap 0 _ 1 s.toks t (s.toks+1))
 |_=>exact xNS e
theorem jB: ∀{l:List AV} {ns:List Int} {vs:List qq0} {h:qqK},cY l=some ns->cu X h Av l vs->ns.length=vs.length/\ ∀(i:Nat) v,vs[i]? =some v-> ∃t,v= .int (ns.getD i 0) t
 | [],ns,vs,h,e,r=>by
  refine aa (show vs= [] from r) (al e λah=>?_);clear e;subst ah;exact⟨rfl,λi v h=>xNS h⟩
 |d::l,ns,vs,h,e,r=>by
  refine a8 r λv r' ak h1 h2=>?_;clear r;subst ak
  induction d using AV.casesOn with
  |int k=>
   refine af (d5 e) λMM e0 ak=>?_;subst ak;refine ai (jB e0 h2) λe1 e2=> ac h1 λt ah=>?_;clear h1;subst ah;refine⟨congrArg Nat.succ e1,λi v hv=>?_⟩;cases i with
   |zero=>refine al hv λah=>?_;clear hv;subst ah;exact⟨t,rfl⟩
   |succ i=>exact e2 i v hv
  |_=>exact xNS e
theorem jC: ∀{ns:List Int} {a b:Int},fc a ns=some b-> ∀(val:Nat->Int) (k:Nat),(∀i,i<ns.length->val (k+i)=ns.getD i 0)->preSum val k=a->
  (∀j,k<=j->j<k+ns.length->InLong (val j)/\InLong (preSum val (j+1)))/\preSum val (k+ns.length)=b
 | [],a,b,e,val,k,hv,hk=>by
  refine al e λah=>?_;clear e;subst ah;exact⟨λj h1 h2=>by dsimp at h2;exact(Vu h1 h2).elim,by simpa using hk⟩
 |x::ns,a,b,e,val,k,hv,hk=>by
  ·refine ai (Dy e) λc e=>?_;have c1:=gq (tt c).1;have c2:=gq (tt c).2;have v0:val k=x:=by simpa using hv 0 (by exact uH _)
   have p1:preSum val (k+1)=a+x:=by refine(?_:preSum val k+val k=_);exact aa hk (aa v0 rfl)
   refine ai (jC e val (k+1) (λi hi=>by
    have:=hv (i+1) (by simp;exact Vv hi);refine aa (show k+1+i=k+(i+1) from by exact Vw) (aa this ?_);rfl) p1) ?_;intro g1 g2
   refine⟨λj h1 h2=>?_,?_⟩
   ·by_cases q:j=k
    ·subst q;refine aa v0 (aa p1 ?_);delta InLong;exact Vx c1 c2
    ·exact g1 j (Vy h1 q) (by dsimp at h2;exact Vz h2)
   ·refine bq g2 (aa uT ?_);rewrite [uK,uV];rfl
theorem RO (hh:A.handled=none)(B:ao X s.heap Av fr H)(hx:VV X s.heap Av x v)(e:Ms x=some r){Q E}(hQ: ∀v s',Ex X (aO fr) s s'->au X s'.heap Av H->VV X s'.heap Av r v->Q v s'):
  qq3 (qq5 X.P X.w) A (call (.builtin "sum") [v]) Q E s:=by
 induction x using AV.casesOn with
 |list l=>
  refine af (aG e) λns Uq e=> af (d5 e) λb e0 ak=>?_;subst ak;refine aP hx λa vs ak n hl z rr=>?_;clear hx;subst ak;refine ai (jB Uq rr) λe1 e2=> ai (jC e0 (λi=>ns.getD i 0) 0 (λi hi=>by simp) rfl) λg1 g2=>?_;have d3:a<s.heap.objs.size:=ac hl λ_ ho=>ul ho;refine call_sum_walk (qzV hl.isList (OJ s.heap.objs.size _ _ _ _ _ (λi=>ns.getD i 0) rfl (Walks.list (by assumption) _ a (uy d3) vs) ⟨(aV _ (ue _ rfl) rfl rfl),hl.isList.push _⟩ (λb hb=>?_) (λi v hv=>e2 i v (by refine aa qqP ?_;exact hv)) (λj hj=>g1 j (uG _) (by refine aa e1 ?_;simpa using hj)) (λh' tk t' hk=>?_)))
  ·simp at hb;refine(?_:b<(s.heap.push _).objs.size);rw [uR];refine ui hb ?_ ?_;(all_goals clear hb);intro az;subst az;rotate_left;intro az;subst az;rotate_right
   ·exact vz _
   ·exact vQ d3
  ·have:preSum (λi=>ns.getD i 0) vs.size=b:=by
    refine bq g2 (aa e1 ?_);simp
   refine aa this ?_;have jY: ∀b o,s.heap.get? b=some o->h'.get? b=some o:=λb o e=>hk b o (by simp;exact uy (ul e)) (uc _ e);exact hQ _ _ (.of_keeps jY) (au.ex (s':={s with heap:=h',toks:=tk}) B jY) ⟨_,rfl⟩
 |_=>exact xNS e
theorem ao.not1 (O:CxOk X)(B:ao X s.heap Av fr H):(s.heap.objs.size==sysModules)=false:=by
 refine aY O.big λa o h1 ho=>?_;have:=ul (B.base a o ho);refine Iff.mpr beq_eq_false_iff_ne ?_;intro q;replace this:=q▸this;exact absurd (vj h1 this) (vg 1)
theorem I7 (O:CxOk X)(B:ao X s.heap Av fr H){vs:List AV}(hx:VV X s.heap Av (.dict ks vs) v){Q E}(hQ: ∀v s',Ex X (aO fr) s s'->au X s'.heap Av H->VV X s'.heap Av (.dict ks vs) v->Q v s'):
  qq3 (qq5 X.P X.w) A (call (.type "dict") [v]) Q E s:=by
 refine aP hx λa ws ak n hd dX r=>aU dX λz1 z2 z3=>?_;clear dX;subst ak;refine kt_call_dict z2 hd (by refine aa sizeLine_eq ?_;simp;exact V0 z3) λh' fF hs=>?_;have jY: ∀b o,s.heap.get? b=some o->h'.get? b=some o:=λb o e=>by
  exact aa (hs.2 b (uy (ul e))) (uc _ e)
 refine hQ _ _ (.of_keeps (tk:=s.toks) jY) (au.ex (s':={s with heap:=h'}) B jY) ⟨_,ws,rfl,B.size,fF,(aQ z1 (B.not1 O) z3),aF.chg (λb o e n=>⟨jY b o e,n⟩) _ _ r⟩
theorem I8 (B:ao X s.heap Av fr H){vs:List AV}(hx:VV X s.heap Av (.dict ks vs) v){Q E}(hQ: ∀v s',Ex X (aO fr) s s'->au X s'.heap Av H->VV X s'.heap Av (.items ks vs) v->Q v s'):
  qq3 (qq5 X.P X.w) A (call (.builtin "dict.items") [v]) Q E s:=by
 refine aP hx λa ws ak n hd dX r=>aU dX λz1 z2 z3=>?_;clear dX;subst ak;refine call_meetsIn PySem.F.slot_dict_items hd.typeIs PySem.F.entry_dict_items (PySem.F.args_dict_items_1 _) (meets_dict_items (strKind X.P X.w) a z2) ⟨⟨_,hd⟩,?_⟩;exact hQ _ _ .push (au.push B) ⟨_,a,ws,rfl,B.size,(aV _ (ue _ rfl) rfl rfl),n,hd.push _,(aQ z1 z2 z3),aF.chg du _ _ r⟩
theorem RP (B:ao X s.heap Av fr H){vs:List AV}{v kv:qq0}(hx:VV X s.heap Av (.dict ks vs) v)(hy:VV X s.heap Av (.str k) kv){Q E}(hQ: ∀v s',Ex X (aO fr) s s'->au X s'.heap Av H->VV X s'.heap Av ((bK k ks vs).getD .none) v->Q v s'):
  qq3 (qq5 X.P X.w) A (call (.builtin "dict.get") [v,kv]) Q E s:=by
 refine aP hx λa ws ak n hd dX r=>?_;clear hx;refine aU dX λz1 z2 z3=>?_;clear dX;subst ak;refine ac hy λt ah=>?_;clear hy;subst ah;refine call_meetsIn PySem.F.slot_dict_get hd.typeIs PySem.F.entry_dict_get (PySem.F.args_dict_get_2 _ _) (meets_dict_get (strKind X.P X.w) a cb z2) (aj _ hd.mapOf ?_);refine(?_:wants Q E (.ok (.ret ((valueAt (ks.zip ws) k).getD .none))) _);refine hQ _ _ .tok (au.tok B) ?_;cases q:bK k ks vs with
 |some d=>
  refine af (m_ r q) λu e1 e2=>?_;refine aa e1 ?_;exact e2
 |none=>
  have:valueAt (ks.zip ws) k=none:=by
   cases h:valueAt (ks.zip ws) k with
   |none=>rfl|some u=>
    exfalso;have hl:=aF.length r;clear r hd hQ
    induction ks generalizing vs ws with
    |nil=>simp [valueAt] at h|cons y ys ih=>
     induction ws using List.casesOn with
     |nil=>simp at z1|cons w1 ws=>
      induction vs using List.casesOn with
      |nil=>simp at hl|cons v1 vs=>
       refine Yz (q:(if y=k then some v1 else bK k ys vs)=none) (λ_ q=>oz q) λne q=>?_;exact ih (vs:=vs) (ws:=ws) (Nat.succ.inj z1) (uO z3) q ((congrArg (Option.map Prod.snd) (List.find?_cons_of_neg (λz=>ne (of_decide_eq_true z)))).symm.trans h) (Nat.succ.inj hl)
  refine aa this ?_;rfl
theorem zi:typeLookup (.type "list") "keys"=pure none:=by rewrite [qzQ];refine aa qqY ?_;kernel_rfl
theorem oI:typeLookup (.type "tuple") "keys"=pure none:=by rewrite [qzQ];refine aa qqY ?_;kernel_rfl
theorem D7 {a:qq7}{xs:Array qq0}{Q:Option qq0->qq1->Prop}(hx:s.heap.PlainList a xs)(hA:A.handled=none)
  (h: ∀h' tk,(∀b o,s.heap.get? b=some o->h'.get? b=some o)->Q none {s with heap:=h',toks:=tk}):qq3 (qq5 prog w) A (getAttr? (.ref a) "keys") Q E s:=by
 refine ac hx ?_;clear hx;intro k hx;obtain⟨hp,g,d,tk,os⟩:=s;have hT: ∀D8,(⟨hp,g,d,D8,os⟩:qq1).TypeIs (.ref a) "list":=λ_=>(aj _ hx rfl);have f1:=sub_AttributeError;have f3:=PySem.F.slot_list_getattribute.lookup;have f4:=PySem.F.slot_list_getattribute.bind (.ref a);have f5:=am_list_getattr_none;unfold getAttr? getAttrBy? getAttrBy
 repeat (any_goals (first|assumption|exact hT _|((with_reducible refine(?_:qq3 _ _ (call (qq0.builtin "list.__getattribute__") _ _) _ _ _));refine call_meets PySem.F.slot_list_getattribute (hT _) am_entry_list_getattribute (PySem.F.args_list_getattribute_2 _ _) (meets_getattribute_miss_list a xs k #[] "keys" _ zi (by decide+kernel) (by size_fits)) ⟨hx,hA,λh' D8 e iz=>?_⟩)|wp_step))
 refine aX iz.there λt' u' he=>(?_:qq3 _ _ (getattributeRaised _ _ _ _ _ _ _) _ _ _);delta getattributeRaised
 repeat (any_goals (first|assumption|wp_step))
 exact h _ _ iz.of.keeps
theorem Bh {a:qq7}{xs:Array qq0}{Q:Option qq0->qq1->Prop}(hx:gZ s.heap a xs)(hA:A.handled=none)
  (h: ∀h' tk,(∀b o,s.heap.get? b=some o->h'.get? b=some o)->Q none {s with heap:=h',toks:=tk}):qq3 (qq5 prog w) A (getAttr? (.ref a) "keys") Q E s:=by
 refine ac hx ?_;clear hx;intro k hx;obtain⟨hp,g,d,tk,os⟩:=s;have hT: ∀D8,(⟨hp,g,d,D8,os⟩:qq1).TypeIs (.ref a) "tuple":=λ_=>(aj _ hx rfl);have f1:=sub_AttributeError;have f3:=PySem.F.slot_tuple_getattribute.lookup;have f4:=PySem.F.slot_tuple_getattribute.bind (.ref a);have f5:=am_tuple_getattr_none;unfold getAttr? getAttrBy? getAttrBy
 repeat (any_goals (first|assumption|exact hT _|((with_reducible refine(?_:qq3 _ _ (call (qq0.builtin "tuple.__getattribute__") _ _) _ _ _));refine call_meets PySem.F.slot_tuple_getattribute (hT _) am_entry_tuple_getattribute (PySem.F.args_tuple_getattribute_2 _ _) (meets_getattribute_miss_tuple a xs k #[] "keys" _ oI (by decide+kernel) (by size_fits)) ⟨hx,hA,λh' D8 e iz=>?_⟩)|wp_step))
 refine aX iz.there λt' u' he=>(?_:qq3 _ _ (getattributeRaised _ _ _ _ _ _ _) _ _ _);delta getattributeRaised
 repeat (any_goals (first|assumption|wp_step))
 exact h _ _ iz.of.keeps
end
namespace F
theorem entry_dict_update_loop:entryFor table "dict.update.loop"=some Builtin.«dict.update.loop»:=entryFor_of_tree (by kernel_rfl)
theorem plain_dict_update_loop:plainId "dict.update.loop"=true:=by decide+kernel
end F
section
variable {prog:qzJ}{w:World}{A:qqG}{E:qq0->qq1->Prop}{s:qq1}{R:Result->qq1->Prop}{I:qq7}{fp wr:List qq7}{n:Nat}{P:Nat->qq0->Prop}{St:Nat->qqK->Prop}{l:List Str}{h:qqK}{t:SetTable}
theorem k_ {α:Type}{l:List α}(h:l.Nodup)(i:Nat):(l.take i).Nodup:=h.sublist (List.take_sublist i l)
theorem fJ (W:Walks prog w A.in1 I fp wr n P St){D:qq7}(RQ:D∉fp){kvs:List (Str×qq0)}(hn:kvs.length=n)(hd:(kvs.map (·.1)).Nodup)(hz:n<=1000){h0:qqK}
  (hP: ∀i v,P i v-> ∃a k t u,v= .ref a/\a∉wr/\a≠D/\gZ h0 a #[.str k t,u]/\kvs[i]? =some (k,u)):
  ∀(k i:Nat) (j:Tok) (s:qq1),n-i=k->i<=n->St i s.heap->(∀b o,b∉wr->b≠D->h0.get? b=some o->s.heap.get? b=some o)->s.heap.DictOf (strKind prog w) D (kvs.take i)->
   (∀h' tk,(∀b o,b∉wr->b≠D->s.heap.get? b=some o->h'.get? b=some o)->h'.DictOf (strKind prog w) D kvs->R (.ok (.ret .none)) {s with heap:=h',toks:=tk})->
   qzZ (qq5 prog w) A (.builtin "dict.update.loop" ⟨[.ref D,.ref I,.int i j,.none],[]⟩) R s:=by
 intro k;have RR:D∉wr:=λh=>RQ (W.sub _ h)
 induction k with
 |zero=>
  intro i j s hk hi I9 FC hS hR;have CH:i=n:=by exact ON hk hi
  subst CH;refine qqZ F.entry_dict_update_loop (aa (qqS F.plain_dict_update_loop _) (?_:qq3 _ A.in1 (pyNext (.ref I)>>=_) _ _ s));refine ua (W.done s _ _ I9 λh' tk hm=>?_);refine(?_:qq3 _ A.in1 (Builtin.Dict.addKeywords D []>>=λ_=>ret qq0.none) _ _ _);refine bp (ud (hR h' tk (λb o hb _ e=>hm b o hb e) ?_));rw [qx8 (Io hn)] at hS;exact aB hS λo es ep ho rest=>(ct o es ep (hm D o RR ho) rest)
 |succ k ih=>
  intro i j s hk hi I9 FC hS hR;have d3:i<n:=by exact OO hk
  refine qqZ F.entry_dict_update_loop (aa (qqS F.plain_dict_update_loop _) (?_:qq3 _ A.in1 (pyNext (.ref I)>>=_) _ _ s));refine ua (W.item i s _ _ d3 I9 λv h1 LC Ws MO LD=>?_);refine ER (hP i v Ws) λa kk t u be Y5 ZV mY MP=>ac mY λna ha=>?_;clear mY;subst be;have Ur:h1.get? a=some _:=LD a _ Y5 (FC a _ Y5 ZV ha);have RS:h1.DictOf (strKind prog w) D (kvs.take i):=by
   exact aB hS λo es ep ho rest=>(ct o es ep (LD D o RR ho) rest)
  refine(?_:qq3 _ A.in1 (holding [qq0.ref a] _>>=_) _ _ _);refine ua (qq8 ?_);refine ua (wpAny_tryCatch ?_);delta Builtin.Dict.pairItems;refine ua (wpAny_typeOf (T:= "tuple") (aj _ Ur rfl) ?_);refine aa (if_pos (by rfl)) (ua (qzC Ur rfl (ud ?_)));refine(?_:qq3 _ _ (holding [qq0.str kk t,u] (dictSet D (.str kk t) u)) _ _ _);refine qq8 (wpAny_dictSet_pairs (knd:=strKind prog w) (hsz:=by refine aa sizeLine_eq (aa List.length_take ?_);exact V1 hz d3) cb RS λh2 NX oJ=>?_);have e2:stored (kvs.take i) kk u=kvs.take (i+1):=by
   refine bq (merged_nil_of_nodup (kvs.take i) (by exact aa List.map_take (k_ hd i))) ?_;refine bq (merged_take_succ [] kvs i (kk,u) MP) (aa (merged_nil_of_nodup _ (by exact aa List.map_take (k_ hd _))) ?_);rfl
  replace NX:=e2▸NX;have k2: ∀b o,b∉wr->b≠D->s.heap.get? b=some o->h2.get? b=some o:=λb o hb E9 e=>by
   exact aa (oJ.2 b E9) (LD b o hb e)
  refine ud ⟨qzK F.plain_dict_update_loop _,ih (i+1) 0 _ (OP hk) d3 (W.frame _ h1 h2 MO λb hb o e=>?_) (λb o hb E9 e=>k2 b o hb E9 (FC b o hb E9 e)) NX λh' tk jY Bi=>?_⟩
  ·exact aa (oJ.2 b (λq=>RQ (q▸hb))) e
  ·exact hR h' tk (λb o hb E9 e=>jY b o hb E9 (k2 b o hb E9 e)) Bi
theorem jZ {gr:qq7}{items:Array qq0}(T:String)(hT:T= "list"\/T= "tuple")(D9:(T= "list"->s.heap.PlainList gr items)/\(T= "tuple"->gZ s.heap gr items))
  {kvs:List (Str×qq0)} {Q:qq0->qq1->Prop} (hh:A.handled=none) (hn:kvs.length=items.size) (hd:(kvs.map (·.1)).Nodup) (hz:kvs.length<=1000)
  (hP: ∀(i:Nat) v,items[i]? =some v-> ∃a k t u,v= .ref a/\gZ s.heap a #[.str k t,u]/\kvs[i]? =some (k,u))
  (h: ∀h' tk,h'.DictOf (strKind prog w) s.heap.objs.size kvs->(∀b o,s.heap.get? b=some o->h'.get? b=some o)->Q (.ref s.heap.objs.size) {s with heap:=h',toks:=tk}):
  qq3 (qq5 prog w) A (call (.type "dict") [.ref gr]) Q E s:=by
 refine callType_codes (Q₁:=λobj s₁=>obj= .ref s.heap.objs.size/\s₁={s with heap:=s.heap.push {cls:= .type "dict",data:= .dict #[]}}) PySem.F.kt_called_dict (PySem.F.kt_typeCall_dict_1 _) PySem.F.entry_dict_init (kt_code_dict_new _ ⟨rfl,rfl⟩) ?_;rintro obj s₁ ⟨rfl,rfl⟩;have oK:(s.heap.push {cls:= .type "dict",data:= .dict #[]}).DictOf (strKind prog w) s.heap.objs.size []:=qqK.DictOf.new s.heap;have pk: ∀b o,s.heap.get? b=some o->(s.heap.push {cls:= .type "dict",data:= .dict #[]}).get? b=some o:=λb o e=>uc _ e;refine(aQ oK.typeIs (PySem.F.args_dict_init_2 _ _) ?_);delta Builtin.«dict.__init__»;refine ua ?_;delta Builtin.Dict.selfAndRest;refine ua (wpAny_notOrdered_dict oK.typeIs ?_);refine(?_:qq3 _ _ (pure (s.heap.objs.size,[qq0.ref gr])) _ _ _);refine ud (?_:qq3 _ _ (Builtin.Dict.updateFrom "dict.__init__" s.heap.objs.size (.ref gr) [] .none) _ _ _);delta Builtin.Dict.updateFrom;have d3:gr<s.heap.objs.size:=by
  refine ui hT ?_ ?_;(all_goals clear hT);intro az;subst az;rotate_left;intro az;subst az;rotate_right
  ·exact ac (D9.1 rfl) λaz e=> ul e
  ·exact ac (D9.2 rfl) λaz e=> ul e
 have ZW:qq1.TypeIs {s with heap:=s.heap.push {cls:= .type "dict",data:= .dict #[]}} (.ref gr) T:=by
  refine ui hT ?_ ?_;(all_goals clear hT);intro az;subst az;rotate_left;intro az;subst az;rotate_right
  ·exact ac (D9.1 rfl) λaz e=>(aj _ (pk _ _ e) rfl)
  ·exact ac (D9.2 rfl) λaz e=>(aj _ (pk _ _ e) rfl)
 refine ua (wpAny_typeOf ZW ?_);refine aa (if_pos (by(refine ui hT ?_ ?_;(all_goals clear hT);intro az;subst az;rotate_left;intro az;subst az;rotate_right)<;>rfl)) ?_;have fin: ∀(h1:qqK) (LC:Nat),(∀b o,(s.heap.push {cls:= .type "dict",data:= .dict #[]}).get? b=some o->h1.get? b=some o)->
   ∀{AA:qqG} {P:Nat->qq0->Prop} {St:Nat->qqK->Prop} {I:qq7} {j:Tok},Walks prog w AA.in1 I [I,gr] [I] items.size P St->s.heap.objs.size<I->St 0 h1->(∀i v,P i v->items[i]? =some v)->
   qzZ (qq5 prog w) AA (.builtin "dict.update.loop" ⟨[.ref s.heap.objs.size,.ref I,.int 0 j,.none],[]⟩) (λr s'=>r= .ok (.ret .none)/\ ∃h' tk,s'={s with heap:=h',toks:=tk}/\h'.DictOf (strKind prog w) s.heap.objs.size kvs/\ ∀b o,s.heap.get? b=some o->h'.get? b=some o) {s with heap:=h1,toks:=LC}:=by
  intro h1 LC hk AA P St I j W hI I9 ZX;refine fJ W (by simp;exact⟨uy hI,vA d3⟩) hn hd (by exact bq hn hz) (h0:=s.heap) (λi v hv=>?_) (items.size-0) 0 j {s with heap:=h1,toks:=LC} rfl (uG _) I9 (λb o _ _ e=>hk b o (pk b o e)) ?_ (λh' tk jY Bi=>?_)
  ·refine jz (hP i v (ZX i v hv)) λa k t u be ha MP=>?_;subst be;have:a<s.heap.objs.size:=ac ha λ_ e=>ul e;exact(OG a k t u rfl (by simp;exact uy (vj this hI)) (uy this) ha MP)
  ·exact aa List.take_zero (aB oK λo es ep ho rest=>(ct o es ep (hk _ _ ho) rest))
  ·refine⟨rfl,h',tk,rfl,Bi,λb o e=>jY b o ?_ ?_ (hk b o (pk b o e))⟩
   ·simp;exact uy (vj (ul e) hI)
   ·exact uy (ul e)
 refine ui hT ?_ ?_;(all_goals clear hT);intro az;subst az;rotate_left;intro az;subst az;rotate_right
 ·have hl:=D9.1 rfl;refine ua (D7 (xs:=items) (by refine ac hl λn e=>?_;exact⟨n,pk _ _ e⟩) (by assumption) λh1 LC MQ=>?_);refine aa (if_pos (show(none:Option qq0).isNone=true from rfl)) (ua (qzU ?_));have EA:h1.IsList gr items:=by refine ac hl λn e=>?_;exact⟨_,MQ _ _ (pk _ _ e),rfl,n,rfl⟩
  refine ua (qzV EA ?_);have MR:gr<h1.objs.size:=af EA λ_ e _=>ul e;have MS:s.heap.objs.size<h1.objs.size:=ul (MQ _ _ (ue _ rfl));refine ud ⟨qzK F.plain_dict_update_loop _,codeAny_mono (fin (h1.push _) _ (λb o e=>uc _ (MQ b o e)) (Walks.list (by assumption) _ gr (uy MR) items) MS ⟨(aV _ (ue _ rfl) rfl rfl),EA.push _⟩ (λ_ _ e=>e)) λr s' hr=>?_⟩;refine ai hr λaz aI=>a8 aI λh' tk jX g1 g2=>?_;clear aI;subst jX;subst az;exact⟨rfl,h h' tk g1 g2⟩
 ·have hl:=D9.2 rfl;refine ua (Bh (xs:=items) (by refine ac hl λn e=>?_;exact⟨n,pk _ _ e⟩) (by assumption) λh1 LC MQ=>?_);refine aa (if_pos (show(none:Option qq0).isNone=true from rfl)) (ua (qzU ?_));have EA:h1.IsTuple gr items:=by refine ac hl λn e=>?_;exact⟨_,MQ _ _ (pk _ _ e),rfl,n,rfl⟩
  refine ua (wpAny_pyIter_tuple EA ?_);have MR:gr<h1.objs.size:=af EA λ_ e _=>ul e;have MS:s.heap.objs.size<h1.objs.size:=ul (MQ _ _ (ue _ rfl));refine ud ⟨qzK F.plain_dict_update_loop _,codeAny_mono (fin (h1.push _) _ (λb o e=>uc _ (MQ b o e)) (Walks.tuple (by assumption) _ gr (uy MR) items) MS ⟨(aV _ (ue _ rfl) rfl rfl),EA.push _⟩ (λ_ _ e=>e)) λr s' hr=>?_⟩;refine ai hr λaz aI=>a8 aI λh' tk jX g1 g2=>?_;clear aI;subst jX;subst az;exact⟨rfl,h h' tk g1 g2⟩
variable {X:Cx}{fr:List Env}{Av:qq7->Prop}{s':qq1}{H H':HS}{env:Env}{oa:Str->qq7}{ae:Loc}{m cm:Str->Option qq0}{d:Nat}
theorem zj {d:AV}{p:Str×AV}(h:EI d=some p):d= .tup [.str p.1,p.2]:=by
 induction d using AV.casesOn with
 |tup l=>
  induction l using List.casesOn with
  |nil=>exact xNS h|cons a l=>
   induction l using List.casesOn with
   |nil=>induction a using AV.casesOn with|str _=>exact xNS h|_=>exact xNS h
   |cons v l=>
    induction l using List.casesOn with
    |nil=>
     induction a using AV.casesOn with
     |str k=>obtain rfl:=ug h;rfl|_=>exact xNS h
    |cons _ _=>induction a using AV.casesOn with|str _=>exact xNS h|_=>exact xNS h
 |_=>exact xNS h
theorem oM {d:AV}{r:List AV}{q:List Str×List AV}(h:pairsOf (d::r)=some q): ∃k v ks vs,d= .tup [.str k,v]/\pairsOf r=some (ks,vs)/\k∉ks/\q=(k::ks,v::vs):=by
 refine af (qqQ.mp h) λp h1 h2=> af (qqQ.mp h2) λq' h3 h4=>?_;unfold Ow at h4;by_cases c:q'.1.contains p.1=true
 ·replace h4:=eS (if_pos c) h4;exact xNS h4
 ·replace h4:=eS (if_neg c) h4;exact(eN p.1 p.2 q'.1 q'.2 (zj h1) h3 (λm=>c (List.contains_iff_mem.mpr m)) (ug h4).symm)
theorem MT {α:Type}{a:Array α}{l:List α}(h:a.toList=l):a=l.toArray:=by exact bq h rfl
theorem iG: ∀{l:List AV} {ks:List Str} {vs:List AV} {us:List qq0},pairsOf l=some (ks,vs)->cu X h Av l us->
  ∃ws,cu X h Av vs ws/\ks.length=ws.length/\ks.Nodup/\ks.length=l.length/\ ∀(i:Nat) v,us[i]? =some v-> ∃a k t u,v= .ref a/\gZ h a #[.str k t,u]/\(ks.zip ws)[i]? =some (k,u)
 | [],ks,vs,us,e,r=>by
  refine aN e λah ak=>?_;clear e;subst ah;subst ak;exact aa (show us= [] from r) (j1 ([]) rfl rfl qxW rfl (λi v hv=>xNS hv))
 |d::l,ks,vs,us,e,r=>by
  refine mI (oM e) λk v ks' vs' be e' nc q=>?_;subst be;refine ai (Prod.mk.inj q) λaz ah=>?_;subst az;subst ah;refine a8 r λv us' ak h1 h2=>?_;clear r;subst ak;refine ef (iG e' h2) λws g1 g2 g3 g4 g5=> aP h1 λa arr ak na pt z aI=>a8 aI λx1 r1 e1 FD MU=> ac FD λt Us=>?_;clear FD;subst Us;refine a8 MU λx2 r2 ZY hv Z_=>?_;clear MU;subst ZY;subst Z_;subst ak;replace pt:=(MT e1)▸pt;refine(j1 (x2::ws) (.cons hv g1) (congrArg Nat.succ g2) (vC.mpr ⟨nc,g3⟩) (congrArg Nat.succ g4) (λi v hv=>?_));cases i with
  |zero=>obtain rfl:=ug hv;exact(EU a k t x2 rfl pt rfl)|succ i=>exact g5 i v hv
theorem MV (O:CxOk X)(hh:A.handled=none)(B:ao X s.heap Av fr H){x:AV}{v:qq0}{r:AV}(hx:VV X s.heap Av x v)(e:Kb x=some r){Q E}(hQ: ∀v s',Ex X (aO fr) s s'->au X s'.heap Av H->VV X s'.heap Av r v->Q v s'):
  qq3 (qq5 X.P X.w) A (call (.type "dict") [v]) Q E s:=by
 have fin: ∀(T:String) (gr:qq7) (items:Array qq0) (l:List AV) (ks:List Str) (vs:List AV),(T= "list"\/T= "tuple")->((T= "list"->s.heap.PlainList gr items)/\(T= "tuple"->gZ s.heap gr items))->
   l.length<=1000->cu X s.heap Av l items.toList->pairsOf l=some (ks,vs)->r= .dict ks vs->qq3 (qq5 X.P X.w) A (call (.type "dict") [.ref gr]) Q E s:=by
  intro T gr items l ks vs hT hs hz hr hp e;subst e;refine ef (iG hp hr) λws g1 g2 g3 g4 g5=>?_;have lv:=aF.length hr;have zl:(ks.zip ws).length=ks.length:=by simp [g2]
  refine jZ T hT hs (kvs:=ks.zip ws) hh (by refine aa zl (aa g4 ?_);refine bq lv ?_;rfl) ?_ (V2 hz g4 zl) (λi v hv=>g5 i v (by refine aa qqP ?_;exact hv)) λh' tk hd hk=>?_
  ·exact aa (vo (Io g2)) g3
  ·exact hQ _ _ (.of_keeps hk) (au.ex (s':={s with heap:=h',toks:=tk}) B hk) ⟨_,ws,rfl,B.size,hd,(aQ g2 (B.not1 O) (My hz g4)),aF.chg (λb o e n=>⟨hk b o e,n⟩) _ _ g1⟩
 induction x using AV.casesOn with
 |list l=>
  refine af (d5 e) λp hp e=> aP hx λa arr ak na pt z rr=>?_;clear hx;subst ak;exact fin "list" a arr l p.1 p.2 (.inl rfl) ⟨λ_=>pt,λh=>absurd h (by decide)⟩ z rr hp e.symm
 |tup l=>
  refine af (d5 e) λp hp e=> aP hx λa arr ak na pt z rr=>?_;clear hx;subst ak;exact fin "tuple" a arr l p.1 p.2 (.inr rfl) ⟨λh=>absurd h (by decide),λ_=>pt⟩ z rr hp e.symm
 |dict ks vs=>
  refine al e λah=>?_;clear e;subst ah;exact I7 O B hx hQ
 |_=>exact xNS e
theorem Bj (t:SetTable)(es:Array (Int×qq0))(h:Int)(x:qq0):(layNew t es h x).2.1.led=t.led:=by
 delta layNew;split
 ·dsimp only;delta SetTable.orStandIn;split<;>rfl
 ·rfl
theorem Bk {t t':SetTable}{hs:Array Int}{o:Array Nat}(h:t.relaid hs n=some (t',o)):t'.led=t.led/\t'.plain=t.plain:=by
 unfold SetTable.relaid SetTable.laid at h;refine cO (SetTable.layClean (SetTable.sizeAbove n-1) hs) (λq=>?_) λow q=>?_
 ·replace h:=q▸h;exact xNS h
 ·replace h:=q▸h;refine aN h λah ak=>?_;clear h;subst ah;subst ak;exact⟨rfl,rfl⟩
set_option tactic.hygienic true in
theorem oN (t:SetTable)(es:Array (Int×qq0))(n:Nat):(relayAll t es n).2.1.led=t.led/\((relayAll t es n).2.1.plain=true->t.plain=true):=by
 delta relayAll;split
 ·rename_i t' order q
  have:=Bk q;dsimp only;split
  ·exact⟨this.1,λh=>by exact bq this.2 h⟩
  ·exact⟨rfl,λh=>by exact di h⟩
 ·exact⟨rfl,λh=>by exact di h⟩
noncomputable abbrev RT (prog:qzJ)(w:World)(l:List Str)(ts:List Tok):List (Int×qq0):=(l.zip ts).map λp=>((strKind prog w).hash p.1,qq0.str p.1 p.2)
theorem DA {ts:List Tok}:ElemsOf (strKind prog w) (RT prog w l ts):=by
 intro e he;refine af (vM.mp he) λaz ah ak=>?_;obtain⟨k,t⟩:=az;subst ak;exact⟨(aj k cb rfl),rfl⟩
theorem IA {ts:List Tok}(hl:ts.length=l.length)(k:Str):(∃e∈RT prog w l ts,(strKind prog w).is k e.2=true)↔k∈l:=by
 constructor
 ·rintro ⟨e,he,hk⟩;refine af (vM.mp he) λaz hm ak=>?_;obtain⟨k',t⟩:=az;subst ak;have:k=k':=(strKind prog w).inj (.str k' t) k k' hk cb;subst this;exact(List.of_mem_zip hm).1
 ·intro h;refine ac (List.getElem_of_mem h) λi aI=>ac aI λhi gm=>?_;clear aI;subst gm;exact⟨_,vM.mpr ⟨(l[i],ts[i]'(V3 hl hi)),List.mem_iff_getElem.mpr ⟨i,by simp;omega,by simp⟩,rfl⟩,cb⟩
theorem CI {a:qq7}{o:Obj}{es es':Array (Int×qq0)}{ep:Nat}{t t':SetTable}(ho:h.get? a=some o)(hd:o.data= .set es ep t):(h.update a (Obj.putSet es' t')).get? a=some {o with data:= .set es' (ep+1) t'}:=by
 have:=uw (Obj.putSet es' t') ho (by refine aa (putSet_of es' t' hd) ?_;rfl);replace this:=(putSet_of es' t' hd)▸this;exact this
theorem zk {b:Bool}{Q:Unit->qq1->Prop}(h:Q () s):qq3 (qq5 prog w) A (match b with|true=>rule "set.scan.the-table-gave-way"|false=>pure ()) Q E s:=by
 cases b<;>first|exact ud h|exact qzU h
theorem IB {a:qq7}{o:Obj}{es g9:Array (Int×qq0)}{ep:Nat}{t t2:SetTable}{l':List Str}{wd:Bool}{Q:Option Bool->qq1->Prop}{E:qq0->qq1->Prop}(ho:s.heap.get? a=some o)(hd:o.data= .set es ep t)(hex:o.ExactSet)
  (FE: ∃ts:List Tok,ts.length=l'.length/\g9.toList.Perm (RT prog w l' ts)) (Bl:l'.Nodup) (hl:l'.length<=1000) (f2:t2.fits g9.size=true) (Bn:w.params.followText "set-order"=false->t2.led=true) (p2:t2.plain=false)
  (hQ: ∀h',qqC a s.heap h'->dA prog w h' a l'->Q (some true) {s with heap:=h'}):qq3 (qq5 prog w) A (do
    storeSet a g9 t2
    if(!wd && t2.tooFull)=true then do
      (match(relayAll t2 g9 (SetTable.grown g9.size)).2.2 with|true=>rule "set.scan.the-table-gave-way"|false=>pure ())
      storeSet a (relayAll t2 g9 (SetTable.grown g9.size)).1 (relayAll t2 g9 (SetTable.grown g9.size)).2.1
      pure (some true)
     else pure (some true)) Q E s:=by
 refine af FE ?_;clear FE;intro ts oO FE;have RU:g9.size<=1000:=by refine bq ux (aa FE.length_eq ?_);simp;exact Ip hl
 refine ua (wpAny_storeSet_of ho hd ?_ (by exact aa sizeLine_eq (o0 RU)));have A7:=CI (es':=g9) (t':=t2) ho hd;have RV:=qqC.update s.heap a (Obj.putSet g9 t2);by_cases c:(!wd && t2.tooFull)=true
 ·refine aa (if_pos c) ?_;have Y6:=relayAll_perm t2 g9 (SetTable.grown g9.size);have A8:=relayAll_fits t2 g9 (SetTable.grown g9.size);have Y7:=oN t2 g9 (SetTable.grown g9.size);have Y8:(relayAll t2 g9 (SetTable.grown g9.size)).1.size<=1000:=by exact bq ux (aa Y6.length_eq RU)
  refine ua (zk (ua (wpAny_storeSet_of A7 rfl ?_ (by exact aa sizeLine_eq (o0 Y8)))));refine ud (hQ _ (RV.trans (qqC.update _ a _)) (Ct _ _ _ _ (CI A7 rfl) hex rfl (aj ts oO (Y6.trans FE)) Bl hl A8 (λq=>by exact aa Y7.1 (Bn q)) (λ_=>?_)));refine cB (relayAll t2 g9 (SetTable.grown g9.size)).2.1.plain (λq=>?_) λq=>q;exact di (p2.symm.trans (Y7.2 q))
 ·exact aa (if_neg c) (ud (hQ _ RV (Ct _ g9 _ t2 A7 hex rfl (aj ts oO FE) Bl hl f2 Bn (λ_=>p2))))
set_option tactic.hygienic true in
theorem Bo {a:qq7}{k:Str}{u:Tok}{Q:Bool->qq1->Prop}(hS:dA prog w s.heap a l)(hz:l.length+1<=1000)
  (h: ∀b h',qqC a s.heap h'->dA prog w h' a (kE l k)->Q b {s with heap:=h'}):
  qq3 (qq5 prog w) A (setAddHashed a (.str k u) ((strKind prog w).hash k)) Q E s:=by
 refine Kh hS λo es ep t ho hex hd mY Bl NY hf Bn CJ=>af mY λts oO hp=>?_;have Y9:ElemsOf (strKind prog w) es.toList:=DA.perm hp;have hn:es.size=l.length:=by refine bq ux (aa hp.length_eq ?_);simp;exact M0 oO
 have RW: ∀k',(∃e∈es.toList,(strKind prog w).is k' e.2=true)↔k'∈l:=λk'=>by
  rw [<-IA (prog:=prog) (w:=w) oO k'];exact⟨λz=>z.imp λe z=>⟨hp.mem_iff.mp z.1,z.2⟩,λz=>z.imp λe z=>⟨hp.mem_iff.mpr z.1,z.2⟩⟩
 have hsb:scanBound=4096:=rfl;unfold setAddHashed setAddHashedIn;refine qq8 (ua (qz7 ho hd hf ?_));dsimp only;refine aa (byScan_of rfl (by exact aa hsb (V4 NY hn)) Y9) ?_;simp only [↓reduceIte];delta setAddByScan;refine ua (ua (qzU ?_));refine ua (wpAny_setScan_of cb ho hd hf Y9 ?_);cases hr:List.findIdx? (λe=>(strKind prog w).is k e.2) es.toList with
 |some j=>
  dsimp only;refine af (List.findIdx?_eq_some_iff_getElem.mp hr) ?_;intro hj hpj ak;have hk:k∈l:=(RW k).mp (aj (es.toList[j]) (List.getElem_mem hj) hpj);refine ud (ud ?_);refine h false s.heap (qqC.refl a s.heap) ?_;have:kE l k=l:=by delta kE;exact aa (if_pos (by simpa using hk)) rfl
  exact aa this (Ct o es ep t ho hex hd (aj ts oO hp) Bl NY hf Bn CJ)
 |none=>
  dsimp only;have hk:k∉l:=λq=>by
   refine af ((RW k).mpr q) λe he hq=>?_;have:=List.findIdx?_eq_none_iff.mp hr e he;replace this:=eS hq this;exact Bool.noConfusion this
  have Wu:kE l k=l++ [k]:=by delta kE;exact aa (if_neg (by simpa using hk)) rfl
  have Wv:(l++ [k]).Nodup:=by
   exact Iff.mpr List.nodup_append (aQ Bl (by simp) (λa ha b hb=>by simp at hb;subst hb;exact λq=>hk (q▸ha)))
  have zm:=layNew_perm t es ((strKind prog w).hash k) (.str k u);have CK:=layNew_fits t es ((strKind prog w).hash k) (.str k u);have Ut:=Bj t es ((strKind prog w).hash k) (.str k u);generalize hL:layNew t es ((strKind prog w).hash k) (.str k u)=L at zm CK Ut⊢;obtain⟨g9,t1,FF,aa0⟩:=L;dsimp only at zm CK Ut⊢;replace zm:=qx9▸zm;have FE:g9.toList.Perm (RT prog w (l++ [k]) (ts++ [u])):=by
   refine zm.trans ?_;delta RT;refine aa (List.zip_append (V5 oO)) ?_;simpa using hp.append_right _
  refine ua (zk ?_);have fin2: ∀(t2:SetTable),t2.fits g9.size=true->t2.led=t.led->t2.plain=false->qq3 (qq5 prog w) A _ (λr s'=>qq3 (qq5 prog w) A (match r with|some RX=>pure RX|none=>setAddHashedIn a (.str k u) ((strKind prog w).hash k) 99999) Q E s') E s:=λt2 a1 a2 a3=>
   IB (wd:=FF) ho hd hex (aj (ts++ [u]) (by simp [oO]) FE) Wv (by simp;exact V6 hz) a1 (λq=>a2.trans (Bn q)) a3 λh' e3 e4=>ud (h true h' e3 (Wu▸e4))
  split
  ·exact ua (aa (hashByValue_scannable 8 rfl) (ud (fin2 {t1 with plain:=false} (SetTable.fits_plain_off CK) Ut rfl)))
  ·rename_i q
   refine bp ?_;simp only [↓reduceIte];exact fin2 t1 CK Ut (by simpa using q)
theorem Bp {i:Nat}{k:Str}(h:l[i]? =some k):i8 (l.take (i+1))=kE (i8 (l.take i)) k:=by
 delta i8;refine aa List.take_add_one (aa h ?_);refine aa List.foldl_append ?_;rfl
theorem eC: ∀(l acc:List Str),(l.foldl kE acc).length<=acc.length+l.length
 | [],acc=>by exact ur _
 |k::l,acc=>by
  have h1:=eC l (kE acc k);have h2:(kE acc k).length<=acc.length+1:=by delta kE;split<;>simp
  dsimp only [List.foldl_cons,uT];exact V7 h1 h2
theorem oP (l:List Str):(i8 l).length<=l.length:=by
 have:=eC l [];replace this:=List.length_nil▸this;rewrite [Nat.zero_add] at this;exact this
theorem mh {l:List Str}(W:Walks prog w A.in1 I fp wr l.length P St){D:qq7}(RQ:D∉fp)(hz:l.length<=900)(hP: ∀i v,P i v-> ∃k t,v= .str k t/\l[i]? =some k):
  ∀(k i:Nat) (s:qq1),l.length-i=k->i<=l.length->St i s.heap->dA prog w s.heap D (i8 (l.take i))->
   (∀h' tk,(∀b o,b∉wr->b≠D->s.heap.get? b=some o->h'.get? b=some o)->dA prog w h' D (i8 l)->R (.ok (.ret .none)) {s with heap:=h',toks:=tk})->
   qzZ (qq5 prog w) A (.builtin "set.update.loop" ⟨[.ref D,.ref I],[]⟩) R s:=by
 have RR:D∉wr:=λh=>RQ (W.sub _ h);have LF: ∀{h h':qqK} {l'},dA prog w h D l'->(∀o,h.get? D=some o->h'.get? D=some o)->dA prog w h' D l':=by
  intro h h' l' ⟨o,es,ep,t,ho,r⟩ k;exact(Cr o es ep t (k o ho) r)
 intro k
 induction k with
 |zero=>
  intro i s hk hi I9 hS hR;have CH:i=l.length:=by exact ON hk hi
  subst CH;replace hS:=List.take_length▸hS;refine qqZ qx1 (aa (qqS qz5 _) (?_:qq3 _ A.in1 (pyNext (.ref I)>>=_) _ _ s));refine ua (W.done s _ _ I9 λh' tk hm=>?_);refine(?_:qq3 _ A.in1 (ret qq0.none) _ _ _);exact ud (hR h' tk (λb o hb _ e=>hm b o hb e) (LF hS λo e=>hm D o RR e))
 |succ k ih=>
  intro i s hk hi I9 hS hR;have d3:i<l.length:=by exact OO hk
  refine qqZ qx1 (aa (qqS qz5 _) (?_:qq3 _ A.in1 (pyNext (.ref I)>>=_) _ _ s));refine ua (W.item i s _ _ d3 I9 λv h1 LC Ws MO LD=>?_);refine aY (hP i v Ws) λkk t ak MP=>?_;subst ak;have RS:=LF hS λo e=>LD D o RR e;refine(?_:qq3 _ A.in1 (holding [qq0.str kk t] (setAdd D (.str kk t))>>=_) _ _ _);refine ua (qq8 ?_);delta setAdd;refine qq8 (ua ((strKind prog w).pyHash (k:=kk) cb ?_));have LG:=oP (l.take i);replace LG:=List.length_take▸LG;refine Bo (s:={s with heap:=h1,toks:=LC+1}) RS (V8 hz LG) λb h2 oJ RY=>?_;replace RY:=Eq.symm (Bp MP)▸RY;have k2: ∀b o,b∉wr->b≠D->s.heap.get? b=some o->h2.get? b=some o:=λb o hb E9 e=>by
   exact aa (oJ.2 b E9) (LD b o hb e)
  refine ud ⟨qzK qz5 _,ih (i+1) _ (OP hk) d3 (W.frame _ h1 h2 MO λb hb o e=>?_) RY λh' tk jY Bi=>?_⟩
  ·exact aa (oJ.2 b (λq=>RQ (q▸hb))) e
  ·exact hR h' tk (λb o hb E9 e=>jY b o hb E9 (k2 b o hb E9 e)) Bi
theorem zn (a:qq0){Q₁:qq0->qq1->Prop}
  (h:Q₁ (.ref s.heap.objs.size) {s with heap:=s.heap.push {cls:= .type "set",dict:=none,data:= .set #[] 0 (.fresh 0 0 (!(w.params.followText "set-order")))}}):
  qzZ (qq5 prog w) A (.call (.builtin "set.__new__") ⟨[.type "set",a],[]⟩) (wants Q₁ E) s:=by
 refine codeAny_of_tree (?_:qq3 _ A.in1 (do checkBuiltinCall "set.__new__" ⟨[.type "set",a],[]⟩;again (.builtin "set.__new__" ⟨[.type "set",a],[]⟩)) _ _ s);refine ua (qzR (PySem.F.newCall_set_1 a) (ud ⟨qzK PySem.F.plain_set_new _,qqZ PySem.F.entry_set_new ?_⟩));refine aa (qqS PySem.F.plain_set_new _) ?_;unfold Builtin.«set.__new__» Builtin.Frozenset.newClass;have IC:=sub_set_self;obtain⟨hp,g,d,tk,os⟩:=s;dsimp only;wp_walk;refine qz2 (ud ?_);dsimp only;dsimp only [newObj];refine ua (wpAny_alloc (ud ?_));exact ud h
theorem zo {a:qq7}(e:h.get? a=some {cls:= .type "set",dict:=none,data:= .set #[] 0 (.fresh 0 0 (!(w.params.followText "set-order")))}):dA prog w h a []:=
 (Ct _ (#[]) 0 _ e (aQ rfl rfl rfl) rfl (aj ([]) rfl .nil) qxW (by exact uG _) (by rfl) (λq=>by simp [SetTable.fresh,q]) (λq=>absurd rfl q))
theorem mj {gr:qq7}{items:Array qq0}{Q:qq0->qq1->Prop}
  (hh:A.handled=none) (hl:s.heap.PlainList gr items) (hn:l.length=items.size) (hi: ∀(i:Nat) v,items[i]? =some v-> ∃k t,v= .str k t/\l[i]? =some k) (hz:l.length<=900)
  (h: ∀(h':qqK) (tk:Nat),dA prog w h' s.heap.objs.size (i8 l)->(∀b o,s.heap.get? b=some o->h'.get? b=some o)->Q (.ref s.heap.objs.size) {s with heap:=h',toks:=tk}):
  qq3 (qq5 prog w) A (call (.type "set") [.ref gr]) Q E s:=by
 refine aX PySem.F.called_set.mro λc tl aa1=>?_;have YA:=PySem.F.called_set.made;have IC:=PySem.F.called_set.sub;refine qzF (codeAny_of_tree ?_);refine(?_:qq3 _ _ (callAny (.type "set") _) _ _ _);refine ud ⟨qx6 _ (by decide+kernel),qqZ PySem.F.entry_type_call ?_⟩;refine aa (qqG.under_plain (weight_type_call_type "set" [.ref gr] []) rfl) ?_;have h1:=PySem.F.called_set.notType;have h2:=PySem.F.called_set.canCreate;have hct:=PySem.F.typeCall_set_1 (.ref gr)
 repeat (any_goals (first|assumption|wp_step))
 let ob:Obj:={cls:= .type "set",dict:=none,data:= .set #[] 0 (.fresh 0 0 (!(w.params.followText "set-order")))}
 refine codeAny_mono (zn (.ref gr) (E:=E) (Q₁:=λobj s₁=>obj= .ref s.heap.objs.size/\s₁={s with heap:=s.heap.push ob}) ⟨rfl,rfl⟩) λr s₁ hr=>?_
 induction r using Except.casesOn with
 |error e=>exact hr|ok fl=>
  cases fl with
  |ret obj=>
   refine ai hr λaz ah=>?_;clear hr;subst az;subst ah;have hS:(s.heap.push ob).get? s.heap.objs.size=some ob:=ue _ rfl;have hT:qq1.TypeIs {s with heap:=s.heap.push ob} (.ref s.heap.objs.size) "set":=(aj _ hS rfl);have hli:=PySem.F.called_set.init.lookup;have hbi:=PySem.F.called_set.init.bind (.ref s.heap.objs.size)
   repeat (any_goals (first|assumption|wp_step))
   refine codeAny_mono (codeAny_call_builtin (R:=wants (λr RZ=>r= .none/\ ∃h' tk,RZ={s with heap:=h',toks:=tk}/\dA prog w h' s.heap.objs.size (i8 l)/\
     (∀b o,s.heap.get? b=some o->h'.get? b=some o)) E) PySem.F.called_set.init.plain PySem.F.entry_set_init (check_set_init_1 hT ?_)) λWw RZ FG=>?_
   ·refine ac hl λnl YB=>?_;have EA:(s.heap.push ob).get? gr=some _:=uc _ YB;have LG:(s.heap.push ob).IsList gr items:=⟨_,EA,rfl,nl,rfl⟩;have aa2:=PySem.F.sub_list_set;have aa3:=PySem.F.sub_list_frozenset;have CL:(qq0.type "list"==qq0.type "dict")=false:=by(intros;assumption)
    have d3:gr<s.heap.objs.size:=ul YB;unfold Builtin.«set.__init__» noKeywords Builtin.Frozenset.updateFrom;generalize hPI:pyIter=PI;wp_walk;subst hPI;refine qzV LG (ua (wpAny_runValue ?_));have hI:s.heap.objs.size<(s.heap.push ob).objs.size:=by rw [uR];exact vz _
    have hDI:s.heap.objs.size∉ [(s.heap.push ob).objs.size,gr]:=by
     intro q;refine ui (uY.mp q) (λq=>?_) λq=>?_
     ·exact uy hI q
     ·exact vA d3 (qq2.mp q)
    refine mh (l:=l) (St:=λi h=>h.IsListIter (s.heap.push ob).objs.size gr i/\h.IsList gr items) (by exact aa hn (Walks.list (by(intros;assumption)) _ gr (uy (vj d3 hI)) items)) (D:=s.heap.objs.size) hDI hz hi (l.length-0) 0 _ rfl (uG _)
     ⟨(aV _ (ue _ rfl) rfl rfl),LG.push _⟩ (zo (uc _ hS)) λh' tk hk Bi=>?_
    refine(?_:qq3 _ _ _ _ _ _);refine ud (?_:qq3 _ _ (ret qq0.none) _ _ _);refine ud ⟨rfl,h',tk,rfl,Bi,λb o e=>hk b o ?_ (uy (ul e)) (uc _ (uc _ e))⟩;exact aa (propext qq2) (uy (vj (ul e) hI))
   ·induction Ww using Except.casesOn with
    |error e=>exact FG|ok R_=>
     cases R_ with
     |ret r=>
      refine ai FG λaz aI=>a8 aI λh' tk jX Bi jY=>?_;clear aI;subst jX;subst az
      repeat (any_goals (first|assumption|wp_step))
      exact h _ _ Bi jY
     |_=>exact FG.elim
  |_=>exact hr.elim
end
namespace F
theorem dQ:Manifest.owners.lookup (String.ofList ['r','o','t','a','r','e','t','i','_','t','e','s'].reverse)=some Manifest.sig_set_iterator:=by kernel_rfl
theorem slot_next:Slot "set_iterator" "__next__" "set_iterator.__next__":=
 .of (owner:= "set_iterator") (n:= "__next__") (by rewrite [qzQ];refine aa qqY ?_;kernel_rfl) (by decide+kernel) (by decide+kernel) (by decide+kernel)
  (by first|exact .inl (by decide+kernel)|exact .inr (by decide+kernel)) (by rw [isSubtype_type];kernel_rfl)
theorem entry_next:entryFor table "set_iterator.__next__"=some Builtin.«set_iterator.__next__»:=entryFor_of_tree (by kernel_rfl)
theorem args_next (a:qq0):argsOk "set_iterator.__next__" ⟨[a],[]⟩:=by
 delta argsOk;refine aa (signature?_of (id:= "set_iterator.__next__") (n:= ['_','_','t','x','e','n','_','_']) (o:= ['r','o','t','a','r','e','t','i','_','t','e','s']) (by kernel_rfl) dQ) ?_;kernel_rfl
theorem slot_iter:Slot "set_iterator" "__iter__" "set_iterator.__iter__":=
 .of (owner:= "set_iterator") (n:= "__iter__") (by rewrite [qzQ];refine aa qqY ?_;kernel_rfl) (by decide+kernel) (by decide+kernel) (by decide+kernel)
  (by first|exact .inl (by decide+kernel)|exact .inr (by decide+kernel)) (by rw [isSubtype_type];kernel_rfl)
theorem entry_iter:entryFor table "set_iterator.__iter__"=some Builtin.«dict_keyiterator.__iter__»:=
 entryFor_alias (id':= "dict_keyiterator.__iter__") (by kernel_rfl) rfl (by decide+kernel) (by kernel_rfl)
theorem args_iter (a:qq0):argsOk "set_iterator.__iter__" ⟨[a],[]⟩:=by
 delta argsOk;refine aa (signature?_of (id:= "set_iterator.__iter__") (n:= ['_','_','r','e','t','i','_','_']) (o:= ['r','o','t','a','r','e','t','i','_','t','e','s']) (by kernel_rfl) dQ) ?_;kernel_rfl
theorem entry_set_iter:entryFor table "set.__iter__"=some Builtin.«frozenset.__iter__»:=
 entryFor_alias (id':= "frozenset.__iter__") (by kernel_rfl) rfl (by decide+kernel) (by kernel_rfl)
end F
section
variable {prog:qzJ}{w:World}{A:qqG}{E:qq0->qq1->Prop}{s:qq1}{v f u:qq0}{h h' h0:qqK}{α β γ δ:Type}{vs:List qq0}{l xs:List AV}{W:qq7->Prop}{ks names:List Str}{i tk k:Nat}{c b ax pf:qq7}{dv r:AV}{o:Expr}{ob:OB}{fd:qz3}{t:Sem β}{mn y:Str}{bs:List (Str×AV)}{args:List Expr}{es:List DictEntry}{ty:qq1}{keys:List (Option Expr)}{vals:Array qq0}{b6:List Env}{ap:Pos}
theorem oQ {gr:Source}{n:Nat}{Q:Nat->qq1->Prop}(hn:n≠0)(h: ∀i d,i<n->Q i {s with drawn:=d}):qq3 (qq5 prog w) A (choose gr n) Q E s:=λΓ p _=>by
 delta choose;rw [Sem.wp_choose];exact⟨hn,by rw [Sem.wp_pure];exact h _ _ (Nat.mod_lt _ (Nat.pos_of_ne_zero hn))⟩
noncomputable abbrev CM (f:qq0)(v:qq0)(i n ep:Nat):Obj:={cls:= .type "set_iterator",dict:=none,data:= .fields #[f,.int i 0,v,.int n 0,.int ep 0],slots:= #[]}
theorem Bq {a:qq7}{o:Obj}{es:Array (Int×qq0)}{ep:Nat}{t:SetTable}{Q:Array (Int×qq0)->qq1->Prop}
  (ho:s.heap.get? a=some o) (hd:o.data= .set es ep t) (hf:t.fits es.size=true) (h:Q es s):qq3 (qq5 prog w) A (setEntries a) Q E s:=by
 delta setEntries;exact ua (qz7 ho hd hf (ud h))
inductive FH (prog:qzJ) (w:World) (a tp:qq7) (oa CO:Obj) (es:Array (Int×qq0)) (ep:Nat) (vals:List qq0) (first:Nat->qq0) (i:Nat):Prop where
 |slot (j j':Nat) (e:first i= .int j 0) (e':i<vals.length->first (i+1)= .int j' 0)
   (h: ∀{A:qqG} {E:qq0->qq1->Prop} {s:qq1} {Q:Option (qq0×Nat)->qq1->Prop},s.heap.get? a=some oa->Q (vals[i]?.map λx=>(x,j')) s->qq3 (qq5 prog w) A (setNext a j i ep) Q E s)
 |place (items:Array qq0) (e:first i= .ref tp) (e':i<vals.length->first (i+1)= .ref tp) (k:Nat) (Uu:CO={cls:= .type "tuple",data:= .seq items k})
   (hp:i<vals.length-> ∃q h,items[i]? =some (.int (q:Nat) 0)/\es[q]? =some (h,vals.getD i .none)) (hn:vals.length<=i->items[i]? =none)
theorem FI {I a tp:qq7}{oa CO:Obj}{es:Array (Int×qq0)}{ep:Nat}{t:SetTable}{vals:List qq0}{first:Nat->qq0}(hA:A.handled=none)
  (ha:oa.data= .set es ep t) (hf:t.fits es.size=true) (YC:a≠I) (YD:tp≠I) (hv:vals.length=es.size) (hN: ∀i,i<=vals.length->FH prog w a tp oa CO es ep vals first i):
  WalksS prog w A I [I,a,tp] [I] (λg g'=>g'=g) vals.length (λi v=>vals[i]? =some v) (λi s=>s.heap.get? a=some oa/\s.heap.get? tp=some CO/\s.heap.get? I=some (CM (first i) (.ref a) i es.size ep)) where
 sub:=λb hb=>by simp at hb;simp [hb]
 grefl:=λ_=>rfl
 gtrans:=λ_ _ _ x y=>y.trans x
 frame:=λi s h' tk st _ hk=>(aQ (hk a (by exact .tail _ (.head _)) _ st.1) (hk tp (by exact .tail _ (.tail _ (.head _))) _ st.2.1) (hk I (by exact .head _) _ st.2.2))
 item:=λi s Q E hi st hQ=>by
  refine aU st λh1 h2 h3=>?_;have hT:s.TypeIs (.ref I) "set_iterator":=(aj _ h3 rfl);delta pyNext;refine ua (qzL (wpAny_callSpecial?_slot (name:=qqH "__next__") hT F.slot_next (qqD F.slot_next hT F.entry_next ?_ (F.args_next _))));delta Builtin.«set_iterator.__next__»;refine bp (ua (wpAny_fieldsOf h3 rfl ?_));dsimp only;refine ua (Bq h1 ha hf ?_);refine aa (if_neg (by simp)) ?_;have fin: ∀{s₁:qq1},s₁.heap.get? a=some oa->s₁.heap.get? tp=some CO->s₁.heap.get? I=some (CM (first (i+1)) (.ref a) (i+1) es.size ep)->qqC I s.heap s₁.heap->s₁.gens=s.gens->s₁.drawn=s.drawn->s₁.os=s.os->s₁.toks=s.toks->
    Q (some (vals.getD i .none)) s₁:=λg1 g2 g3 g4 g5 g6 g7 g8=>hQ _ _ (by simp [hi]) (aQ g1 g2 g3) ⟨λb o hb e=>by exact aa (g4.2 b (by simpa using hb)) e,g5,g6,g7,by exact aa g8 (ur _)⟩
  have hvi:vals[i]? =some (vals.getD i .none):=by simp [hi]
  cases hN i (Nat.le_of_lt hi) with
  |slot j j' e e' h=>
   rw [e] at h3⊢;dsimp only;refine ua (h (s:=s) (by exact h1) ?_);refine aa hvi ?_;dsimp only [Option.map];refine ua (qz9 h3 (by exact uH _) λh' g hs=>?_);refine ua (qz9 g (by exact uj _ _) λCP g' ji=>?_);refine ud (aj _ rfl (ud (fin ?_ ?_ ?_ (hs.trans ji) rfl rfl rfl rfl)))
   ·refine(?_:CP.get? a=_);exact aa ((hs.trans ji).2 a YC) h1
   ·refine(?_:CP.get? tp=_);exact aa ((hs.trans ji).2 tp YD) h2
   ·exact aa (e' hi) g'
  |place items e e' k Uu hp hn=>
   rw [e] at h3⊢;dsimp only;refine aY (hp hi) λq hh e1 e2=>?_;subst Uu;refine ua (qzC h2 rfl ?_);dsimp only;simp only [vk,e1];delta setNextDrawn;refine ua (ua (qz7 h1 ha hf ?_));dsimp only;refine aa (if_neg (by simp)) ?_;simp only [vk,e2];refine ud (ua (qz9 h3 (by exact uj _ _) λh' g hs=>?_));refine ud (aj _ rfl (ud (fin ?_ ?_ ?_ hs rfl rfl rfl rfl)))
   ·refine(?_:h'.get? a=_);exact aa (hs.2 a YC) h1
   ·refine(?_:h'.get? tp=_);exact aa (hs.2 tp YD) h2
   ·exact aa (e' hi) g
 done:=λs Q E st hQ=>by
  refine aU st λh1 h2 h3=>?_;have hT:s.TypeIs (.ref I) "set_iterator":=(aj _ h3 rfl);delta pyNext;refine ua (qzL (wpAny_callSpecial?_slot (name:=qqH "__next__") hT F.slot_next (qqD F.slot_next hT F.entry_next ?_ (F.args_next _))));delta Builtin.«set_iterator.__next__»;refine bp (ua (wpAny_fieldsOf h3 rfl ?_));dsimp only;refine ua (Bq h1 ha hf ?_);refine aa (if_neg (by simp)) ?_;have stop: ∀{s₁:qq1} {Q':Fin->qq1->Prop},(∀b o,b≠I->s.heap.get? b=some o->s₁.heap.get? b=some o)->s₁.gens=s.gens->s₁.drawn=s.drawn->s₁.os=s.os->s.toks<=s₁.toks->
    qq3 (qq5 prog w) A.in1 (do raiseNew (<-newExc (.type "StopIteration") []):Sem Fin) Q' (λe s'=>qq3 (qq5 prog w) A (isInstance e (.type "StopIteration")>>=λb=>if b=true then pure none else throw e) Q E s') s₁:=by
   intro s₁ Q' g4 g5 g6 g7 g8;refine ua ?_;dsimp only [newExc,newTuple];refine ua (qqA ?_ (by size_fits));refine ua (m:=firstArgMember _ _) (qzR (a:=qq0.none) (by first|rfl|(simp only [firstArgMember];rfl)) ?_);refine qqA ?_ (by size_fits);dsimp only [raiseNew];refine ua (wpAny_handled ?_)
   first|refine aa (show A.in1.handled=none from hA) ?_|rw [hA]
   refine bp (wpAny_throw ?_);refine ua (qzM (T:= "StopIteration") (b:=true) (aj _ (ue _ rfl) rfl) isSubtype_stop ?_);refine aa (if_pos rfl) (ud (hQ _ ⟨λb o hb e=>?_,g5,g6,g7,g8⟩));exact uc _ (uc _ (g4 b o (by simpa using hb) e))
  cases hN vals.length (ur _) with
  |slot j j' e e' h=>
   rw [e] at h3⊢;dsimp only;refine ua (h (s:=s) (by exact h1) ?_);refine aa (qxD (ur _)) ?_;dsimp only [Option.map];refine ua (qz9 h3 (by exact uj _ _) λh' g hs=>?_);refine stop (s₁:={s with heap:=h'}) (λb o hb e=>?_) rfl rfl rfl (ur _);refine(?_:h'.get? b=_);exact aa (hs.2 b hb) e
  |place items e e' k Uu hp hn=>
   rw [e] at h3⊢;dsimp only;subst Uu;refine ua (qzC h2 rfl ?_);dsimp only;simp only [vk,hn (ur _)];refine ua (qz9 h3 (by exact uH _) λh' g hs=>?_);refine ua (qz9 g (by exact uj _ _) λCP g' ji=>?_);refine stop (s₁:={s with heap:=CP}) (λb o hb e=>?_) rfl rfl rfl (ur _);refine(?_:CP.get? b=_);exact aa ((hs.trans ji).2 b hb) e
 self:=λi s Q E st hQ=>by
  have hT:s.TypeIs (.ref I) "set_iterator":=(aj _ st.2.2 rfl);refine wpAny_pyIter_slot hT F.slot_iter (qqD F.slot_iter hT F.entry_iter ?_ (F.args_iter _));refine(?_:qq3 _ _ (ret (.ref I)) _ _ s);exact ud ⟨_,rfl,"set_iterator",_,hT,F.slot_next.lookup,hQ⟩
theorem eH: ∀{l:List α} {i:Nat} {x:α},l[i]? =some x->l.Perm (x::l.eraseIdx i)
 | [],i,x,h=>by simp at h
 |y::l,0,x,h=>by simp at h;subst h;exact .refl _
 |y::l,i+1,x,h=>by
  dsimp at h;exact((eH h).cons y).trans (.swap x y _)
theorem CQ (next:Nat->Nat): ∀(n k:Nat) (l:List α) (out:Array α),n=l.length->(pickOrder.go next n k l out).toList.Perm (out.toList++l)
 |0,k,l,out,h=>by
  have:l= []:=List.length_eq_zero_iff.mp h.symm;subst this;refine(?_:out.toList.Perm (out.toList++ []));rw [uN]
 |n+1,k,l,out,h=>by
  refine(?_:((match l[next k%l.length]? with
   |some x=>pickOrder.go next n (k+1) (l.eraseIdx (next k%l.length)) (out.push x)|none=>out).toList).Perm _)
  have d3:next k%l.length<l.length:=Nat.mod_lt _ (V9 h)
  have hx:l[next k%l.length]? =some l[next k%l.length]:=qqI d3;refine aa hx ?_;dsimp only;refine(CQ next n (k+1) _ _ (by refine aa List.length_eraseIdx ?_;simp [d3];exact VA h)).trans ?_;refine aa qx9 ?_;rewrite [up];exact List.Perm.append_left _ (eH hx).symm
theorem lb (next:Nat->Nat)(xs:Array α):(pickOrder next xs).toList.Perm xs.toList:=by
 have:=CQ next xs.size 0 xs.toList #[] (by rfl)
 rw [vx] at this;exact this
theorem jD: ∀(n:Nat) (xs:List α) (s:qq1) (Q:List α->qq1->Prop),n=xs.length->(∀ys d,ys.Perm xs->Q ys {s with drawn:=d})->qq3 (qq5 prog w) A (drawOrder n xs) Q E s
 |0,xs,s,Q,h,hQ=>by
  have:xs= []:=List.length_eq_zero_iff.mp h.symm;subst this;exact ud (hQ [] s.drawn (.refl _))
 |n+1,[],s,Q,h,hQ=>by simp at h
 |n+1,x::xs,s,Q,h,hQ=>by
  refine(?_:qq3 _ _ (choose .order (x::xs).length>>=λi=>match(x::xs)[i]? with
   |some y=>drawOrder n ((x::xs).eraseIdx i)>>=λr=>pure (y::r)
   |none=>unsupported "internal:drawOrder") _ _ _)
  refine ua (oQ (by simp) λi d hi=>?_);have hx:(x::xs)[i]? =some (x::xs)[i]:=qqI hi;refine aa hx ?_;dsimp only;refine ua (jD n _ _ _ (by refine aa List.length_eraseIdx ?_;simp at h hi⊢;simp [hi];exact VB h) λys d' hp=>ud ?_);exact hQ _ _ ((hp.cons _).trans (eH hx).symm)
theorem jj {es:Array (Int×qq0)}{pl:List Nat}(h:pl.Perm (List.range es.size)):(pl.map λq=>(es.getD q (0,.none)).2).Perm (es.toList.map (·.2)):=by
 refine(h.map _).trans ?_;have:(List.range es.size).map (λq=>(es.getD q (0,.none)).2)=es.toList.map (·.2):=by
  apply List.ext_getElem?;intro i;simp only [qzG];by_cases hi:i<es.size
  ·simp [List.getElem?_range hi,hi]
  ·refine aa (qxD (by simp;exact M1 hi)) ?_;refine aa (qxD (by dsimp;exact M1 hi)) ?_;rfl
 refine aa this ?_;rfl
theorem FJ {a:qq7}{l:List Str}{Q:qq0->qq1->Prop}(hS:dA prog w s.heap a l)
  (h: ∀(s₁:qq1) (I tp:qq7) (oa CO:Obj) (es:Array (Int×qq0)) (ep:Nat) (vals:List qq0) (first:Nat->qq0),
   (∀A:qqG,A.handled=none->WalksS prog w A I [I,a,tp] [I] (λg g'=>g'=g) vals.length (λi v=>vals[i]? =some v) (λi s=>s.heap.get? a=some oa/\s.heap.get? tp=some CO/\s.heap.get? I=some (CM (first i) (.ref a) i es.size ep)))->
   (s₁.heap.get? a=some oa/\s₁.heap.get? tp=some CO/\s₁.heap.get? I=some (CM (first 0) (.ref a) 0 es.size ep))->s.heap.objs.size<=I/\(tp=a\/s.heap.objs.size<=tp)->
   (∃ts:List Tok,ts.length=l.length/\vals.Perm ((l.zip ts).map λp=>qq0.str p.1 p.2))->
   (∀b o,s.heap.get? b=some o->s₁.heap.get? b=some o)->s₁.gens=s.gens->s₁.os=s.os->Q (.ref I) s₁):
  qq3 (qq5 prog w) A (pyIter (.ref a)) Q E s:=by
 refine Kh hS λoa es ep t ho hex hd mY Bl NY hf Bn CJ=>af mY λts oO hp=>?_;have hT:s.TypeIs (.ref a) "set":=(aj oa ho hex.1);have hvp:(es.toList.map (·.2)).Perm ((l.zip ts).map λp=>qq0.str p.1 p.2):=by
  have:=hp.map (·.2);simpa [List.map_map,Function.comp_def] using this
 have d3:a<s.heap.objs.size:=ul ho;refine wpAny_pyIter_slot hT PySem.F.slot_set_iter (qqD PySem.F.slot_set_iter hT F.entry_set_iter ?_ (PySem.F.args_set_iter_1 _));unfold Builtin.«frozenset.__iter__» Builtin.Frozenset.slot0 Builtin.Frozenset.addrOf Builtin.Frozenset.sizeOf;refine ua (bp ?_);refine ud (ua (ua (Bq ho hd hf (ud ?_))));unfold setDrawn setsByText;refine ua (ua (qz7 ho hd hf ?_));dsimp only;refine ua (ua (qz2 (ud ?_)));refine ud ?_;have fin: ∀(s₁:qq1) (tp:qq7) (CO:Obj) (vals:List qq0) (first:Nat->qq0),s₁.heap.get? a=some oa->s₁.heap.get? tp=some CO->(∀b o,s.heap.get? b=some o->s₁.heap.get? b=some o)->s₁.gens=s.gens->s₁.os=s.os->s.heap.objs.size<=s₁.heap.objs.size/\(tp=a\/s.heap.objs.size<=tp)->vals.Perm (es.toList.map (·.2))->
   (∀i,i<=vals.length->FH prog w a tp oa CO es ep vals first i)->
   qq3 (qq5 prog w) A.in1 (do ret (<-newFields "set_iterator" [first 0,rawInt 0,.ref a,rawInt es.size,rawInt (<-setEpoch a)])) (λfin s'=>∃r,fin= .done (.ret r)/\(∃T' r_1,s'.TypeIs r T'/\typeLookup (.type T') "__next__"=pure (some r_1)/\Q r s')) E s₁:=by
  intro s₁ tp CO vals first g1 g2 g3 g4 g5 gz g6 g7
  refine ua (wpAny_setEpoch_of g1 hd hf ?_);refine ua (qqA (ud ⟨_,rfl,"set_iterator",_,(aj _ (ue _ rfl) rfl),F.slot_next.lookup,?_⟩) (by size_fits));have la:a<s₁.heap.objs.size:=ul g1;have lt:tp<s₁.heap.objs.size:=ul g2;have hv:vals.length=es.size:=by exact aa g6.length_eq (uQ _)
  exact h _ _ tp oa CO es ep vals first (λA hA=>FI hA hd hf (uy la) (uy lt) hv g7) (aQ (uc _ g1) (uc _ g2) (ue _ rfl)) gz (aj ts oO (g6.trans hvp)) (λb o e=>uc _ (g3 b o e)) g4 g5
 refine cB (w.params.followText "set-order") (λhb=>?_) λhb=>?_
 ·refine aa (if_neg (by refine(?_: ¬((!(w.params.followText "set-order") && _)=true));refine aa hb ?_;simp)) ?_;refine bp ?_;have hp2:((pickOrder (w.params.setOrder a ep) es).toList.map (·.2)).Perm (es.toList.map (·.2)):=(lb _ _).map _;refine fin s a oa ((pickOrder (w.params.setOrder a ep) es).toList.map (·.2)) (λ_=>.int 0 0) ho ho (λ_ _ e=>e) rfl rfl ⟨ur _,.inl rfl⟩ hp2 λi hi=>.slot 0 0 rfl (λ_=>rfl) ?_;intro A' E' s' Q' d6 FK;unfold setNext setsByText;refine ua (qz7 d6 hd hf ?_);dsimp only;refine ua (ua (qz2 (ud ?_)));refine aa (if_pos (by exact hb)) (aa (if_neg (by simp)) ?_);unfold setWalk setsByText;refine ua (ua (qz7 d6 hd hf ?_));dsimp only;refine ua (ua (qz2 (ud ?_)));refine aa (if_pos (by exact hb)) (ua (qz2 (ud ?_)));refine ud ?_;have e:(((pickOrder (w.params.setOrder a ep) es).toList.map (·.2))[i]?.map λx=>(x,0))=((pickOrder (w.params.setOrder a ep) es)[i]?.map λe=>(e.2,0)):=by
   refine aa qzG ?_;refine aa qqP ?_;simp [Option.map_map,Function.comp_def]
  replace FK:=e▸FK;exact FK
 ·have hl:=Bn hb;by_cases hz:es.size>1
  ·have hpn:=CJ (VC hz);refine aa (if_pos (by refine(?_:(!(w.params.followText "set-order") && (!t.plain && decide (es.size>1)))=true);refine aa hb (aa hpn ?_);simpa using hz)) ?_;refine ua (jD es.size (List.range es.size) _ _ (by simp) λpl d Wx=>?_);refine ua ?_;have Wy:pl.length<=1000:=by
    refine aa Wx.length_eq (aa List.length_range ?_);refine bq ux (aa hp.length_eq ?_);simp;exact Ip NY
   refine wpAny_newTuple ?_ (by rewrite [uQ];exact aa sizeLine_eq (o0 Wy));refine fin {heap:=s.heap.push _,gens:=s.gens,drawn:=d,toks:=s.toks,os:=s.os} s.heap.objs.size {cls:= .type "tuple",data:= .seq (pl.map λ(i:Nat)=>rawInt i).toArray} (pl.map λq=>(es.getD q (0,.none)).2) (λ_=>.ref s.heap.objs.size) (uc _ ho) (ue _ rfl) (λb o e=>uc _ e) rfl rfl ⟨by refine(?_:_<=(s.heap.push _).objs.size);rw [uR];exact uF _,.inr (ur _)⟩ (jj Wx) λi hi=>.place (pl.map λ(i:Nat)=>rawInt i).toArray rfl (λ_=>rfl) 0 rfl ?_ ?_
   ·intro hi;rw [uQ] at hi;have hq:pl[i]<es.size:=by
     have:=Wx.mem_iff.mp (List.getElem_mem hi);simpa using this
    refine(ei (pl[i]) es[pl[i]].1 (by simp [hi,rawInt]) ?_);simp [hi,hq]
   ·intro hi;rw [uQ] at hi;simp [hi]
  ·refine aa (if_neg (by refine(?_: ¬((!(w.params.followText "set-order") && (!t.plain && decide (es.size>1)))=true));simp [hz])) ?_;refine bp ?_;have next: ∀{A':qqG} {E':qq0->qq1->Prop} {s':qq1} {Q':Option (qq0×Nat)->qq1->Prop} (slot i:Nat),s'.heap.get? a=some oa->
     Q' (match es[SetTable.below t.place slot]?,t.place[SetTable.below t.place slot]? with|some (_,x),some j=>some (x,j+1)|_,_=>none) s'->qq3 (qq5 prog w) A' (setNext a slot i ep) Q' E' s':=by
    intro A' E' s' Q' slot i d6 FK;unfold setNext setsByText;refine ua (qz7 d6 hd hf ?_);dsimp only;refine ua (ua (qz2 (ud ?_)));refine aa (if_neg (by refine(?_: ¬(w.params.followText "set-order"=true));refine aa hb ?_;simp)) ?_;refine(?_:qq3 _ _ (if(!t.plain && decide (es.size>1))=true then unsupported "set_iterator.__next__:the-table-is-plain-no-more">>=_ else _) _ _ _);refine aa (if_neg (by simp [hz])) (?_:qq3 _ _ ((if(!t.led && !es.isEmpty)=true then unsupported "set:maker-not-led" else pure PUnit.unit)>>=_) _ _ _);refine aa (if_neg (by refine aa hl ?_;simp)) ?_;exact bp (ud FK)
   have hfs:t.place.size=es.size:=by
    simp only [SetTable.fits,uv,beq_iff_eq] at hf;exact hf.1
   by_cases h0:es.size=0
   ·have he:es= #[]:=Array.eq_empty_of_size_eq_zero h0;refine fin s a oa [] (λ_=>.int 0 0) ho ho (λ_ _ e=>e) rfl rfl ⟨ur _,.inl rfl⟩ (by exact aa he (.refl _)) λi hi=>.slot 0 0 rfl (λ_=>rfl) ?_;intro A' E' s' Q' d6 FK;refine next 0 i d6 ?_
    refine aa he ?_;simpa using FK
   ·have h1:es.size=1:=by exact VD hz h0
    refine ac (Array.size_eq_one_iff.mp h1) λe0 he=> ac (Array.size_eq_one_iff.mp (hfs.trans h1)) λj0 hj=>?_;have b0: ∀q,q<=j0->SetTable.below #[j0] q=0:=λq hq=>by
     exact Eq.trans (b:=if(0:Nat)<1 then(if j0<q then 1 else 0) else 0) (by kernel_rfl) (aa (if_pos Nat.one_pos) (aa (if_neg (qxA.mpr hq)) rfl))
    have b1:SetTable.below #[j0] (j0+1)=1:=by
     exact Eq.trans (b:=if(0:Nat)<1 then(if j0<j0+1 then 1 else 0) else 0) (by kernel_rfl) (aa (if_pos Nat.one_pos) (aa (if_pos (vz _)) rfl))
    refine fin s a oa [e0.2] (λi=>if i=0 then .int 0 0 else .int (j0+1:Nat) 0) ho ho (λ_ _ e=>e) rfl rfl ⟨ur _,.inl rfl⟩ (by exact aa he (.refl _)) λi hi=>?_;dsimp at hi;by_cases Sa:i=0
    ·subst Sa;refine .slot 0 (j0+1) rfl (λ_=>rfl) ?_;intro A' E' s' Q' d6 FK;refine next 0 0 d6 ?_
     refine aa he (aa hj ?_);refine aa (b0 0 (uG _)) ?_;simpa using FK
    ·have:i=1:=by exact VE hi Sa
     subst this;refine .slot (j0+1) 0 rfl (λq=>absurd q (by simp)) ?_;intro A' E' s' Q' d6 FK;refine next (j0+1) 1 d6 ?_
     refine aa he (aa hj ?_);refine aa b1 ?_;simpa using FK
theorem oS:typeLookup (.type "set") "__len__"=pure (some (.builtin "set.__len__")):=PySem.F.slot_set_len.lookup
theorem FL {a:qq7}(hT:s.TypeIs (.ref a) "set"){Q:Bool->qq1->Prop}(h:Q false s):qq3 (qq5 prog w) A (qxO (.ref a)) Q E s:=by
 delta qxO;refine ua (wpAny_specialOf hT oS ?_);generalize MW:("set.__len__":String)=id0
 wp_delta
 refine aa (show splitId id0=some ("set","__len__") from by subst MW;decide+kernel) ?_;subst MW;refine ua (qzM (T:= "set") (b:=true) hT (by rw [isSubtype_type];kernel_rfl) ?_);refine wpAny_ite_split (λUv=>absurd Uv (by decide)) (λ_=>?_);refine wpAny_ite_split (λ_=>?_) (λUv=>absurd (by decide+kernel) Uv);refine ua (wpAny_typeOf hT ?_);exact ud h
theorem zq {a:qq7}{l:List Str}{Q:List qq0->qq1->Prop}(hA:A.handled=none)(hS:dA prog w s.heap a l)
  (h: ∀vals s₁,(∃ts:List Tok,ts.length=l.length/\vals.Perm ((l.zip ts).map λp=>qq0.str p.1 p.2))->(∀b o,s.heap.get? b=some o->s₁.heap.get? b=some o)->s₁.gens=s.gens->s₁.os=s.os->Q vals s₁):
  qq3 (qq5 prog w) A (collect (.ref a)) Q E s:=by
 have YE:s.TypeIs (.ref a) "set":=jz hS λo _ _ _ ho hex _=>(aj o ho hex.1);have NY:l.length<=1000:=hS.choose_spec.choose_spec.choose_spec.choose_spec.2.2.2.2.2.1;delta collect;refine ua (wpAny_runValue (qqZ PySem.F.entry_proto_collect ?_));refine aa (qqS PySem.F.plain_proto_collect _) (?_:qq3 _ A.in1 (newList []>>=λl=>again (.builtin "list.__iadd__" ⟨[l,.ref a],[]⟩)) _ _ s);refine ua (qqA ?_);refine ud ⟨qzK PySem.F.plain_list_iadd _,qqZ PySem.F.entry_list_iadd ?_⟩;refine aa (qqS PySem.F.plain_list_iadd _) (?_:qq3 _ A.in1 (qxP (.ref s.heap.objs.size) (.ref a) (.ref s.heap.objs.size)) _ _ _);delta qxP
 let ol:Obj:={cls:= .type "list",data:= .seq ([]:List qq0).toArray}
 have RS:dA prog w (s.heap.push ol) a l:=by
  exact kK hS λo es ep t ho r=>(Cr o es ep t (uc _ ho) r)
 have hT:qq1.TypeIs {s with heap:=s.heap.push ol} (.ref a) "set":=by exact af YE λo ho hc=>(aj o (uc _ ho) hc)
 have halt:a<s.heap.objs.size:=by exact af YE λo ho ak=> ul ho
 refine ua (wpAny_typeOf hT ?_);have h1:Builtin.List.listSameRef (.ref s.heap.objs.size) (.ref a)=false:=by simp [Builtin.List.listSameRef];exact vA halt
 have h2:(qq0.type "set"==qq0.type "list")=false:=by rfl
 have h3:(qq0.type "set"==qq0.type "tuple")=false:=by assumption
 simp only [h1,h2,h3,qxX,uX,if_false];refine ua (FJ (s:={s with heap:=s.heap.push ol}) RS λs₁ I tp oa CO es ep vals first W st hI oO hk hg ho=>?_);refine af oO ?_;clear oO;intro ts oO Sb;have MX:s.heap.objs.size<I:=by
  have q:(s.heap.push ol).objs.size<=I:=hI.1;rw [uR] at q;exact q
 have hT1:s₁.TypeIs (.ref a) "set":=by exact af hT λo ho hc=>(aj o (hk _ _ ho) hc)
 have Wz:s₁.heap.get? s.heap.objs.size=some ol:=hk _ _ (ue _ rfl);have W1:=W A.in1 (by assumption);have YF:s.heap.objs.size∉ [I,a,tp]:=by
  intro q;refine ui (uY.mp q) (λq=>?_) λq=>?_
  ·exact uy MX q
  ·refine ui (uY.mp q) (λq=>?_) λq=>?_
   ·exact vA halt q
   ·have q:=qq2.mp q;refine ui hI.2 (λz=>?_) λz=>?_
    ·exact vA halt (q.trans z)
    ·have z:(s.heap.push ol).objs.size<=tp:=z;rewrite [uR] at z;replace z:=Eq.symm q▸z;exact qxK _ z
 have Sc:vals.length<=1000:=by refine aa Sb.length_eq ?_;simp;exact Ip NY
 have hWI:I∉([s.heap.objs.size]:List qq7):=λq=>vA MX (qq2.mp q);have fin: ∀{R:Result->qq1->Prop} (h2:qqK) (tk c:Nat),(∀b o,b≠s.heap.objs.size->s₁.heap.get? b=some o->h2.get? b=some o)->s₁.toks<=tk->h2.get? s.heap.objs.size=some {cls:= .type "list",dict:=none,data:= .seq #[] c,slots:= #[]}->
   (∀s' c',s'.heap.get? s.heap.objs.size=some {cls:= .type "list",dict:=none,data:= .seq vals.toArray c',slots:= #[]}->(∀b o,s.heap.get? b=some o->s'.heap.get? b=some o)->s'.gens=s.gens->s'.os=s.os->R (.ok (.ret (.ref s.heap.objs.size))) s')->
   qzZ (qq5 prog w) A (.builtin "list.extend.loop" ⟨[.ref s.heap.objs.size,.ref I,.ref s.heap.objs.size],[]⟩) R {s₁ with heap:=h2,toks:=tk}:=by
  intro R h2 tk c zr htk RY hR;refine codeAny_extend_loopS W1 (by exact aa sizeLine_eq (o0 Sc)) _ YF _ vals.length 0 {s₁ with heap:=h2,toks:=tk} #[] c rfl (uG _) (W1.frame 0 s₁ h2 tk st htk λb hb o e=>zr b o (λq=>YF (q▸hb)) e) RY (ItemsOf.nil _) λs' DB c' hm Bi Se=>?_;have e:DB=vals.toArray:=by
   apply Array.ext_getElem?;intro i;by_cases hi:i<DB.size
   ·have h1:DB[i]? =some DB[i]:=by simp [hi]
    have:=Se.2 i DB[i] h1;refine aa h1 (aa List.getElem?_toArray ?_);refine aa this ?_;rfl
   ·have:vals.length=DB.size:=Se.1.symm;refine aa (Array.getElem?_eq_none (M1 hi)) ?_;refine aa (Array.getElem?_eq_none (by simp;exact VF hi this)) ?_;rfl
  subst e;refine hR s' c' Bi (λb o e=>?_) (hm.gens.trans hg) (hm.os.trans ho);have hb:b<s.heap.objs.size:=ul e;refine hm.heap b o ?_ (zr b o (uy hb) (hk b o (uc _ e)));intro q;refine ui (uY.mp q) (λq=>?_) λq=>?_
  ·exact uy hb q
  ·exact uy (vj hb MX) (qq2.mp q)
 refine ua (qq8 (FL hT1 ?_));refine wpAny_ite_split (λ_=>?_) (λUv=>?_)
 ·refine ua (qzU ?_);refine ua (?_:qq3 _ A.in1 (updateSeq s.heap.objs.size (·.push .none)>>=λ_=>updateSeq s.heap.objs.size (·.pop)) _ _ _);refine ua (wpAny_updateSeq Wz rfl ?_);have LH:=uw (Obj.mapSeq (·.push qq0.none)) Wz rfl;refine wpAny_updateSeq (hz:=by seq_fits) LH rfl ?_;have Sf:=uw (Obj.mapSeq (·.pop)) LH rfl;refine ud ⟨qzK PySem.F.plain_extend_loop _,fin _ s₁.toks _ (λb o hb e=>(uI _ _ (Ne.symm hb)).trans ((uI _ _ (Ne.symm hb)).trans e)) (ur _) Sf λs' c' Bi jY L8 d6=>?_⟩;refine(?_:qq3 _ A (load s.heap.objs.size>>=_) _ _ s');refine ua (wpAny_load Bi ?_);exact ud (by simpa using h vals s' (aj ts oO Sb) jY L8 d6)
 ·refine ud ⟨qzK PySem.F.plain_extend_loop _,fin s₁.heap s₁.toks _ (λb o hb e=>e) (ur _) Wz λs' c' Bi jY L8 d6=>?_⟩;refine(?_:qq3 _ A (load s.heap.objs.size>>=_) _ _ s');refine ua (wpAny_load Bi ?_);exact ud (by simpa using h vals s' (aj ts oO Sb) jY L8 d6)
variable {X:Cx}{fr:List Env}{Av:qq7->Prop}{s':qq1}{H H':HS}{env:Env}{oa:Str->qq7}{ae:Loc}{m cm:Str->Option qq0}{n d:Nat}
theorem iH: ∀{vs:List qq0} {l:List Str},StrsAre vs l->cu X h Av (l.map .str) vs
 |_,_,.nil=>rfl|_,_,.cons y t r=>.cons ⟨t,rfl⟩ (iH r)
theorem Sg {l l':List Str}(hz:l.length<=2)(hp:l'.Perm l)(hs:sortedS l'=true):l'=yF l:=by
 match l,hz with
 | [],_=>simpa [yF] using hp| [a],_=>
  have:=List.perm_singleton.mp hp;assumption
 | [a,b],_=>
  have hl:=hp.length_eq
  match l',hl with
  | [x,y],_=>
   have h2: [x,y]= [a,b]\/ [x,y]= [b,a]:=by
    have hx:x∈ [a,b]:=hp.mem_iff.mp (by exact .head _);refine ui (uY.mp hx) ?_ ?_;intro az;subst az;rotate_left;intro hx;rotate_right
    ·left;have:=List.perm_singleton.mp ((List.perm_cons x).mp hp);simpa using this
    ·have hx:=qq2.mp hx;subst hx
     right
     have:=(List.perm_cons x).mp (hp.trans (List.Perm.swap x a []));have:=List.perm_singleton.mp this;simpa using this
   simp only [sortedS,PyProof.Rows.risingS,Bool.and_true,vJ,ltCps_eq,decide_eq_false_iff_not] at hs;dsimp only [yF,List.foldr,ot,strLt]
   (refine ui h2 (λh2=>?_) λh2=>?_)<;>simp only [List.cons.injEq,and_true] at h2<;>(refine ai h2 λaz ah=>?_;clear h2;subst az;subst ah)
   ·simp [hs]
   ·by_cases q:x.cps.toList<y.cps.toList
    ·simp [q]
    ·have:x=y:=by
      have e:=List.le_antisymm (List.not_lt.mp q) (List.not_lt.mp hs);cases x;cases y;simp at e⊢;exact Iff.mp Array.toList_inj (e.symm▸rfl)
     subst this;simp
theorem Br (B:ao X s.heap Av fr H)(hA:A.handled=none){l:List Str}(hz:l.length<=2)(hx:VV X s.heap Av (.sset l) v){Q E}(hQ: ∀v s',Ex X (aO fr) s s'->au X s'.heap Av H->VV X s'.heap Av (.list ((yF l).map .str)) v->Q v s'):
  qq3 (qq5 X.P X.w) A (call (.builtin "sorted") [v]) Q E s:=by
 refine aC hx λa ah na hS=>?_;clear hx;subst ah;refine Calls.call_function_entry kind_sorted plain_sorted entry_sorted (args_sorted1 _) ?_;delta Builtin.«sorted»;refine ua (m:=checkCount "sorted" 1 1 _) (ud ?_);refine ua (zq (by assumption) hS λvals s₁ zz hk hg ho=>?_);refine af zz λts oO hp=>?_;have Sc:vals.length=l.length:=by refine aa hp.length_eq ?_;simp;exact M0 oO
 have md: ∀v∈vals,∃x t,v=qq0.str x t:=λv hv=>by
  refine af (vM.mp (hp.mem_iff.mp hv)) λaz ah e=>?_;obtain⟨x,t⟩:=az;exact(cK x t e.symm)
 have W2:StrsAre vals (vals.map strOf):=strsAre_map vals md;have Sb:(vals.map strOf).Perm l:=by
  have:=hp.map strOf;replace this:=List.map_map▸this;have e:(l.zip ts).map (strOf∘λp=>qq0.str p.1 p.2)=l:=by
   refine(?_:(l.zip ts).map (λp=>p.1)=l);exact vo (OQ oO)
  replace this:=e▸this;exact this
 refine ua (wpAny_newList ?_ (by exact aa sizeLine_eq (VG hz Sc)));have A9:(s₁.heap.push (seqObj "list" vals.toArray 0)).get? s₁.heap.objs.size=some (seqObj "list" vals.toArray 0):=ue _ rfl;refine(?_:qq3 _ _ _ _ _ {s₁ with heap:=s₁.heap.push (seqObj "list" vals.toArray 0)});refine ua (qq8 (qqD slot_list_sort (aj _ A9 rfl) entry_list_sort (list_sort_treeK strKind_oneLt A9 W2.keysOf (λaa4 aa5 rest e=>keyKind_strs (by exact bq e W2)) (VH hz Sc) λFM a1 a2=>(aj _ rfl ?_)) (args_list_sort _)));refine aC (sorted_out_str W2 a1 a2) λss' g1 g2 g3=>?_;have hss:=Sg hz (g2.trans Sb) g3;subst hss;refine ac (sortedHeap_at (out:=(arrOf FM).map (·.2)) A9) λe he=>?_;have zr: ∀b o,s.heap.get? b=some o->(sortedHeap (s₁.heap.push (seqObj "list" vals.toArray 0)) s₁.heap.objs.size vals ((arrOf FM).map (·.2))).get? b=some o:=λb o e=>by
  have h1:=hk b o e;have hb:=ul h1;exact aa (sortedHeap_old (uy hb) (by rw [uR];exact vQ hb)) (uc _ h1)
 refine ud (aj _ rfl (hQ _ _ ⟨λb o e _ _=>zr b o e,λb o e _ _=>⟨o.slots,zr b o e⟩,hg,ho⟩ (au.ex (s':={s₁ with heap:=_}) B zr) ⟨s₁.heap.objs.size,_,rfl,?_,⟨e,he⟩,?_,iH g1⟩))
 ·refine B.fresh ?_;cases q:s.heap.get? s₁.heap.objs.size with
  |none=>rfl|some o=>exact absurd (ul (hk _ _ q)) (vg _)
 ·have:=g2.length_eq;simp at this⊢;exact VI hz Sc this
theorem FN {l:List α}(h:l.length<=2)(h2: ¬l.length<2): ∃a b,l= [a,b]:=by
 rcases l with _|⟨a,_|⟨b,_|⟨c,r⟩⟩⟩
 ·exact absurd (Nat.zero_lt_succ 1) h2
 ·exact absurd (vz 1) h2
 ·exact(cK a b rfl)
 ·exact absurd h (by simp)
theorem j_ {a:qq7}{vs:List qq0}{kvs:List (Str×qq0)}{P:PySem.Fin->qq1->Prop}(ho:s.heap.get? a=some (seqObj "list" vs.toArray n))(hz:vs.length<=2)(hl:kvs.length=vs.length)
  (hp: ∀(j:Nat) v,vs[j]? =some v-> ∃b t k x,v= .ref b/\b≠a/\kvs[j]? =some (k,x)/\s.heap.get? b=some {cls:= .type "tuple",data:= .seq #[.str k t,x]}) (hr:risingS (kvs.map (·.1))=true)
  (h: ∀h' c,h'.get? a=some (seqObj "list" vs.toArray c)->(∀b o,b≠a->s.heap.get? b=some o->h'.get? b=some o)->P (.done (.ret .none)) {s with heap:=h'}):
  qq3 (qq5 prog w) A (Builtin.«list.sort» ⟨[.ref a],[]⟩) P E s:=by
 have ha:a<s.heap.objs.size:=ul ho;rw [list_sort_plain];refine ua (listItems_at ho rfl ?_);refine ua (listUpdate_at ho rfl ?_ (by refine aa ve (aa sizeLine_eq ?_);exact OR hz) (uG _));refine ac (⟨_,get?_update_seq ho (λ_=>#[])⟩: ∃e1,(s.heap.update a (Obj.mapSeq λ_=>#[])).get? a=some (seqObj "list" #[] e1)) ?_;intro e1 A7;refine ua (seqEpoch_at A7 rfl ?_);refine ua (wpAny_newTuple ?_ (by refine(?_:vs.length<=_);exact aa sizeLine_eq (OR hz)));refine ua (wpAny_newList ?_ (uG _));refine qq8 ?_
 let hB:qqK:=((s.heap.update a (Obj.mapSeq λ_=>(#[]:Array qq0))).push (seqObj "tuple" vs.toArray 0)).push (seqObj "list" #[] 0)
 have kB: ∀b o,b≠a->s.heap.get? b=some o->hB.get? b=some o:=λb o hb e=>uc _ (uc _ (by refine aa (qxQ _ _ _ _ hb) ?_;exact e));have NZ:hB.get? a=some (seqObj "list" #[] e1):=uc _ (uc _ A7);refine(?_:qq3 (qq5 prog w) A _ P E {s with heap:=hB});dsimp only;have fin: ∀(out:Array qq0),out=vs.toArray->qq3 (qq5 prog w) A (do
   let after<-seqEpoch a
   Builtin.List.listUpdate (.ref a) λ_=>out
   pure after) (λafter s'=>after=e1/\ ∃h',s'={s with heap:=h'}/\P (.done (.ret .none)) {s with heap:=h'}) (λ_ _=>False) {s with heap:=hB}:=by
  intro out e;subst e;refine ua (seqEpoch_at NZ rfl ?_);refine ua (listUpdate_at NZ rfl ?_ (uG _) (by refine aa ve (aa sizeLine_eq ?_);exact OS hz));refine ud ⟨rfl,_,rfl,h _ _ (get?_update_seq NZ (λ_=>vs.toArray)) λb o hb e=>?_⟩;refine aa (qxQ _ _ _ _ hb) ?_;exact kB b o hb e
 have LI: ∀(out:Array qq0),out=vs.toArray-> ∀{k:Nat->Sem PySem.Fin},(∀h',P (.done (.ret .none)) {s with heap:=h'}->qq3 (qq5 prog w) A (k e1) P E {s with heap:=h'})->qq3 (qq5 prog w) A (do
   let after<-seqEpoch a
   Builtin.List.listUpdate (.ref a) λ_=>out
   k after) P E {s with heap:=hB}:=by
  intro out e k hk;subst e;refine ua (seqEpoch_at NZ rfl ?_);refine ua (listUpdate_at NZ rfl ?_ (uG _) (by refine aa ve (aa sizeLine_eq ?_);exact OS hz));refine hk _ (h _ _ (get?_update_seq NZ (λ_=>vs.toArray)) λb o hb e=>?_);refine aa (qxQ _ _ _ _ hb) ?_;exact kB b o hb e
 have hsz:vs.toArray.size=vs.length:=by rfl
 by_cases h2:vs.toArray.size<2
 ·refine aa (if_pos h2) (aa (if_pos h2) ?_);refine bp ?_;rw [StateT.run_pure];refine bp ?_;dsimp only;refine LI _ ?_ λh' hP=>?_
  ·refine(?_:((vs.toArray.zip vs.toArray).map (·.2))=vs.toArray);apply Array.toList_inj.mp;simp [List.map_snd_zip]
  ·simp only [bne_self_eq_false,uX,if_false];exact ud hP
 ·refine aa (if_neg h2) (aa (if_neg h2) ?_);refine aX (FN hz (by exact bq hsz h2)) ?_;intro v0 v1 e;subst e;refine aX (FN (l:=kvs) (uC hl) (by exact aa hl (vg 2))) ?_;intro az ah e;obtain⟨k0,x0⟩:=az;obtain⟨k1,x1⟩:=ah;subst e
  ·skip
   refine mI (hp 0 v0 rfl) λb0 t0 k0' x0' be n0 q0 g0=>?_;subst be;refine mI (hp 1 v1 rfl) λb1 t1 ID x1' be n1 q1 g1=>?_;subst be;simp at q0 q1;refine ai q0 λaz ah=>?_;clear q0;subst az;subst ah;refine ai q1 λaz ah=>?_;clear q1;subst az;subst ah;have d3:k0.cps.toList<k1.cps.toList:=by simpa [risingS,strLt] using hr
   have G0:=kB _ _ n0 g0;have G1:=kB _ _ n1 g1;refine ua (kat_kind (T:= .type "str") (fs:= [.str k0 t0,.str k1 t1]) (.cons G0 rfl rfl rfl (.cons G1 rfl rfl rfl .nil)) (by exact uH _) (λv hv=>?_) (by rfl) ?_)
   ·refine ui (uY.mp hv) ?_ ?_;intro az;subst az;rotate_left;intro hv;rotate_right
    ·exact .now
    ·exact aa (qq2.mp hv) .now
   ·have run:=kat_run (prog:=prog) (w:=w) (A:=A) (E:=E) (s:={s with heap:=hB}) (κ:=tuples' (qq0.type "str" !=qq0.type "tuple")) (vs:= [.ref b0,.ref b1]) (ks:= [.ref b0,.ref b1]) (G:=λp s'=>p= #[0,1]/\s'={s with heap:=hB})
     (Q:=λFM s'=>∃p:Array Nat,arrOf FM=p.map (kas_item ([qq0.ref b0,.ref b1].toArray.zip [qq0.ref b0,.ref b1].toArray))/\failedOf FM=none/\p= #[0,1]/\s'={s with heap:=hB}) rfl (by assumption) (by exact uj _ _) (λp' FM s' a1 a2 a3 a4=>(aV p' a2 a3 a4)) ?_
    ·refine ua (qqV run ?_ λ_ _ e=>e);rintro ⟨⟨⟩,FM⟩ s' ⟨p,W3,hf,rfl,rfl⟩;dsimp only;refine LI _ ?_ λh' hP=>?_
     ·have:=kat_snds (ks:= [qq0.ref b0,.ref b1]) (vs:= [.ref b0,.ref b1]) rfl W3;refine aa this ?_;rfl
     ·refine aa hf ?_;simp only [bne_self_eq_false,uX,if_false];exact ud hP
    ·refine af ((aj _ rfl rfl): ∃k:Bool->KasT (Array Nat),kas_sort 2= .ask 1 0 k/\k false= .ret #[0,1]) λk e ek=>(?_:(kas_sort 2).kasWp _ _ _);refine aa e (?_:kas_ask prog w A (tuples' true) [qq0.ref b0,.ref b1] 1 0 _ _);delta kas_ask;refine kat_lt (x:=b1) (y:=b0) G1 rfl G0 rfl (kat_cons (wpAny_eqBool_str ?_));have ne:decide (k1=k0)=false:=by refine Iff.mpr decide_eq_false_iff_not ?_;intro q;subst q;exact absurd d3 (List.lt_irrefl _)
     refine aa ne (kat_no (strKind_oneLt prog w A _ _ _ _ k1.cps.toList k0.cps.toList rfl rfl ?_));have nl:decide (k1.cps.toList<k0.cps.toList)=false:=by
      exact Iff.mpr decide_eq_false_iff_not (λq=>absurd (List.lt_trans q d3) (List.lt_irrefl _))
     refine(?_:KasT.kasWp _ (k (decide (k1.cps.toList<k0.cps.toList))) _ _);refine aa nl (aa ek ?_);exact⟨rfl,rfl⟩
theorem lc {h h':qqK}: ∀{ks:List Str} {vs:List AV} {ws:List qq0} {as:List qq7},cu X h Av vs ws->(∀b o,h.get? b=some o->h'.get? b=some o)->ks.length=ws.length->as.length=ks.length->
  (∀(j:Nat) a,as[j]? =some a-> ¬Av a/\ ∃t k x,(ks.zip ws)[j]? =some (k,x)/\gZ h' a #[.str k t,x])->cu X h' Av ((ks.zip vs).map λ(k,v)=>.tup [.str k,v]) (as.map qq0.ref)
 | [],vs,ws,as,r,hk,e1,e2,h=>by
  have:as= []:=List.length_eq_zero_iff.mp e2;subst this;rfl
 |k::ks,vs,ws,as,r,hk,e1,e2,h=>by
  induction ws using List.casesOn with
  |nil=>simp at e1|cons x ws=>
   induction vs using List.casesOn with
   |nil=>exact nomatch (show(_::_:List qq0)= [] from r)|cons v vs=>
    induction as using List.casesOn with
    |nil=>simp at e2|cons a as=>
     refine a8 r λx' r' e h1 h2=>?_;cases e;refine ai (h 0 a rfl) λna aI=>aB aI λt k' x' e3 hp=>?_;simp at e3;refine ai e3 λaz ah=>?_;clear e3;subst az;subst ah;refine .cons (mJ a _ rfl na hp (by exact uj _ _) (.cons ⟨t,rfl⟩ (.single (VR.chg (λb o e n=>⟨hk b o e,n⟩) _ _ h1)))) ?_;exact lc h2 hk (by simpa using e1) (by simpa using e2) λj a ha=>by simpa using h (j+1) a (by simpa using ha)
theorem oU (B:ao X s.heap Av fr H)(hA:A.handled=none){vs:List AV}(hr:risingS ks=true)(hz:ks.length<=2)(hx:VV X s.heap Av (.items ks vs) v)
  {Q E} (hQ: ∀v s',Ex X (aO fr) s s'->au X s'.heap Av H->VV X s'.heap Av (.list ((ks.zip vs).map λ(k,v)=>.tup [.str k,v])) v->Q v s'):
  qq3 (qq5 X.P X.w) A (call (.builtin "sorted") [v]) Q E s:=by
 refine d9 hx λb d ws c8 nb hv nd hd Fx r=>aU Fx λz1 z2 z3=>?_;clear Fx;subst c8;refine ac hd.dictAt λep Sh=> Calls.call_function_entry kind_sorted plain_sorted entry_sorted (args_sorted1 _) ?_;delta Builtin.«sorted»;refine ua (m:=checkCount "sorted" 1 1 _) (ud ?_);have zl:(ks.zip ws).length=ks.length:=by simp [z1]
 refine ua (kdx_collect (knd:=strKind X.P X.w) (by assumption) hv Sh (by refine aa zl (aa sizeLine_eq ?_);exact o0 z3) λh1 tk as hk hl hG=>?_);replace hl:=Eq.trans hl zl;refine ua (wpAny_newList ?_ (by rewrite [uQ];exact aa sizeLine_eq (yL z3 hl)))
 let vals:=as.map qq0.ref
 have A9:(h1.push (seqObj "list" vals.toArray 0)).get? h1.objs.size=some (seqObj "list" vals.toArray 0):=ue _ rfl;refine(?_:qq3 _ _ _ _ _ {s with heap:=h1.push (seqObj "list" vals.toArray 0),toks:=tk});have pairs: ∀(j:Nat) a,as[j]? =some a-> ¬Av a/\ ∃t k x,(ks.zip ws)[j]? =some (k,x)/\gZ h1 a #[.str k t,x]:=λj a ha=>by
  refine bT (hG.pairs j a ha) λkey k x e1 e2 e3=>?_;have hgt:s.heap.objs.size<a:=hG.above a (List.mem_of_getElem? ha);refine⟨B.fresh ?_,?_⟩
  ·cases q:s.heap.get? a with
   |none=>rfl|some o=>exact absurd (ul q) (Nat.lt_asymm hgt)
  ·have: ∃t,key= .str k t:=by
    have e2:qq0.isStrOf k key=true:=e2;cases key<;>simp [qq0.isStrOf] at e2;subst e2;exact⟨_,rfl⟩
   refine ac this λt ah=>?_;clear this;subst ah;exact(ct t k x e1 ⟨0,e3⟩)
 refine ua (qq8 (qqD slot_list_sort (aj _ A9 rfl) entry_list_sort (j_ (vs:=vals) (kvs:=ks.zip ws) A9 (by simp [vals];exact VJ hz hl) (by simp [vals,zl,hl]) (λj v hj=>?_) (by exact aa (vo (Io z1)) hr) λh2 c hg zr=>(aj _ rfl ?_)) (args_list_sort _)))
 ·simp only [vals,qzG,qqT] at hj;refine af hj λa ha ak=>?_;clear hj;subst ak;refine ai (pairs j a ha) λna aI=>aB aI λt k x e1 A6=> ac A6 λn e2=> bT (hG.pairs j a ha) λkey k' x' e1' e2' e3=>?_;have e4:=e2.symm.trans e3;injection e4 with e4
  injection e4 with _ _ e4
  injection e4 with _ e4
  subst e4;exact(eN a t k x rfl (uy (ul e2)) e1 (uc _ e2))
 ·have k2: ∀b o,h1.get? b=some o->h2.get? b=some o:=λb o e=>zr b o (uy (ul e)) (uc _ e);have k3: ∀b o,s.heap.get? b=some o->h2.get? b=some o:=λb o e=>k2 b o (hk b o e);refine ud (aj _ rfl (hQ _ _ (.of_keeps k3) (au.ex (s':={s with heap:=h2,toks:=tk}) B k3) ⟨h1.objs.size,_,rfl,?_,⟨c,hg⟩,?_,?_⟩))
  ·refine B.fresh ?_;cases q:s.heap.get? h1.objs.size with
   |none=>rfl|some o=>exact absurd (ul (hk _ _ q)) (vg _)
  ·simp;exact Ip z3
  ·have:=lc (h:=s.heap) (h':=h2) r k3 z1 hl λj a ha=>by
    refine ai (pairs j a ha) λna aI=>aB aI λt k x e1 A6=> ac A6 λn e2=>?_;exact⟨na,t,k,x,e1,n,k2 _ _ e2⟩
   simpa [vals] using this
theorem FO (B:ao X s.heap Av fr H)(hA:A.handled=none){x:AV}(hx:VV X s.heap Av x v)(e:Cm x=some r){Q E}(hQ: ∀v s',Ex X (aO fr) s s'->au X s'.heap Av H->VV X s'.heap Av r v->Q v s'):
  qq3 (qq5 X.P X.w) A (call (.builtin "sorted") [v]) Q E s:=by
 induction x using AV.casesOn with
 |sset l=>
  refine ai (NW e) λhz e=> al e λah=>?_;clear e;subst ah;exact Br B hA hz hx hQ
 |items ks vs=>
  refine ai (Dy e) λc e=> al e λah=>?_;clear e;subst ah;exact oU B hA (tt (tt c).1).1 (of_decide_eq_true (tt (tt c).1).2) hx hQ
 |_=>exact xNS e
theorem jF: ∀{l:List AV} {ks:List Str} {us:List qq0},AI l=some ks->cu X h Av l us->ks.length=us.length/\ ∀(i:Nat) v,us[i]? =some v-> ∃k t,v= .str k t/\ks[i]? =some k
 | [],ks,us,e,r=>by
  refine al e λah=>?_;clear e;subst ah;refine aa (show us= [] from r) ?_;exact⟨rfl,λi v h=>xNS h⟩
 |d::l,ks,us,e,r=>by
  refine a8 r λv r' ak h1 h2=>?_;clear r;subst ak
  induction d using AV.casesOn with
  |str k=>
   refine af (d5 e) λks' e0 ak=>?_;subst ak;refine ac h1 λt ah=>?_;clear h1;subst ah;refine ai (jF e0 h2) λg1 g2=>?_;refine⟨congrArg Nat.succ g1,λi v hv=>?_⟩;cases i with
   |zero=>refine al hv λah=>?_;clear hv;subst ah;exact(ei _ t rfl rfl)
   |succ i=>exact g2 i v hv
  |_=>exact xNS e
theorem Si (B:ao X s.heap Av fr H)(hA:A.handled=none){x:AV}(hx:VV X s.heap Av x v)(e:Oz x=some r){Q E}(hQ: ∀v s',Ex X (aO fr) s s'->au X s'.heap Av H->VV X s'.heap Av r v->Q v s'):
  qq3 (qq5 X.P X.w) A (call (.type "set") [v]) Q E s:=by
 induction x using AV.casesOn with
 |list l=>
  refine af (aG e) λks hks e=> ai (NW e) λhz e=> al e λah=>?_;clear e;subst ah;refine aP hx λa vs ak na pt z rr=>?_;clear hx;subst ak;refine ai (jF hks rr) λg1 g2=> mj hA pt (l:=ks) (by refine aa g1 ?_;rfl) (λi v hv=>g2 i v (by refine aa qqP ?_;exact hv)) (VK hz) λh' tk hS hk=>?_;exact hQ _ _ (.of_keeps hk) (au.ex (s':={s with heap:=h',toks:=tk}) B hk) ⟨_,rfl,B.size,hS⟩
 |_=>exact xNS e
theorem aF.one {x:AV}(r:cu X h Av [x] vs): ∃v,vs= [v]/\VV X h Av x v:=by
 refine a8 r λv r' ak h1 h2=>?_;clear r;subst ak;exact aa (show r'= [] from h2) (aj v rfl h1)
theorem ch {f:AV->Option AV}(hx:cu X h Av xs vs)(e:lY f xs=some r): ∃x v,vs= [v]/\VV X h Av x v/\f x=some r:=by
 induction xs using List.casesOn with
 |nil=>exact xNS e|cons x l=>
  induction l using List.casesOn with
  |nil=>exact af hx.one λv h1 h2=>(cq x v h1 h2 e)
  |cons _ _=>exact xNS e
theorem DC {f:AV->AV->Option AV}(hx:cu X h Av xs vs)(e:O2 f xs=some r): ∃x y v u,vs= [v,u]/\VV X h Av x v/\VV X h Av y u/\f x y=some r:=by
 induction xs using List.casesOn with
 |nil=>exact xNS e|cons x l=>
  induction l using List.casesOn with
  |nil=>exact xNS e|cons y l=>
   induction l using List.casesOn with
   |nil=>
    refine a8 hx λv r' ak h1 h2=>?_;clear hx;subst ak;refine af (aF.one h2) λu ah h3=>?_;subst ah;exact(eN x y v u rfl h1 h3 e)
   |cons _ _=>exact xNS e
theorem DD (B:ao X s.heap Av fr H)(hA:A.handled=none){f:String}(hx:cu X s.heap Av xs vs)(e:mD (.builtin f) xs=some r){Q E}(hQ: ∀v s',Ex X (aO fr) s s'->au X s'.heap Av H->VV X s'.heap Av r v->Q v s'):
  qq3 (qq5 X.P X.w) A (call (.builtin f) vs) Q E s:=by
 delta mD at e;dsimp only at e;by_cases h1:f= "len"
 ·rw [if_pos h1] at e;subst h1;refine a8 (ch hx e) λx v ak hv e=>?_;subst ak;exact RM B hv e hQ
 rw [if_neg h1] at e;by_cases h1:f= "sorted"
 ·rw [if_pos h1] at e;subst h1;refine a8 (ch hx e) λx v ak hv e=>?_;subst ak;exact FO B hA hv e hQ
 rw [if_neg h1] at e;by_cases h1:f= "isinstance"
 ·rw [if_pos h1] at e;subst h1;refine mI (DC hx e) λx y v u be hv hu e=>?_;subst be
  induction y using AV.casesOn with
  |glob g=>
   refine aa (show u=g from hu) ?_
   induction g using PySem.Value.casesOn with
   |type t=>
    have e:(if t= "tuple" then AJ x else if t= "str" then AK x else none)=some r:=e;by_cases h2:t= "tuple"
    ·replace e:=eS (if_pos h2) e;subst h2;exact I4 B hv e hQ
    ·replace e:=eS (if_neg h2) e;by_cases h3:t= "str"
     ·replace e:=eS (if_pos h3) e;subst h3;exact I5 B hv e hQ
     ·replace e:=eS (if_neg h3) e;exact xNS e
   |_=>exact xNS e
  |_=>exact xNS e
 rw [if_neg h1] at e;by_cases h1:f= "sum"
 ·rw [if_pos h1] at e;subst h1;refine a8 (ch hx e) λx v ak hv e=>?_;subst ak;exact RO hA B hv e hQ
 ·rw [if_neg h1] at e;exact xNS e
theorem DE (O:CxOk X)(B:ao X s.heap Av fr H)(hA:A.handled=none){f:String}(hx:cu X s.heap Av xs vs)(e:mD (.type f) xs=some r){Q E}(hQ: ∀v s',Ex X (aO fr) s s'->au X s'.heap Av H->VV X s'.heap Av r v->Q v s'):
  qq3 (qq5 X.P X.w) A (call (.type f) vs) Q E s:=by
 delta mD at e;dsimp only at e;by_cases h1:f= "tuple"
 ·rw [if_pos h1] at e;subst h1;refine a8 (ch hx e) λx v ak hv e=>?_;subst ak;exact I3 B hv e hQ
 rw [if_neg h1] at e;by_cases h1:f= "list"
 ·rw [if_pos h1] at e;subst h1;refine a8 (ch hx e) λx v ak hv e=>?_;subst ak;exact ML B hv e hQ
 rw [if_neg h1] at e;by_cases h1:f= "dict"
 ·rw [if_pos h1] at e;subst h1;refine a8 (ch hx e) λx v ak hv e=>?_;subst ak;exact MV O hA B hv e hQ
 rw [if_neg h1] at e;by_cases h1:f= "set"
 ·rw [if_pos h1] at e;subst h1;refine a8 (ch hx e) λx v ak hv e=>?_;subst ak;exact Si B hA hv e hQ
 rw [if_neg h1] at e;by_cases h1:f= "int"
 ·rw [if_pos h1] at e;subst h1;refine a8 (ch hx e) λx v ak hv e=>?_;subst ak;exact RN B hv e hQ
 rw [if_neg h1] at e;by_cases h1:f= "range"
 ·rw [if_pos h1] at e;subst h1;refine a8 (ch hx e) λx v ak hv e=>?_;subst ak;exact I6 B hv e hQ
 ·rw [if_neg h1] at e;exact xNS e
theorem FP (O:CxOk X)(hA:A.handled=none)(B:ao X s.heap Av fr H)(hx:cu X s.heap Av xs vs):
  bw X A fr Av s H (call f vs) (lift (mD f xs)):=by
 refine .lift λr e=>.of λQ E hQ=>?_
 induction f using PySem.Value.casesOn with
 |builtin f=>exact DD B hA hx e hQ|type f=>exact DE O B hA hx e hQ|_=>exact xNS e
theorem FQ (B:ao X s.heap Av fr H){x:AV}(hx:VV X s.heap Av x u)(hs:cu X s.heap Av xs vs)(e:kF x mn xs=some r):
  ∃id,mn=ag "items"/\id= "dict.items"/\bw X A fr Av s H (call (.builtin id) (u::vs)) (M.pure r)\/ ∃id,mn=ag "get"/\id= "dict.get"/\bw X A fr Av s H (call (.builtin id) (u::vs)) (M.pure r):=by
 induction x using AV.casesOn with
 |dict ks us=>
  induction xs using List.casesOn with
  |nil=>
   refine ai (cC (show(if mn=ag "items" then some (AV.items ks us) else none)=some r from e)) λq e=> aa (show vs= [] from hs) (bq e ?_);exact⟨_,.inl (aQ q rfl (.of λQ E hQ=>I8 B hx hQ))⟩
  |cons y ys=>
   induction y using AV.casesOn with
   |str k=>
    induction ys using List.casesOn with
    |nil=>
     refine ai (cC (show(if mn=ag "get" then some ((bK k ks us).getD .none) else none)=some r from e)) λq e=> af (aF.one hs) λv hv hw=> aa hv (bq e ?_);exact⟨"",.inr (aV _ q rfl (.of λQ E hQ=>RP B hx hw hQ))⟩
    |cons _ _=>exact xNS e
   |_=>exact xNS e
 |_=>exact xNS e
noncomputable def ins (Av:qq7->Prop)(Z:List qq7):qq7->Prop:=λb=>Av b\/b∈Z
variable {Av':qq7->Prop}
theorem aJ.keep (x:aJ X h env Av oa ae m cm)(k: ∀b o,h.get? b=some o->h'.get? b=some o)(h1: ∀b,Av b->Av' b)(h2: ∀b o,h.get? b=some o-> ¬Av b-> ¬Av' b):aJ X h' env Av' oa ae m cm:=
 have c:dB h Av h' Av':=λb o e n=>⟨k b o e,h2 b o e n⟩
 {kind:=x.kind,glb:=x.glb,bi:=x.bi,dbg:=x.dbg,cdt:=x.cdt,kinds:=x.kinds,ns:=x.ns.keeps k,cells:=λz cc e=>by
   exact af (x.cells z cc e) λo ho hd=>(aj o (k _ _ ho) hd),hasc:=x.hasc,avL:=h1 _ x.avL,avC:=λz cc e=>h1 _ (x.avC z cc e),apart:=x.apart,vals:=λz d e=>af (x.vals z d e) λv a1 a2=>(aj v a1 (VR.chg c d v a2)),owns:=λz ob e=>by
   refine bb (x.owns z ob e) λa1 a2 a3 a4 a5=>(cV a1 (h1 _ a2) a3 a4 ?_)
   induction ob using OB.casesOn with
   |list l=>
    exact aC a5 λvs ah z r=>ac ah λn hp=>(aV vs ⟨n,k _ _ hp⟩ z (aF.chg c _ _ r))
   |kd l=>
    refine c7 a5 λxs ah e1 r av=>eh ah λo es ep ho r1 r2 r3 r4 r5=>(cW xs (gG o es ep (k _ _ ho) r1 r2 r3 (λz hz=>?_) r5) e1 (aF.chg c _ _ r) (λz hz=>?_))
    ·refine aB (r4 z hz) λo1 i1 n1 g1 g2=>?_;exact⟨o1,i1,n1,k _ _ g1,g2⟩
    ·exact aB (r4 z hz) λo1 i1 n1 g1 g2=> h2 _ _ g1 (av z hz)
   |inst cc ks vs=>
    exact d9 a5 λdx es n av nl nh g1 g2 e1 r=>(fO dx es n (h1 _ av) nl nh (k _ _ g1) (k _ _ g2) e1 (aF.chg c _ _ r)),inj:=x.inj,solo:=x.solo,nL:=x.nL}
theorem au.move (x:au X h Av H)(c:dB h Av h' Av')(ha: ∀a,X.aH=some a->Av' a/\ ∀o,h.get? a=some o->h'.get? a=some o):au X h' Av' H:=by
 unfold au at x⊢;cases e:X.aH with
 |none=>replace x:=e▸x;exact x|some a=>
  replace x:=e▸x;refine ai x λav aI=>c7 aI λws gm l vs dt=> aB gm λo es ep ho r=>?_;exact⟨(ha a e).1,ws,(ct o es ep ((ha a e).2 o ho) r),l,aF.chg c _ _ vs,dt⟩
theorem ao.keep (x:ao X h Av fr H)(k: ∀b o,h.get? b=some o->h'.get? b=some o)(h1: ∀b,Av b->Av' b)(h2: ∀b o,h.get? b=some o-> ¬Av b-> ¬Av' b)(h3: ∀b,Av' b-> ∃o,h'.get? b=some o):ao X h' Av' fr H where
 base:=λb o e=>k b o (x.base b o e)
 off:=λb o e=>h2 b o (x.base b o e) (x.off b o e)
 live:=h3
 hand:=x.hand.move (λb o e n=>⟨k b o e,h2 b o e n⟩) λa e=>⟨h1 a (x.hand.av a e),λo ho=>k a o ho⟩
 frok:=λen he=>by
  refine ai (x.frok en he) λkk aI=>eg aI λL o hL av nH nb ho hc hn=>?_;exact⟨kk,L,o,hL,h1 L av,nH,nb,k L o ho,hc,hn⟩
theorem aJ.hide {o:Obj}(x:aJ X s.heap env Av oa ae m cm):aJ X (s.heap.push o) env (ins Av [s.heap.objs.size]) oa ae m cm:=
 x.keep (λ_ _ e=>uc _ e) (λb h=>.inl h) λb o e n q=>by
  refine ui q (λq=>?_) λq=>?_
  ·exact n q
  ·replace e:=(qq2.mp q)▸e;exact absurd (ul e) (vg _)
theorem ao.hide {o:Obj}(ho:o.isFreed=false)(x:ao X s.heap Av fr H):ao X (s.heap.push o) (ins Av [s.heap.objs.size]) fr H:=
 x.keep (λ_ _ e=>uc _ e) (λb h=>.inl h) (λb o e n q=>by
  refine ui q (λq=>?_) λq=>?_
  ·exact n q
  ·replace e:=(qq2.mp q)▸e;exact absurd (ul e) (vg _)) λb h=>by
  refine ui h (λh=>?_) λh=>?_
  ·refine ac (x.live b h) λo ho=>?_;exact⟨o,uc _ ho⟩
  ·refine aa (qq2.mp h) ?_;exact⟨_,ue _ ho⟩
theorem IE {Z:List qq7}(k: ∀b o,b∉Z->h.get? b=some o->h'.get? b=some o):dB h (ins Av Z) h' Av:=λb o e n=>⟨k b o (λq=>n (.inr q)) e,λq=>n (.inl q)⟩
theorem Ex.then_ {f:List qq7}(x:Ex X f s s')(k: ∀b o o',s.heap.get? b=some o->s'.heap.get? b=some o'->ty.heap.get? b=some o')(g:ty.gens=s'.gens)(o:ty.os=s'.os):Ex X f s ty:=
 ⟨λb o e a n=>k b o o e (x.keep b o e a n),λb o e a n=>by
  refine ac (x.slots b o e a n) λsl h=>?_;exact⟨sl,k b _ _ e h⟩,g.trans x.gens,o.trans x.os⟩
theorem fH.out {p:AV}{e:qq0}(IF: ∀b,Av b->Av' b)(f:fH X h h' Av' p e):fH X h h' Av p e:=f.chg λb o e n=>⟨e,λq=>n (IF b q)⟩
theorem au.out (IF: ∀b,Av b->Av' b)(ha: ∀a,X.aH=some a->Av a)(x:au X h Av' H):au X h Av H:=
 x.move (λb o e n=>⟨e,λq=>n (IF b q)⟩) λa e=>⟨ha a e,λo ho=>ho⟩
theorem At.from' {R R':qqK->α->β->Prop}{mm:M α}(B:ao X s.heap Av fr H)(B':ao X s'.heap Av' fr H')(x:Ex X (aO fr) s s')(IF: ∀b,Av b->Av' b)(h:At X A fr Av' R' s' H' t mm):
  ∀r H1,mm H'=some (r,H1)-> ∀(Q:β->qq1->Prop) (E:qq0->qq1->Prop),
  (∀d,r= .ok d-> ∀v s1,Ex X (aO fr) s' s1->au X s1.heap Av' H1->R' s1.heap d v->Q v s1)->
  (∀p,r= .error p-> ∀e s1,Ex X (aO fr) s s1->au X s1.heap Av H1->fH X s.heap s1.heap Av p e->E e s1)->
  qq3 (qq5 X.P X.w) A t Q E s':=λr H1 e Q E hQ hE=>
 h r H1 e Q E hQ λp q e' s1 y z f=>hE p q e' s1 (x.trans y) (z.out IF B.hand.av) ((fH.back B'.hand.av B' x f).out IF)
noncomputable def FR (env:Env)(pos:Pos):List (Option Expr)->List Expr->List (Sem qq0×Sem qq0)
 |some k::ks,v::vs=>(eval k env,do let x<-eval v env;qqU pos;pure x)::FR env pos ks vs|_,_=>[]
def hV (X:Cx)(Av:qq7->Prop)(ks:List Str)(h:qqK)(ds:List AV)(kvs:List (qq0×qq0)):Prop:=
 ∃ts:List Tok,ts.length=ks.length/\kvs.map (·.1)=(ks.zip ts).map (λp=>qq0.str p.1 p.2)/\cu X h Av ds (kvs.map (·.2))
theorem nk {env:Env}{pos:Pos}: ∀{keys:List (Option Expr)} {values:List Expr} {ks:List Str},keysOf keys=some ks->ks.length=values.length->
  (evalEachOpt keys env).zip ((evalEach values env).map λv=>do let x<-v;qqU pos;pure x)=(FR env pos keys values).map (λp=>(some p.1,p.2))/\(FR env pos keys values).length=ks.length
 | [],values,ks,h,e=>by
  obtain rfl:=ug h
  induction values using List.casesOn with
  |nil=>exact⟨rfl,rfl⟩|cons a l=>simp at e
 |k::keys,values,ks,h,e=>by
  refine jz (fS h) λs a p ks' be h' D5=>?_;subst be;subst D5
  induction values using List.casesOn with
  |nil=>simp at e|cons v vs=>
   refine ai (nk (env:=env) (pos:=pos) (values:=vs) h' (by simpa using e)) λh1 h2=>?_;refine⟨?_,congrArg (· +1) h2⟩;refine(congrArg (List.cons _) h1).trans ?_;rfl
theorem Bs (B:ao X s.heap Av fr H){pos:Pos}:At X A fr Av (hV X Av []) s H (evalPairs (FR env pos [] [])) (M.pure []):= .pure B (aV ([]) rfl rfl rfl)
theorem zt (B:ao X s.heap Av fr H){sk:Str}{a:Nat}{p pos:Pos}{v:Expr}{vs:List Expr}{m1:M AV}{m2:M (List AV)}
  (h1:Later X fr Av s λs1 H1=>bw X A fr Av s1 H1 (eval v env) m1) (h2:Later X fr Av s λs1 H1=>At X A fr Av (hV X Av ks) s1 H1 (evalPairs (FR env pos keys vs)) m2):
  At X A fr Av (hV X Av (sk::ks)) s H (evalPairs (FR env pos (some (.Constant (.str sk) a p)::keys) (v::vs))) (M.bind m1 λv=>M.bind m2 λvs=>M.pure (v::vs)):=by
 refine(?_:At _ _ _ _ _ _ _ (evalPairs ((eval (.Constant (.str sk) a p) env,do let x<-eval v env;qqU pos;pure x)::FR env pos keys vs)) _);rw [evalPairs];intro r H' e Q E hQ hE;refine ua (wpAny_Constant_str ?_);have x0:Ex X (aO fr) s {s with toks:=s.toks+1}:= .tok;have B0:ao X ({s with toks:=s.toks+1}:qq1).heap Av fr H:=B;have key:At X A fr Av (hV X Av (sk::ks)) {s with toks:=s.toks+1} H ((holding [qq0.str sk s.toks] (do let x<-eval v env;qqU pos;pure x))>>=λvv=>holding [qq0.str sk s.toks,vv] (evalPairs (FR env pos keys vs))>>=λrest=>pure ((qq0.str sk s.toks,vv)::rest)) (M.bind m1 λv=>M.bind m2 λvs=>M.pure (v::vs)):=by
  refine .bind (R1:=λh d v=>VV X h Av d v) B0 (.holding ?_) λd u s1 H1 x1 B1 v1=>?_
  ·have h1':=h1 _ H x0 B0;intro r H' e Q E hQ hE;exact ua (h1' r H' e _ _ (λd hd v s' x y z=>ua (qqF (ud (hQ d hd v s' x y z)))) hE)
  ·exact .bind B1 (.holding (h2 s1 H1 (x0.trans x1) B1)) λds kvs s2 H2 x2 B2 zz=> aC zz λts e1 e2 e3=> .pure B2 (aV (s.toks::ts) (by simp [e1]) (by simp [e2]) (.cons (VR.chg (B1.chg x2) _ _ v1) e3))
 exact key r H' e Q E (λd hd v s' x y z=>hQ d hd v s' (x0.trans x) y z) λp hp e' s' x y z=>hE p hp e' s' (x0.trans x) y (z.back B0.hand.av B0 x0)
theorem lh {P:qzJ}: ∀{ks:List Str} {ts:List Tok} {kvs:List (qq0×qq0)},ts.length=ks.length->kvs.map (·.1)=(ks.zip ts).map (λp=>qq0.str p.1 p.2)->Carries (strKind P w) kvs (ks.zip (kvs.map (·.2)))
 | [],[],[],_,_=>trivial| [],[],_::_,_,h=>by simp at h
 |k::ks,t::ts,[],_,h=>by simp at h
 |k::ks,t::ts,(a,b)::kvs,e,h=>by
  simp at h;refine ai h ?_;clear h;intro az h;subst az;exact(aQ cb rfl (lh (by simpa using e) h))
 | [],_::_,_,e,_=>by simp at e
 |_::_,[],_,e,_=>by simp at e
theorem IG (O:CxOk X)(B:ao X s.heap Av fr H){values:List Expr}{pos:Pos}{ms:M (List AV)}(hk:keysOf keys=some ks)(hl:ks.length=values.length)(hn:ks.Nodup)(Uw:ks.length<=15)(h0:ks≠ [])
  (h: ∀s',ao X s'.heap (ins Av [s.heap.objs.size]) fr H->s'={s with heap:=s.heap.push {cls:= .type "dict",data:= .dict #[]}}->At X A fr (ins Av [s.heap.objs.size]) (hV X (ins Av [s.heap.objs.size]) ks) s' H (evalPairs (FR env pos keys values)) ms):
  bw X A fr Av s H (eval (.Dict keys values pos) env) (M.bind ms λvs=>M.pure (.dict ks vs)):=by
 refine ai (nk (env:=env) (pos:=pos) hk hl) λsh shl=>?_;intro r H' e Q E hQ hE;have B':ao X (s.heap.push {cls:= .type "dict",data:= .dict #[]}) (ins Av [s.heap.objs.size]) fr H:=B.hide rfl;have x0:Ex X (aO fr) s {s with heap:=s.heap.push {cls:= .type "dict",data:= .dict #[]}}:= .push;have hh:=h _ B' rfl;have IF: ∀b,Av b->ins Av [s.heap.objs.size] b:=λb q=>.inl q;have YG: ∀a,X.aH=some a->a≠s.heap.objs.size:=λa e=>by
  exact ac (B.live a (B.hand.av a e)) λo ho=> uy (ul ho)
 have hsf:s.heap.objs.size∉aO fr:=λq=>B.size (B.frok.av q);refine wpAny_Dict_pairs (knd:=strKind X.P X.w) sh (λq=>h0 (by have:=congrArg List.length q;replace this:=eS shl this;exact List.length_eq_zero_iff.mp this)) (VL Uw shl) (b7 e ?_ ?_);intro p e1 ak;subst ak;rotate_left;intro a H1 e1 e2;rotate_right
 ·exact At.from' (R:=λ_ _ _=>True) B B' x0 IF hh _ _ e1 _ _ (λd q=>xE q) λp' q e' s' x y z=>hE p' (by refine jE q λah=>?_;clear q;subst ah;rfl) e' s' x y z
 ·refine At.from' (R:=λ_ _ _=>True) B B' x0 IF hh _ _ e1 _ _ (λdd q kvs s1 x1 y1 zz=>?_) (λp q=>xO q);refine aC zz λts g1 g2 g3=> jO q λah=>?_;clear q;subst ah;refine aN e2 λah ak=>?_;clear e2;subst ah;subst ak;have hd1:s1.heap.DictOf (strKind X.P X.w) s.heap.objs.size []:=by
   exact aB ((qqK.DictOf.new s.heap:(s.heap.push {cls:= .type "dict",data:= .dict #[]}).DictOf (strKind X.P X.w) s.heap.objs.size [])) λo es ep ho r=>(ct o es ep (x1.keep _ _ ho (λq=>YG _ q rfl) hsf) r)
  have lk:(kvs.map (·.2)).length=ks.length:=by
   have:=congrArg List.length g2;simp at this;simp [this];exact M0 g1
  have hm:merged [] (ks.zip (kvs.map (·.2)))=ks.zip (kvs.map (·.2)):=merged_nil_of_nodup _ (by exact aa (vo (OQ lk)) hn);refine(aV (ks.zip (kvs.map (·.2))) (lh g1 g2) hd1 (λh' fF ji=>?_));replace fF:=hm▸fF;have c:dB s1.heap (ins Av [s.heap.objs.size]) h' Av:=IE λb o hb e=>by exact aa (ji.2 b (λq=>hb (qq2.mpr q))) e
  have x2:Ex X (aO fr) s {s1 with heap:=h',toks:=s1.toks+kvs.length}:=(x0.trans x1).then_ (λb o o' e e'=>by
   refine(?_:h'.get? b=_);exact aa (ji.2 b (uy (ul e))) e') rfl rfl
  refine hQ _ rfl _ _ x2 ?_ ⟨_,kvs.map (·.2),rfl,B.size,fF,(aQ lk.symm (B.not1 O) (VM Uw)),aF.chg c _ _ g3⟩;exact y1.move c λa e=>⟨B.hand.av a e,λo ho=>by refine(?_:h'.get? a=_);exact aa (ji.2 a (YG a e)) ho⟩
theorem Bt {M:Model}{cls:qq0}{Q:Bool->qq1->Prop}(h: ∀b,Q b s):qq3 M A (Builtin.SmallTypes.calledThroughType cls) Q E s:=ua (wpAny_stack_any λst=>ud (h _))
theorem jk (l:qq7)(items:Array qq0)(n:Nat):
  Meets (Builtin.«enumerate.__new__» ⟨[.type "enumerate",.ref l],[]⟩) (λ_ R s=>s.heap.get? l=some {cls:= .type "tuple",data:= .seq items n}/\
   R (.ok (.ret (.ref (s.heap.push {cls:= .type "tuple_iterator",data:= .fields #[.ref l,.int 0 0]}).objs.size)))
    {s with heap:=(s.heap.push {cls:= .type "tuple_iterator",data:= .fields #[.ref l,.int 0 0]}).push {cls:= .type "enumerate",data:= .fields #[.none,.bool false,.ref s.heap.objs.size,rawInt 0,.none,.none]}}):=
 .of_wp λprog w A R s h=>by
  obtain⟨hp,g,d,tk,os⟩:=s;refine ai h ?_;clear h;intro hl h;have IC:=sub_enumerate;have hL:qqK.IsTuple (qq1.heap ⟨hp,g,d,tk,os⟩) l items:=⟨_,hl,rfl,n,rfl⟩;wp_walk using qx4 hl,Bt;intro b;cases b
  ·wp_walk using qx4 hl,wpAny_pyIter_tuple hL;exact(aj _ rfl h)
  ·wp_walk using qx4 hl,wpAny_pyIter_tuple hL;exact(aj _ rfl h)
theorem ka {l:qq7}{items:Array qq0}{Q:qq0->qq1->Prop}(hL:gZ s.heap l items)
  (h: ∀h',IsEnum h' (s.heap.objs.size+1) s.heap.objs.size 0 .none->h'.IsTupleIter s.heap.objs.size l 0->h'.objs.size=s.heap.objs.size+2->
   (∀b o,s.heap.get? b=some o->h'.get? b=some o)->Q (.ref (s.heap.objs.size+1)) {s with heap:=h'}):
  qq3 (qq5 prog w) A (call (.type "enumerate") [.ref l]) Q E s:=by
 refine ac hL λn hl=>?_;refine callType_new PySem.F.called_enumerate (by rfl) (PySem.F.typeCall_enumerate_1 _) (PySem.F.newCall_enumerate_1 _) (λobj=>PySem.F.args_object_init_2 obj _) PySem.F.entry_enumerate_new
  (jk l items n) ⟨hl,?_⟩
 have hz:(s.heap.push {cls:= .type "tuple_iterator",data:= .fields #[.ref l,.int 0 0]}).objs.size=s.heap.objs.size+1:=uR ..;refine(?_:_/\_);refine aa hz ?_;have he:IsEnum ((s.heap.push {cls:= .type "tuple_iterator",data:= .fields #[.ref l,.int 0 0]}).push
   {cls:= .type "enumerate",data:= .fields #[.none,.bool false,.ref s.heap.objs.size,rawInt 0,.none,.none]}) (s.heap.objs.size+1) s.heap.objs.size 0 .none:=by
  have:=ue (s.heap.push {cls:= .type "tuple_iterator",data:= .fields #[.ref l,.int 0 0]})
   (o:={cls:= .type "enumerate",data:= .fields #[.none,.bool false,.ref s.heap.objs.size,rawInt 0,.none,.none]}) rfl
  replace this:=hz▸this;exact this
 refine⟨(aj _ he rfl),h _ he (aV _ (uc _ (ue _ rfl)) rfl rfl) (by rewrite [uR];exact aa hz rfl) λb o x=>uc _ (uc _ x)⟩
theorem iI {it t:qq7}{items:Array qq0}{x:qq0}{Q:qq0->qq1->Prop}(hit:s.heap.IsTupleIter it t i)
  (ht:s.heap.IsTuple t items) (hx:items[i]? =some x)
  (hQ: ∀h',h'.IsTupleIter it t (i+1)->qqC it s.heap h'->Q x {s with heap:=h'}):
  qq3 (qq5 prog w) A (qqN (.ref it)) Q E s:=by
 refine aC (id hit) λo ho hc hd=> aC ht λol IH ak aI=>ac aI λnl II=>?_;delta qqN;refine ua (wpAny_callSpecial?_slot (name:=qqH "__next__") hit.typeIs PySem.F.slot_tuple_iterator_next
  (qqD PySem.F.slot_tuple_iterator_next hit.typeIs PySem.F.entry_tuple_iterator_next ?_ (PySem.F.args_tuple_iterator_next_1 _)))
 refine(?_:qq3 _ _ (field (.ref it) 0>>=_) _ _ s);refine ua (qqE ho hd (x:= .ref t) rfl ?_);refine(?_:qq3 _ _ (if(qq0.ref t==qq0.none)=true then _ else _) _ _ s);refine aa (if_neg (show ¬((qq0.ref t==qq0.none)=true) from uB)) (?_:qq3 _ _ (field (.ref it) 1>>=_) _ _ s);refine ua (qqE ho hd (x:= .int i 0) rfl ?_);refine(?_:qq3 _ _ (seqItems? (.ref t)>>=_) _ _ s);refine ua (qzC IH II ?_);simp only [vk,hx];refine ua (qzN ho hd (by exact ur _) (ud (aj x rfl (ud (hQ _ ?_ (qqC.update ..))))));exact(aV _ (uw _ ho (qzA (qzB hd _))) ((Obj.cls_mapFields ..).trans hc) (by
  rw [qzB hd];rfl))
theorem jl {it t:qq7}{items:Array qq0}{Q:qq0->qq1->Prop}(hh:A.handled=none)(hit:s.heap.IsTupleIter it t i)
  (ht:s.heap.IsTuple t items) (hx:items[i]? =none)
  (hE: ∀h' e,qqK.ExtBut it s.heap h'->(∃o,h'.get? e=some o/\o.cls= .type "StopIteration")->E (.ref e) {s with heap:=h'}):
  qq3 (qq5 prog w) A (qqN (.ref it)) Q E s:=by
 refine aC (id hit) λo ho hc hd=> aC ht λol IH ak aI=>ac aI λnl II=>?_;delta qqN;refine ua (wpAny_callSpecial?_slot (name:=qqH "__next__") hit.typeIs PySem.F.slot_tuple_iterator_next
  (qqD PySem.F.slot_tuple_iterator_next hit.typeIs PySem.F.entry_tuple_iterator_next ?_ (PySem.F.args_tuple_iterator_next_1 _)))
 refine(?_:qq3 _ _ (field (.ref it) 0>>=_) _ _ s);refine ua (qqE ho hd (x:= .ref t) rfl ?_);refine(?_:qq3 _ _ (if(qq0.ref t==qq0.none)=true then _ else _) _ _ s);refine aa (if_neg (show ¬((qq0.ref t==qq0.none)=true) from uB)) (?_:qq3 _ _ (field (.ref it) 1>>=_) _ _ s);refine ua (qqE ho hd (x:= .int i 0) rfl ?_);refine(?_:qq3 _ _ (seqItems? (.ref t)>>=_) _ _ s);refine ua (qzC IH II ?_);simp only [vk,hx];refine ua (qzU (ua (qzN ho hd (by exact uq _ _) ?_)));refine(?_:qq3 _ _ (newExc (.type "StopIteration") []>>=_) _ _ _);refine ua ?_;dsimp only [newExc,newTuple];refine ua (qqA ?_ (by size_fits));refine ua (m:=firstArgMember _ _) (qzR (a:=qq0.none) (by first|rfl|(simp only [firstArgMember];rfl)) ?_);refine qqA ?_ (by size_fits);dsimp only [raiseNew];refine ua (wpAny_handled ?_)
 first|refine aa (show A.in1.handled=none from hh) ?_|rw [hh]
 refine bp (wpAny_throw ?_);exact hE _ _ (((qqC.update ..).extBut.push _).push _) (aj _ (ue _ rfl) rfl)
theorem jG {prog:qzJ}{w:World}{A:qqG}(hh:A.handled=none)(it l:qq7)(CL:l≠it)(items:Array qq0):
  Draws prog w A it [it,l] items.size (λi v=>items[i]? =some v) (λi h=>h.IsTupleIter it l i/\h.IsTuple l items) where
 live:=λ_ _ st=>af st.1 λo ho _=>⟨o,ho⟩
 frame:=λ_ _ _ st hk=>⟨st.1.at λo e=>hk it (by exact .head _) o e,st.2.at λo e=>hk l (by exact .tail _ (.head _)) o e⟩
 item:=λi s Q E hi st hQ=>by
  exact iI st.1 st.2 (x:=items[i]) (by simp [hi]) λh' lj ji=> hQ _ h' s.toks (by simp [hi]) ⟨lj,st.2.extBut ji.extBut CL⟩ ji
 done:=λs Q E st hE=>jl hh st.1 st.2 (by simp) hE
def nq (h h':qqK):Prop:= ∀b o,h.get? b=some o-> ∃o',h'.get? b=some o'
theorem zu (hh:A.handled=none){Q:α->qq1->Prop}(hE: ∀h' x,(∀b o,s.heap.get? b=some o->h'.get? b=some o)->(∃o,h'.get? x=some o/\o.cls= .type "StopIteration")->E (.ref x) {s with heap:=h'}):
  qq3 (qq5 prog w) A (newExc (.type "StopIteration") []>>=λe=>(raiseNew e:Sem α)) Q E s:=by
 refine ua ?_;dsimp only [newExc,newTuple];refine ua (qqA ?_ (by size_fits));refine ua (m:=firstArgMember _ _) (qzR (a:=qq0.none) (by first|rfl|(simp only [firstArgMember];rfl)) ?_);refine qqA ?_ (by size_fits);dsimp only [raiseNew];refine ua (wpAny_handled ?_);refine aa hh (bp (wpAny_throw ?_));exact hE _ _ (λb o e=>uc _ (uc _ e)) (aj _ (ue _ rfl) rfl)
theorem DF {it:qq7}{x left step:Int}{Q:Option qq0->qq1->Prop}(hh:A.handled=none)(hit:IsRangeIter s.heap it x left step)(Sj:left<=0)
  (hQ: ∀h',(∀b o,b∉ [it]->s.heap.get? b=some o->h'.get? b=some o)/\nq s.heap h'->Q none {s with heap:=h'}):qq3 (qq5 prog w) A (pyNext (.ref it)) Q E s:=by
 have hT:s.TypeIs (.ref it) "range_iterator":=(aj _ hit rfl);delta pyNext;refine ua (qzL (wpAny_callSpecial?_slot (name:=qqH "__next__") hT F.slot_range_iterator_next
  (qqD F.slot_range_iterator_next hT F.entry_range_iterator_next ?_ (F.args_range_iterator_next_1 _))))
 refine(?_:qq3 _ _ (field (.ref it) 0>>=_) _ _ s);refine ua (qqE hit rfl (x:=rawInt x) rfl ?_);refine(?_:qq3 _ _ (field (.ref it) 1>>=_) _ _ s);refine ua (qqE hit rfl (x:=rawInt left) rfl ?_);refine(?_:qq3 _ _ (field (.ref it) 2>>=_) _ _ s);refine ua (qqE hit rfl (x:=rawInt step) rfl ?_);refine(?_:qq3 _ _ (if left<=0 then _ else _) _ _ s);refine aa (if_pos Sj) (ua (qzU ?_));refine ua (?_:qq3 _ _ (newExc (.type "StopIteration") []>>=_) _ _ _);refine zu (by exact aa (show A.in1.handled=none from hh) rfl) λh' x k hx=> af hx λo ho hc=> ua (qzM (T:= "StopIteration") (b:=true) (aj o ho hc) isSubtype_stop ?_);exact ud (hQ _ ⟨λb o _ e=>k b o e,λb o e=>⟨o,k b o e⟩⟩)
theorem jm (hh:A.handled=none){it:qq7}{o:Obj}{vs:Array qq0}(ho:s.heap.get? it=some o)(hd:o.data= .fields vs)(hz:0<vs.size){r:String}{Q:α->qq1->Prop}
  (hE: ∀h' x,(∀b o,b≠it->s.heap.get? b=some o->h'.get? b=some o)->nq s.heap h'->(∃o,h'.get? x=some o/\o.cls= .type "StopIteration")->E (.ref x) {s with heap:=h'}):
  qq3 (qq5 prog w) A (rule r>>=λ_=>setField (.ref it) 0 .none>>=λ_=>newExc (.type "StopIteration") []>>=λe=>(raiseNew e:Sem α)) Q E s:=by
 have MY:=qzB hd (·.setIfInBounds 0 qq0.none);have h4:=uw (Obj.mapFields (·.setIfInBounds 0 qq0.none)) ho (qzA MY);refine ua (qzU (ua (qzN ho hd hz ?_)));have zv: ∀b,b≠it->(s.heap.update it (Obj.mapFields (·.setIfInBounds 0 qq0.none))).get? b=s.heap.get? b:=λb hb=>uI _ _ (Ne.symm hb);refine zu hh λh' x k hx=>hE h' x (λb o hb e=>k b o ((zv b hb).trans e)) (λb o e=>?_) hx;by_cases q:b=it
 ·subst q;exact⟨_,k _ _ h4⟩
 ·exact⟨o,k b o ((zv b q).trans e)⟩
theorem FS {it l:qq7}{items:Array qq0}{Q:Option qq0->qq1->Prop}(hh:A.handled=none)(hit:s.heap.IsListIter it l i)(hl:s.heap.IsList l items)(hx:items[i]? =none)
  (hQ: ∀h',(∀b o,b∉ [it]->s.heap.get? b=some o->h'.get? b=some o)/\nq s.heap h'->Q none {s with heap:=h'}):qq3 (qq5 prog w) A (pyNext (.ref it)) Q E s:=by
 refine aC (id hit) λo ho hc hd=> aC hl λol IH ak aI=>ac aI λnl II=>?_;delta pyNext;refine ua (qzL (wpAny_callSpecial?_slot (name:=qqH "__next__") hit.typeIs slot_listiter_next
  (qqD slot_listiter_next hit.typeIs entry_listiter_next ?_ (args_listiter_next _))))
 refine(?_:qq3 _ _ (field (.ref it) 0>>=_) _ _ s);refine ua (qqE ho hd (x:= .ref l) rfl ?_);refine(?_:qq3 _ _ (if(qq0.ref l==qq0.none)=true then _ else _) _ _ s);refine aa (if_neg (show ¬((qq0.ref l==qq0.none)=true) from uB)) (?_:qq3 _ _ (field (.ref it) 1>>=_) _ _ s);refine ua (qqE ho hd (x:= .int i 0) rfl ?_);refine(?_:qq3 _ _ (seqItems? (.ref l)>>=_) _ _ s);refine ua (qzC IH II ?_);simp only [vk,hx];refine jm (by exact aa (show A.in1.handled=none from hh) rfl) ho hd (by exact uq _ _) λh' x k lv iz=> af iz λo ho hc=> ua (qzM (T:= "StopIteration") (b:=true) (aj o ho hc) isSubtype_stop ?_);exact ud (hQ _ ⟨λb o hb e=>k b o (λq=>hb (by simp [q])) e,lv⟩)
theorem DG {it l:qq7}{items:Array qq0}{Q:Option qq0->qq1->Prop}(hh:A.handled=none)(hit:s.heap.IsTupleIter it l i)(hl:s.heap.IsTuple l items)(hx:items[i]? =none)
  (hQ: ∀h',(∀b o,b∉ [it]->s.heap.get? b=some o->h'.get? b=some o)/\nq s.heap h'->Q none {s with heap:=h'}):qq3 (qq5 prog w) A (pyNext (.ref it)) Q E s:=by
 refine aC (id hit) λo ho hc hd=> aC hl λol IH ak aI=>ac aI λnl II=>?_;delta pyNext;refine ua (qzL (wpAny_callSpecial?_slot (name:=qqH "__next__") hit.typeIs F.slot_tuple_iterator_next
  (qqD F.slot_tuple_iterator_next hit.typeIs F.entry_tuple_iterator_next ?_ (F.args_tuple_iterator_next_1 _))))
 refine(?_:qq3 _ _ (field (.ref it) 0>>=_) _ _ s);refine ua (qqE ho hd (x:= .ref l) rfl ?_);refine(?_:qq3 _ _ (if(qq0.ref l==qq0.none)=true then _ else _) _ _ s);refine aa (if_neg (show ¬((qq0.ref l==qq0.none)=true) from uB)) (?_:qq3 _ _ (field (.ref it) 1>>=_) _ _ s);refine ua (qqE ho hd (x:= .int i 0) rfl ?_);refine(?_:qq3 _ _ (seqItems? (.ref l)>>=_) _ _ s);refine ua (qzC IH II ?_);simp only [vk,hx];refine jm (by exact aa (show A.in1.handled=none from hh) rfl) ho hd (by exact uq _ _) λh' x k lv iz=> af iz λo ho hc=> ua (qzM (T:= "StopIteration") (b:=true) (aj o ho hc) isSubtype_stop ?_);exact ud (hQ _ ⟨λb o hb e=>k b o (λq=>hb (by simp [q])) e,lv⟩)
theorem DH {it t:qq7}{items:Array qq0}{Q:qq0->qq1->Prop}(hh:A.handled=none)(hit:s.heap.IsTupleIter it t i)
  (ht:s.heap.IsTuple t items) (hx:items[i]? =none)
  (hE: ∀h' e,(∀b o,b≠it->s.heap.get? b=some o->h'.get? b=some o)->nq s.heap h'->(∃o,h'.get? e=some o/\o.cls= .type "StopIteration")->E (.ref e) {s with heap:=h'}):
  qq3 (qq5 prog w) A (qqN (.ref it)) Q E s:=by
 refine aC (id hit) λo ho hc hd=> aC ht λol IH ak aI=>ac aI λnl II=>?_;delta qqN;refine ua (wpAny_callSpecial?_slot (name:=qqH "__next__") hit.typeIs PySem.F.slot_tuple_iterator_next
  (qqD PySem.F.slot_tuple_iterator_next hit.typeIs PySem.F.entry_tuple_iterator_next ?_ (PySem.F.args_tuple_iterator_next_1 _)))
 refine(?_:qq3 _ _ (field (.ref it) 0>>=_) _ _ s);refine ua (qqE ho hd (x:= .ref t) rfl ?_);refine(?_:qq3 _ _ (if(qq0.ref t==qq0.none)=true then _ else _) _ _ s);refine aa (if_neg (show ¬((qq0.ref t==qq0.none)=true) from uB)) (?_:qq3 _ _ (field (.ref it) 1>>=_) _ _ s);refine ua (qqE ho hd (x:= .int i 0) rfl ?_);refine(?_:qq3 _ _ (seqItems? (.ref t)>>=_) _ _ s);refine ua (qzC IH II ?_);simp only [vk,hx];exact jm (by first|(exact aa (show A.in1.handled=none from hh) rfl)|exact hh) ho hd (by exact uq _ _) λh' x k lv iz=>hE h' x k lv iz
theorem FT {e it l:qq7}{items:Array qq0}{old:qq0}{Q:Option qq0->qq1->Prop}(hh:A.handled=none)
  (he:IsEnum s.heap e it i old) (hit:s.heap.IsTupleIter it l i) (hl:s.heap.IsTuple l items) (hx:items[i]? =none)
  (hQ: ∀h',(∀b o,b∉ [it]->s.heap.get? b=some o->h'.get? b=some o)/\nq s.heap h'->Q none {s with heap:=h'}):qq3 (qq5 prog w) A (pyNext (.ref e)) Q E s:=by
 have hT:s.TypeIs (.ref e) "enumerate":=(aj _ he rfl);delta pyNext;refine ua (qzL (wpAny_callSpecial?_slot (name:=qqH "__next__") hT F.slot_enumerate_next
  (qqD F.slot_enumerate_next hT F.entry_enumerate_next ?_ (F.args_enumerate_next_1 _))))
 refine(?_:qq3 _ _ (field (.ref e) 2>>=_) _ _ _);refine ua (qqE he rfl (x:= .ref it) rfl ?_);refine ua (DH (by first|(exact aa (show A.in1.handled=none from hh) rfl)|exact hh) hit hl hx λh' x k lv iz=>?_);refine af iz λo ho hc=> ua (qzM (T:= "StopIteration") (b:=true) (aj o ho hc) isSubtype_stop ?_);exact ud (hQ _ ⟨λb o hb e=>k b o (λq=>hb (by simp [q])) e,lv⟩)
structure LJ (Z:List qq7)(s s':qq1):Prop where
 keep: ∀b o,b∉Z->s.heap.get? b=some o->s'.heap.get? b=some o
 live: ∀b o,s.heap.get? b=some o-> ∃o',s'.heap.get? b=some o'
 gens:s'.gens=s.gens
 os:s'.os=s.os
theorem LJ.refl (Z:List qq7)(s:qq1):LJ Z s s:=⟨λ_ _ _ e=>e,λb o e=>⟨o,e⟩,rfl,rfl⟩
structure oV (X:Cx)(A:qqG)(target:Expr)(I:qq7)(Z fp:List qq7)(items:List AV)(Good:qqK->(qq7->Prop)->Prop)(St:Nat->qqK->Prop):Prop where
 frame: ∀i h h',St i h->(∀b∈fp,∀o,h.get? b=some o->h'.get? b=some o)->St i h'
 good: ∀h Av h' Av',Good h Av->dB h Av h' Av'->Good h' Av'
 item: ∀i d (Av':qq7->Prop) (s:qq1) (Q:Option qq0->qq1->Prop) (E:qq0->qq1->Prop),items[i]? =some d->St i s.heap->Good s.heap Av'->(∀b,Av' b-> ∃o,s.heap.get? b=some o)->(∀b∈Z,Av' b)->
  (∀v s1,LJ Z s s1->(∀(Q':Unit->qq1->Prop) (E':qq0->qq1->Prop),(∀s2,LJ Z s1 s2->St (i+1) s2.heap->VV X s2.heap Av' d v->Q' () s2)->qq3 (qq5 X.P X.w) A (letOwnedTupleGo target (.ref I) v) Q' E' s1)->Q (some v) s1)->
  qq3 (qq5 X.P X.w) A (pyNext (.ref I)) Q E s
 done: ∀(s:qq1) (Q:Option qq0->qq1->Prop) (E:qq0->qq1->Prop),St items.length s.heap->(∀s1,LJ Z s s1->Q none s1)->qq3 (qq5 X.P X.w) A (pyNext (.ref I)) Q E s
 self: ∀i (s:qq1) (Q:qq0->qq1->Prop) (E:qq0->qq1->Prop),St i s.heap->Q (.ref I) s->qq3 (qq5 X.P X.w) A (pyIter (.ref I)) Q E s
theorem lm {target:Expr}{I:qq7}{o:Obj}{T:String}{vs:Array qq0}(ho:s.heap.get? I=some o)(hc:o.cls= .type T)(hd:o.data= .fields vs)
  (hT:(["enumerate","zip","dict_itemiterator","dict_reverseitemiterator","odict_iterator","itertools.zip_longest","itertools.pairwise"]:List String).contains T=false) (v:qq0) {Q:Unit->qq1->Prop} {E:qq0->qq1->Prop} (h:Q () s):
  qq3 (qq5 X.P X.w) A (letOwnedTupleGo target (.ref I) v) Q E s:=by
 delta letOwnedTupleGo;have key:qq3 (qq5 X.P X.w) A (do
   let (.ref r,.ref a):=(qq0.ref I,v)|return
   let o<-load r
   match o.cls,o.data with
   | .type n,.fields vs=>
    if ["enumerate","zip","dict_itemiterator","dict_reverseitemiterator","odict_iterator","itertools.zip_longest","itertools.pairwise"].contains n && vs[0]? ==some (rawInt a) then
     rule "for.unpacks-the-owned-tuple"
     updateField r 0 .none
   |_,_=>pure ()) Q E s:=by
  cases v<;>try exact ud h
  refine ua (wpAny_load ho ?_);refine aa hc (aa hd ?_);dsimp only;refine aa hT ?_;rewrite [Bool.false_and];exact aa (if_neg (by decide)) (ud h)
 cases target<;>first|exact ud h|exact key
theorem ln {Z:List qq7}{tk:Nat}(k: ∀b o,b∉Z->s.heap.get? b=some o->h'.get? b=some o)(hZ: ∀b∈Z,∃o,h'.get? b=some o):LJ Z s {s with heap:=h',toks:=tk}:=
 ⟨k,λb o e=>by
  by_cases q:b∈Z
  ·exact hZ b q
  ·exact⟨o,k b o q e⟩,rfl,rfl⟩
theorem nt (hA:A.handled=none){target:Expr}{I ax:qq7}(CL:ax≠I){items:List AV}(hl:vals.size=items.length):
  oV X A target I [I] [I,ax] items (λh Av=>cu X h Av items vals.toList) (λi h=>h.IsListIter I ax i/\h.IsList ax vals) where
 frame:=λ_ _ _ st hk=>(Walks.list (prog:=X.P) (w:=X.w) hA I ax CL vals).frame _ _ _ st hk
 good:=λ_ _ _ _ g c=>aF.chg c _ _ g
 item:=λi d Av' s Q E hi st g CR hZ hQ=>by
  refine af (aF.getA i g hi) λv e1 e2=>(wpAny_pyNext_list_item st.1 st.2 e1 λh' lj ji=>?_);have k1: ∀b o,b∉ [I]->s.heap.get? b=some o->h'.get? b=some o:=λb o hb e=>ji.extBut b o (λh=>hb (by simp [h])) e;have FM:h'.IsListIter I ax (i+1)/\h'.IsList ax vals:=⟨lj,st.2.extBut ji.extBut CL⟩;refine aC (id lj) λo ho hc hd=> hQ v {s with heap:=h'} (ln (tk:=s.toks) k1 λb hb=>⟨o,by exact aa (qq2.mp hb) ho⟩) λQ' E' hq=>lm (s:={s with heap:=h'}) ho hc hd (by rfl) v (hq _ (.refl _ _) FM (VR.chg (λb o e n=>⟨k1 b o (λq=>n (hZ b q)) e,n⟩) _ _ e2))
 done:=λs Q E st hQ=>FS hA st.1 st.2 (by simp [hl]) λh' he=>hQ _ ⟨he.1,he.2,rfl,rfl⟩
 self:=λi s Q E st hQ=>wpAny_pyIter_listiter st.1 hQ
theorem iter_tuple (hA:A.handled=none){target:Expr}{I ax:qq7}(CL:ax≠I){items:List AV}(hl:vals.size=items.length):
  oV X A target I [I] [I,ax] items (λh Av=>cu X h Av items vals.toList) (λi h=>h.IsTupleIter I ax i/\h.IsTuple ax vals) where
 frame:=λ_ _ _ st hk=>(Walks.tuple (prog:=X.P) (w:=X.w) hA I ax CL vals).frame _ _ _ st hk
 good:=λ_ _ _ _ g c=>aF.chg c _ _ g
 item:=λi d Av' s Q E hi st g CR hZ hQ=>by
  refine af (aF.getA i g hi) λv e1 e2=>(wpAny_pyNext_tuple_item st.1 st.2 e1 λh' lj ji=>?_);have k1: ∀b o,b∉ [I]->s.heap.get? b=some o->h'.get? b=some o:=λb o hb e=>ji.extBut b o (λh=>hb (by simp [h])) e;have FM:h'.IsTupleIter I ax (i+1)/\h'.IsTuple ax vals:=⟨lj,st.2.extBut ji.extBut CL⟩;refine aC (id lj) λo ho hc hd=> hQ v {s with heap:=h'} (ln (tk:=s.toks) k1 λb hb=>⟨o,by exact aa (qq2.mp hb) ho⟩) λQ' E' hq=>lm (s:={s with heap:=h'}) ho hc hd (by rfl) v (hq _ (.refl _ _) FM (VR.chg (λb o e n=>⟨k1 b o (λq=>n (hZ b q)) e,n⟩) _ _ e2))
 done:=λs Q E st hQ=>DG hA st.1 st.2 (by simp [hl]) λh' he=>hQ _ ⟨he.1,he.2,rfl,rfl⟩
 self:=λi s Q E st hQ=>wpAny_pyIter_tupleiter st.1 hQ
theorem Bu (hA:A.handled=none){target:Expr}{I:qq7}:
  oV X A target I [I] [I] ((List.range k).map aE) (λ_ _=>True) (λi h=>IsRangeIter h I (0+(i:Nat)*1) ((k:Int)-(i:Nat)) 1) where
 frame:=λ_ _ _ st hk=>hk I (by exact .head _) _ st
 good:=λ_ _ _ _ _ _=>trivial
 item:=λi d Av' s Q E hi st g CR hZ hQ=>by
  have YH:i<k:=by
   have:=(List.getElem?_eq_some_iff.mp hi).1;simpa using this
  have hd:d=aE i:=by simp [YH] at hi;exact hi.symm
  subst hd;refine wpAny_pyNext_range_item st (VN YH) λh' lj ji=>?_;have k1: ∀b o,b∉ [I]->s.heap.get? b=some o->h'.get? b=some o:=λb o hb e=>ji.extBut b o (λh=>hb (by simp [h])) e;have e1:(0:Int)+((i+1:Nat):Int)*1=0+(i:Int)*1+1:=by push_cast;exact VO
  have e2:(k:Int)-((i+1:Nat):Int)=(k:Int)-(i:Int)-1:=by push_cast;exact VP
  refine hQ _ {s with heap:=h',toks:=_} (ln k1 λb hb=>by refine aa (qq2.mp hb) ?_;exact⟨_,lj⟩) λQ' E' hq=>lm (s:={s with heap:=h',toks:=_}) lj rfl rfl (by rfl) _ (hq _ (.refl _ _) ?_ ⟨s.toks,?_⟩)
  ·exact aa e1 (aa e2 lj)
  ·exact congrArg (qq0.int · s.toks) (show(0:Int)+(i:Int)*1=(i:Int) from by exact VQ)
 done:=λs Q E st hQ=>by
  refine DF hA st (by simp) λh' he=>hQ _ ⟨he.1,he.2,rfl,rfl⟩
 self:=λi s Q E st hQ=>wpAny_pyIter_rangeiter st hQ
theorem DI (hA:A.handled=none){IJ:List Expr}{kk:Nat}{pos:Pos}{e it ax:qq7}(N_:e≠it)(W4:e≠ax)(YI:ax≠it){items:List AV}(hl:vals.size=items.length):
  oV X A (.Tuple IJ kk pos) e [e,it] [e,it,ax] (cZ items) (λh Av=>cu X h Av items vals.toList) (λi h=>(∃old,IsEnum h e it i old)/\h.IsTupleIter it ax i/\h.IsTuple ax vals) where
 frame:=λ_ _ _ st hk=>by
  exact aU st λaz h1 h2=>ac az λold he=>(aQ ⟨old,hk e (by exact .head _) _ he⟩ (h1.at λo e=>hk it (by exact .tail _ (.head _)) o e) (h2.at λo e=>hk ax (by exact .tail _ (.tail _ (.head _))) o e))
 good:=λ_ _ _ _ g c=>aF.chg c _ _ g
 item:=λi d Av' s Q E hi st g CR hZ hQ=>by
  have hd: ∃d',items[i]? =some d'/\d= .tup [aE i,d']:=by
   delta cZ at hi;replace hi:=eS List.getElem?_zipWith hi;have d3:i<items.length:=by
    refine cO (items[i]?) (λh=>?_) λx h=>?_
    ·replace hi:=h▸hi;cases h2:(List.range items.length)[i]? <;>replace hi:=h2▸hi<;>exact xNS hi
    ·exact(List.getElem?_eq_some_iff.mp h).1
   have h1:(List.range items.length)[i]? =some i:=List.getElem?_range d3;replace hi:=h1▸hi;cases h:items[i]? with
   |none=>replace hi:=h▸hi;exact xNS hi|some x=>replace hi:=h▸hi;refine al hi λah=>?_;clear hi;subst ah;exact(aj x rfl rfl)
  refine af hd λd' fF ak=>?_;clear hd;subst ak;refine af (aF.getA i g fF) λv e1 e2=>?_;have CH:i<vals.size:=(Array.getElem?_eq_some_iff.mp e1).1;refine aU st λaz h1 h2=>ac az λold he=>?_;have D:=jG (prog:=X.P) (w:=X.w) (A:=A.in1) (by simpa using hA) it ax YI vals;refine wpAny_pyNext_enum_itemD D he ⟨h1,h2⟩ CH N_ (by simp;exact⟨N_,W4⟩) λx h' tk hP ho ji hT hsz hk=>?_;have hx:x=v:=by replace hP:=eS e1 hP;exact(ug hP).symm
  subst hx;have k1: ∀b o,b∉ [e,it]->s.heap.get? b=some o->h'.get? b=some o:=λb o hb q=>hk b o (λz=>hb (by simp [z])) (λz=>hb (by simp [z])) q;refine af ji.1 λoi YJ ak=> hQ _ {s with heap:=h',toks:=tk+1} (ln k1 λb hb=>?_) λQ' E' hq=>wpAny_letOwnedTupleGo_enum (s:={s with heap:=h',toks:=tk+1}) ho λCP Sk DJ=>hq _ ?_ ?_ ?_
  ·refine ui (uY.mp hb) ?_ ?_;intro az;subst az;rotate_left;intro hb;rotate_right
   ·exact⟨_,ho⟩
   ·exact aa (qq2.mp hb) (⟨_,YJ⟩)
  ·refine ln (s:={s with heap:=h',toks:=tk+1}) (tk:=tk+1) (λb o hb q=>?_) λb hb=>?_
   ·refine(?_:CP.get? b=_);exact aa (DJ.2 b (λz=>hb (by simp [z]))) q
   ·refine ui (uY.mp hb) ?_ ?_;intro az;subst az;rotate_left;intro hb;rotate_right
    ·exact⟨_,Sk⟩
    ·refine aa (qq2.mp hb) ?_;exact⟨oi,by exact aa (DJ.2 it N_.symm) YJ⟩
  ·refine(aQ ⟨x,by simpa using Sk⟩ (ji.1.at λo q=>?_) (ji.2.at λo q=>?_))
   ·refine(?_:CP.get? it=_);exact aa (DJ.2 it N_.symm) q
   ·refine(?_:CP.get? ax=_);exact aa (DJ.2 ax W4.symm) q
  ·have nT: ¬Av' s.heap.objs.size:=λq=>by
    exact ac (CR _ q) λo h=> absurd (ul h) (vg _)
   have hTe:s.heap.objs.size≠e:=vA (ul he);have c:dB s.heap Av' CP Av':=λb o q n=>⟨by
    exact aa (DJ.2 b (λz=>n (hZ b (by simp [z])))) (k1 b o (λz=>n (hZ b z)) q),n⟩
   exact⟨s.heap.objs.size,#[.int i tk,x],rfl,nT,⟨0,by refine(?_:CP.get? _=_);exact aa (DJ.2 _ hTe) hT⟩,by exact uj _ _,.cons ⟨tk,rfl⟩ (.single (VR.chg c _ _ e2))⟩
 done:=λs Q E st hQ=>by
  refine aU st λaz h1 h2=>ac az λold he=> FT hA he h1 h2 (i:=(cZ items).length) ?_ λh' hE=>hQ _ ⟨λb o hb q=>hE.1 b o (λz=>hb (by simp [qq2.mp z])) q,hE.2,rfl,rfl⟩;have:(cZ items).length=items.length:=by simp [cZ]
  simp [this,hl]
 self:=λi s Q E st hQ=>by
  exact aU st λaz h1 h2=>ac az λold he=>(WalksT.enumerateD (jG (prog:=X.P) (w:=X.w) (A:=A.in1) (by simpa using hA) it ax YI vals) e N_ (by simp;exact⟨N_,W4⟩) (by exact .head _)).self i s Q E (aQ ⟨old,he⟩ h1 h2) hQ
noncomputable abbrev compEnv (scope:Scope)(cells:List (Str×qq7))(C:qq7)(env:Env):Env:=
 {scope,locals:=C,globals:=env.globals,cells,qual:=env.qual,func:=none,code:=env.code,frame:=env.frame,builtins:=env.builtins}
theorem Bv {scope:Scope}{cl:List (Str×qq7)}{Q:Env->qq1->Prop}
  (h:Q (compEnv scope (qq6 (s.heap.objs.size+1) scope.names cl) s.heap.objs.size env) {s with heap:=pushCells (s.heap.push {cls:= .type "dict",data:= .dict #[]}) scope.names}):
  qq3 (qq5 prog w) A (newFunctionEnv scope env.globals cl [] env.qual none .none (some env)) Q E s:=by
 simp only [newFunctionEnv,Option.isSome_some,if_true];refine ua (wpAny_alloc ?_);refine ua (wpAny_layCells _ (λname kind cells=>by cases hkc:kind==qqL.cell<;>rfl) _ _ _ _ ?_);exact aa (show({s with heap:=s.heap.push {cls:= .type "dict",data:= .dict #[]}}:qq1).heap.objs.size=s.heap.objs.size+1 from uR ..) (ua (aa List.forIn_nil (ud (ud h))))
noncomputable def bf (env:Env):List (Str×qqL)->List (Str×qq7)->List (Str×qq7)
 | [],acc=>acc|(x,k)::r,acc=>if k== .free then(match env.cells.lookup x with|some c=>bf env r ((x,c)::acc)|none=>bf env r acc) else bf env r acc
theorem fV {x:Str}{k:qqL}{r:List (Str×qqL)}{acc:List (Str×qq7)}:bf env ((x,k)::r) acc=if k== .free then(match env.cells.lookup x with|some c=>bf env r ((x,c)::acc)|none=>bf env r acc) else bf env r acc:=rfl
theorem ml {scope:Scope}(h: ∀x∈scope.names,x.2= .free->(env.cells.lookup x.1).isSome=true):closureFor scope env=pure (bf env scope.names []):=by
 delta closureFor;have key: ∀(l:List (Str×qqL)) (acc:List (Str×qq7)),(∀x∈l,x.2= .free->(env.cells.lookup x.1).isSome=true)->
   (forIn l acc λ(x:Str×qqL) (cs:List (Str×qq7))=>(do
    let (name,kind):=x
    if kind== .free then do
      let c<-cellOf env name
      pure (ForInStep.yield ((name,c)::cs))
     else pure (ForInStep.yield cs):Sem (ForInStep (List (Str×qq7)))))=pure (bf env l acc):=by
  intro l
  induction l with
  |nil=>intro acc _;refine aa List.forIn_nil ?_;rfl|cons y r ih=>
   intro acc h;obtain⟨x,k⟩:=y;rw [vN];dsimp only;have hr:=λz hz=>h z (uz _ hz);by_cases q:(k==qqL.free)=true
   ·refine aa (if_pos q) ?_;have hk:k= .free:=beq_iff_eq.mp q;refine ac (Option.isSome_iff_exists.mp (h (x,k) uE hk)) λc hc=>?_;dsimp only at hc;have e1:cellOf env x=pure c:=by delta cellOf;exact aa hc rfl
    refine aa e1 ?_;simp only [pure_bind];exact aa (ih _ hr) (aa fV (aa (if_pos q) (aa hc rfl)))
   ·refine aa (if_neg q) ?_;simp only [pure_bind];exact aa (ih _ hr) (aa fV (aa (if_neg q) rfl))
 have:=key scope.names [] h;simpa using this
theorem dm {env:Env}{x:Str}: ∀{l:List (Str×qqL)} {acc:List (Str×qq7)},(l.map (·.1)).Nodup->(∀y∈l,acc.lookup y.1=none)->
  (bf env l acc).lookup x=match l.lookup x with
   |some .free=>env.cells.lookup x|_=>acc.lookup x
 | [],acc,_,_=>rfl|(y,k)::r,acc,hn,ha=>by
  simp only [ut,vC] at hn;have hy:acc.lookup y=none:=ha (y,k) uE;have nr:x=y->r.lookup x=none:=λe=>by
   subst e;cases q:r.lookup x with
   |none=>rfl|some v=>exact absurd (vM.mpr (aj ((x,v)) (mem_of_lookup q) rfl)) hn.1
  refine aa fV ?_;by_cases q:(k==qqL.free)=true
  ·refine aa (if_pos q) ?_;have hk:k= .free:=beq_iff_eq.mp q;subst hk;cases hc:env.cells.lookup y with
   |none=>
    dsimp only;refine aa (dm hn.2 λz hz=>ha z (uz _ hz)) (aa um ?_);cases e:x==y with
    |true=>
     have e:=beq_iff_eq.mp e;subst e;refine aa (nr rfl) ?_;dsimp only;exact aa hc (aa hy rfl)
    |false=>rfl
   |some c=>
    dsimp only;refine aa (dm hn.2 λz hz=>by
     refine aa um ?_;have:(z.1==y)=false:=by exact Iff.mpr beq_eq_false_iff_ne (λe=>hn.1 (vM.mpr (aj z hz e)))
     exact aa this (ha z (uz _ hz))) ?_
    refine aa um (aa um ?_);cases e:x==y with
    |true=>
     have e:=beq_iff_eq.mp e;subst e;refine aa (nr rfl) ?_;dsimp only;exact hc.symm
    |false=>rfl
  ·refine aa (if_neg q) (aa (dm hn.2 λz hz=>ha z (uz _ hz)) (aa um ?_));cases e:x==y with
   |true=>
    have e:=beq_iff_eq.mp e;subst e;refine aa (nr rfl) ?_;dsimp only;cases k<;>first|rfl|exact absurd rfl q
   |false=>rfl
theorem bm: ∀(l:List (Str×qqL)) (n:Nat) (acc:List (Str×qq7)),qq6 n l acc=qq6 n l []++acc
 | [],n,acc=>rfl|(x,k)::r,n,acc=>by
  unfold qq6;split
  ·refine aa (bm r (n+1) ((x,n)::acc)) (aa (bm r (n+1) [(x,n)]) ?_);simp
  ·exact bm r n acc
set_option tactic.hygienic true in
theorem bO {l:List (Str×qqL)}: ∀{n:Nat} {x:Str} {c:qq7},(x,c)∈qq6 n l []->(x,qqL.cell)∈l:=by
 induction l with
 |nil=>intro n x c h;simp [qq6] at h|cons y r ih=>
  intro n x c h;obtain⟨y,k⟩:=y;unfold qq6 at h;split at h
  ·rename_i q
   rw [bm] at h;refine ui (vT.mp h) (λh=>?_) λh=>?_
   ·exact uz _ (ih h)
   ·have h:=qq2.mp h;refine yJ h λah ak=>?_;clear h;subst ah;subst ak;exact aa (beq_iff_eq.mp q) uE
  ·exact uz _ (ih h)
theorem eI {l:List (Str×qqL)}: ∀{n:Nat} {x:Str},(x,qqL.cell)∈l-> ∃c,(qq6 n l []).lookup x=some c:=by
 induction l with
 |nil=>intro n x h;simp at h|cons y r ih=>
  intro n x h;obtain⟨y,k⟩:=y;unfold qq6;refine ui (uY.mp h) (λe=>?_) λh=>?_
  ·refine yJ e λah ak=>?_;clear e;subst ah;subst ak;refine aa (if_pos (show(qqL.cell==qqL.cell)=true from rfl)) ?_;rewrite [bm];refine aa vO ?_;cases q:(qq6 (n+1) r []).lookup x with
   |none=>exact⟨n,by simp [um]⟩|some c=>exact⟨c,rfl⟩
  ·split
   ·refine ac (ih (n:=n+1) h) λc hc=>?_;rewrite [bm];refine aa vO (aa hc ?_);exact⟨c,rfl⟩
   ·exact ih h
theorem a_ {l:List (Str×α)}(hn:(l.map (·.1)).Nodup){x:Str}{v:α}(h:(x,v)∈l):l.lookup x=some v:=by
 induction l with
 |nil=>simp at h|cons y r ih=>
  obtain⟨y,u⟩:=y;simp only [ut,vC] at hn;refine aa um (ui (uY.mp h) (λe=>?_) λh'=>?_)
  ·refine yJ e λah ak=>?_;clear e;subst ah;subst ak;simp
  ·have:(x==y)=false:=by
    refine Iff.mpr beq_eq_false_iff_ne ?_;intro e;exact hn.1 (vM.mpr (aj ((x,v)) h' e))
   exact aa this (ih hn.2 h')
theorem cH {env:Env}{names:List (Str×qqL)}(hn:(names.map (·.1)).Nodup){x:Str}:
  (names.lookup x=some .cell/\ ∃c,(qq6 n names (bf env names [])).lookup x=some c/\(x,c)∈qq6 n names [])\/
  (names.lookup x=some .free/\(qq6 n names (bf env names [])).lookup x=env.cells.lookup x)\/
  (names.lookup x≠some .cell/\names.lookup x≠some .free/\(qq6 n names (bf env names [])).lookup x=none):=by
 rewrite [bm];refine aa vO ?_;have cl:=dm (env:=env) (x:=x) (acc:= []) hn (λ_ _=>rfl);have nc:names.lookup x≠some .cell->(qq6 n names []).lookup x=none:=λh=>by
  cases q:(qq6 n names []).lookup x with
  |none=>rfl|some c=>exact absurd (a_ hn (bO (mem_of_lookup q))) h
 by_cases h1:names.lookup x=some .cell
 ·exact ac (eI (n:=n) (mem_of_lookup h1)) λc hc=> .inl ⟨h1,c,by refine aa hc ?_;rfl,mem_of_lookup hc⟩
 ·by_cases h2:names.lookup x=some .free
  ·refine .inr (.inl ⟨h2,?_⟩);refine aa (nc h1) (aa cl ?_);refine aa h2 ?_;rfl
  ·refine .inr (.inr (aQ h1 h2 ?_));refine aa (nc h1) (aa cl ?_);cases q:names.lookup x with
   |none=>rfl|some k=>cases k<;>first|rfl|exact absurd q h2
theorem zw (name:Str)(h:Int)(key v:qq0)(o:Obj):(Obj.putName name h key v o).cls=o.cls:=by
 refine aa Obj.putName_eq ?_;obtain⟨c,d,dt,sl⟩:=o;cases dt<;>simp only [Obj.putNameByArray];split<;>rfl
theorem FU {M:Model}{a:qq7}{name:Str}{o:Obj}{Q:Unit->qq1->Prop}{E:qq0->qq1->Prop}(hn:s.heap.Ns a m)(ho:s.heap.get? a=some o)
  (h: ∀h' o',h'.Ns a (λx=>if x=name then some v else m x)->qqC a s.heap h'->h'.get? a=some o'->o'.cls=o.cls->Q () {s with heap:=h',toks:=s.toks+1}):
  qq3 M A (nsSet a name v) Q E s:=by
 intro Γ p W5;have key:=Sem.wp_nsSet M Γ (λe _ s'=>E e s') p s hn name v (λ_ _ s'=>s'.heap.Ns a (λx=>if x=name then some v else m x)) (λh' h1 _=>h1);refine gE (id hn) λo1 es ep A7 hd hk hm=>?_;replace A7:=eS ho A7;refine al A7 λah=>?_;clear A7;subst ah;have jn:es.any (·.refKey)=false:=by
  refine Iff.mpr Array.any_eq_false' ?_;intro e he;refine aX (hk e he) λn t h=>?_;simp [DictEntry.refKey,h]
 simp only [nsSet,strHash,Sem.wp_bind',Sem.wp_cmd_ask,Sem.wp_pure',Sem.wp_cmd_mkText] at key⊢;rw [Sem.wp_loadPart_of M Γ _ p {s with toks:=s.toks+1} (o:=o) _ ho] at key⊢;simp only [hd,aRefKeyMayBeTheName_eq,aRefKeyMayBeTheNameByArray,jn,qxB,uX,if_false,Sem.wp_cmd_updatePart] at key⊢;refine ai key λk1 k2=>?_;refine⟨k1,?_⟩;refine aB (id k2) λo2 DK Ux fg r2=> h _ o2 k2 (qqC.update ..) fg ?_;have Sl: ∀(hh:Int) (kk:qq0),(Obj.putName name hh kk v o).isFreed=false:=λhh kk=>by
  refine aa Obj.putName_eq ?_;obtain⟨c,d,dt,sl⟩:=o;dsimp only at hd;subst hd;dsimp only [Obj.putNameByArray];split<;>rfl
 replace fg:=eS (uw (Obj.putName name (if name.cps.isEmpty=true then 0 else reduceHash (M.w.params.strHash name.cps)) (qq0.str name s.toks) v) ho (Sl _ _)) fg;refine al fg λah=>?_;clear fg;subst ah;exact zw ..
theorem oH.keep {p L a:qq7}(x:oH X h Av ob p L)(hp:p≠L)(ha:Av a)(Sm:a=L\/ ∃o v,h.get? a=some o/\o.data= .cell v)
  (k: ∀b o,b≠a->h.get? b=some o->h'.get? b=some o):oH X h' Av ob p L:=by
 have c:dB h Av h' Av:=λb o e n=>⟨k b o (λq=>n (q▸ha)) e,n⟩;have kk: ∀b o,b≠L->h.get? b=some o->(∀v,o.data≠ .cell v)->h'.get? b=some o:=λb o hb e hd=>by
  refine k b o (λq=>?_) e;subst q;refine ui Sm ?_ ?_;(all_goals clear Sm);intro q;rotate_left;intro az;refine aY az λo' v h1 h2=>?_;rotate_right
  ·exact hb q
  ·replace h1:=eS e h1;refine al h1 λah=>?_;clear h1;subst ah;exact hd v h2
 induction ob using OB.casesOn with
 |list l=>
  exact aC x λvs ah z r=>ac ah λn h1=>(aV vs ⟨n,kk _ _ hp h1 (by simp)⟩ z (aF.chg c _ _ r))
 |kd l=>
  refine c7 x λxs ah e1 r av=>eh ah λo es ep ho r1 r2 r3 r4 r5=>(cW xs (gG o es ep (kk _ _ hp ho (by refine aa r2 ?_;simp)) r1 r2 r3 (λz hz=>?_) r5) e1 (aF.chg c _ _ r) av);refine aB (r4 z hz) λo1 i1 n1 g1 g2=>?_;exact⟨o1,i1,n1,(c _ _ g1 (av z hz)).1,g2⟩
 |inst cc ks vs=>
  exact d9 x λdx es n av nl nh g1 g2 e1 r=>(fO dx es n av nl nh (kk _ _ hp g1 (by simp)) (kk _ _ nl g2 (by simp)) e1 (aF.chg c _ _ r))
theorem oW (L:aJ X s.heap env Av oa ae m cm){x:Str}(hc:env.cells.lookup x=some c):c≠env.locals:=λq=>by
 refine af (L.cells x c hc) λo ho hd=> bT L.ns λo' es ep d6 fF dX=>?_;replace ho:=q▸ho;replace ho:=eS d6 ho;refine al ho λah=>?_;clear ho;subst ah;replace fF:=eS hd fF;cases fF
def lp (o:Obj):Prop:=o.cls= .type "frame"/\ ∀vs,o.data≠ .fields vs
def lW (s s':qq1):Prop:= ∀b o,s.heap.get? b=some o->lp o-> ∃o',s'.heap.get? b=some o'/\lp o'
theorem lW.refl (s:qq1):lW s s:=λb o e h=>(aj o e h)
theorem lW.trans (x:lW s s')(y:lW s' ty):lW s ty:=λb o e h=>af (x b o e h) λo' e' h'=>y b o' e' h'
theorem lW.of_keeps {s:qq1}(k: ∀b o,s.heap.get? b=some o->s'.heap.get? b=some o):lW s s':=λb o e h=>(aj o (k b o e) h)
theorem nu {name:Str}{o:Obj}{W6:Option qq0}{v:qq0}{Q:Unit->qq1->Prop}{E:qq0->qq1->Prop}(hk:env.scope.kind= .function)(hl:env.kindOf name=some .cell)
  (hc:env.cells.lookup name=some c) (ho:s.heap.get? c=some o) (hd:o.data= .cell W6)
  (h: ∀h',h'.get? c=some {o with data:= .cell (some v)}->qqC c s.heap h'->Q () {s with heap:=h'}):qq3 (qq5 X.P X.w) A (qx2 env name v) Q E s:=by
 delta qx2;simp only [hl,hk];refine ua (wpAny_cellOf hc ?_);delta cellSet;refine ua (wpAny_load ho ?_);exact aa hd (wpAny_update ho (h _ (uw _ ho rfl) (qqC.update ..)))
theorem dR (B:ao X s.heap Av fr H)(L:aJ X s.heap env Av oa ae m cm){x:Str}{d:AV}(hx:env.kindOf x=some .local\/env.kindOf x=some .cell)(EB:ae.om.lookup x=none)(hv:VV X s.heap Av d v)
  {Q:Unit->qq1->Prop} {E:qq0->qq1->Prop}
  (h: ∀h' tk m' dc a,(a=env.locals\/env.cells.lookup x=some a)->(∀b o,b≠a->s.heap.get? b=some o->h'.get? b=some o)->(∃o,h'.get? a=some o)->lW s {s with heap:=h',toks:=tk}->aJ X h' env Av oa {ae with rho:=(x,d)::ae.rho} m' dc->Q () {s with heap:=h',toks:=tk}):
  qq3 (qq5 X.P X.w) A (qx2 env x v) Q E s:=by
 refine ui hx (λhx=>?_) λhx=>?_
 ·refine aB (id L.ns) λoL ah ak A9 be=>?_;rw [storeName_local hx (by refine aa L.kind ?_;rfl)];refine FU L.ns A9 λh' Sn hn hs oX FV=>?_;have k: ∀b o,b≠env.locals->s.heap.get? b=some o->h'.get? b=some o:=λb o hb e=>by exact aa (hs.2 b hb) e
  have c:dB s.heap Av h' Av:=λb o e n=>⟨k b o (λq=>n (q▸L.avL)) e,n⟩;refine h h' _ _ cm env.locals (.inl rfl) k (aB hn λo _ _ ho _=>⟨o,ho⟩) (λb o e hf=>by
    by_cases q:b=env.locals
    ·subst q;replace e:=eS A9 e;refine al e λah=>?_;clear e;subst ah;refine⟨Sn,oX,FV.trans hf.1,λvs hv=>?_⟩;refine bT hn λo2 DK Ux fg iy dX=>?_;replace fg:=eS oX fg;refine al fg λah=>?_;clear fg;subst ah;replace iy:=eS hv iy;cases iy
    ·exact(aj o (k b o q e) hf))
   {kind:=L.kind,glb:=L.glb,bi:=L.bi,dbg:=L.dbg,cdt:=L.cdt,kinds:=L.kinds,ns:=hn,cells:=λy cc e=>?_,hasc:=L.hasc,avL:=L.avL,avC:=L.avC,apart:=L.apart,vals:=λy dd e=>?_,owns:=λy ob e=>?_,inj:=L.inj,solo:=L.solo,nL:=L.nL}
  ·exact af (L.cells y cc e) λo ho hd=>(aj o (k _ _ (oW L e) ho) hd)
  ·replace e:=eS um e;refine cB (y==x) (λq=>?_) λq=>?_
   ·replace e:=q▸e;refine al e λah=>?_;clear e;subst ah;have:=beq_iff_eq.mp q;subst this;refine(aj v ?_ (VR.chg c _ _ hv));delta slot;refine aa (if_pos hx) ?_;simp
   ·replace e:=q▸e;refine af (L.vals y dd e) λu hu hr=>(aj u ?_ (VR.chg c _ _ hr));unfold slot at hu⊢;have: ¬y=x:=λz=>by replace q:=z▸q;simp at q
    simpa [this] using hu
  ·refine bb (L.owns y ob e) λa1 a2 a3 a4 a5=>(cV ?_ a2 a3 a4 (oH.keep a5 a3 L.avL (.inl rfl) k));have: ¬y=x:=λz=>by replace e:=z▸e;replace e:=eS EB e;exact xNS e
   unfold slot at a1⊢;simpa [this] using a1
 ·refine ac (Option.isSome_iff_exists.mp (L.hasc x (.inl hx))) λcx hc=>?_;have eA:=L.cells x cx hc;have MZ:=L.avC x cx hc;refine af (id eA) λoc So W7=> nu L.kind hx hc So W7 λh' IK hs=>?_;have Uy:h'.IsCell cx (some v):=(aj _ IK rfl);have k: ∀b o,b≠cx->s.heap.get? b=some o->h'.get? b=some o:=λb o hb e=>by exact aa (hs.2 b hb) e
  have c:dB s.heap Av h' Av:=λb o e n=>⟨k b o (λq=>n (q▸MZ)) e,n⟩;have nl: ¬env.kindOf x=some .local:=by refine aa hx ?_;simp
  refine h h' _ m (λy=>if y=x then some v else cm y) cx (.inr hc) k (af Uy λo ho _=>⟨o,ho⟩) (λb o e hf=>by
    by_cases q:b=cx
    ·subst q;replace e:=eS So e;refine al e λah=>?_;clear e;subst ah;exact⟨_,IK,hf.1,λvs hv=>by cases hv⟩
    ·exact(aj o (k b o q e) hf))
   {kind:=L.kind,glb:=L.glb,bi:=L.bi,dbg:=L.dbg,cdt:=L.cdt,kinds:=L.kinds,ns:= ?_,cells:=λy cc e=>?_,hasc:=L.hasc,avL:=L.avL,avC:=L.avC,apart:=L.apart,vals:=λy dd e=>?_,owns:=λy ob e=>?_,inj:=L.inj,solo:=L.solo,nL:=L.nL}
  ·exact aB L.ns λo es ep ho r=>(ct o es ep (k _ _ (oW L hc).symm ho) r)
  ·by_cases q:y=x
   ·subst q;replace e:=eS hc e;refine al e λah=>?_;clear e;subst ah;simpa using Uy
   ·refine af (L.cells y cc e) λo ho hd=>(aj o (k _ _ (λz=>q (L.apart y x cx (z▸e) hc)) ho) ?_);simpa [q] using hd
  ·replace e:=eS um e;refine cB (y==x) (λq=>?_) λq=>?_
   ·replace e:=q▸e;refine al e λah=>?_;clear e;subst ah;have:=beq_iff_eq.mp q;subst this;refine(aj v ?_ (VR.chg c _ _ hv));delta slot;refine aa (if_neg nl) (aa (if_pos (.inl hx)) ?_);simp
   ·replace e:=q▸e;refine af (L.vals y dd e) λu hu hr=>(aj u ?_ (VR.chg c _ _ hr));unfold slot at hu⊢;have: ¬y=x:=λz=>by replace q:=z▸q;simp at q
    simpa [this] using hu
  ·refine bb (L.owns y ob e) λa1 a2 a3 a4 a5=> af eA λo ho hd=>(cV ?_ a2 a3 a4 (oH.keep a5 a3 MZ (.inr (ei o _ ho hd)) k));have: ¬y=x:=λz=>by replace e:=z▸e;replace e:=eS EB e;exact xNS e
   unfold slot at a1⊢;simpa [this] using a1
structure dY (W:qq7->Prop)(s s':qq1):Prop where
 keep: ∀b o,¬W b->s.heap.get? b=some o->s'.heap.get? b=some o
 live: ∀b o,s.heap.get? b=some o-> ∃o',s'.heap.get? b=some o'
 gens:s'.gens=s.gens
 os:s'.os=s.os
theorem dY.trans (x:dY W s s')(y:dY W s' ty):dY W s ty:=
 ⟨λb o n e=>y.keep b o n (x.keep b o n e),λb o e=>ac (x.live b o e) λo' h=>y.live b o' h,y.gens.trans x.gens,y.os.trans x.os⟩
theorem dY.refl (W:qq7->Prop)(s:qq1):dY W s s:=⟨λ_ _ _ e=>e,λb o e=>⟨o,e⟩,rfl,rfl⟩
theorem dY.of_keeps {h':qqK}{tk:Nat}(k: ∀b o,s.heap.get? b=some o->h'.get? b=some o):dY W s {s with heap:=h',toks:=tk}:=⟨λb o _ e=>k b o e,λb o e=>⟨o,k b o e⟩,rfl,rfl⟩
theorem dY.mono {W W':qq7->Prop}(x:dY W s s')(h: ∀b,W b->W' b):dY W' s s':=⟨λb o n e=>x.keep b o (λq=>n (h b q)) e,x.live,x.gens,x.os⟩
theorem LJ.p {Z:List qq7}(x:LJ Z s s'):dY (· ∈Z) s s':=⟨x.keep,x.live,x.gens,x.os⟩
theorem dY.chg (x:dY W s s')(h: ∀b,W b->Av b):dB s.heap Av s'.heap Av:=λb o e n=>⟨x.keep b o (λq=>n (h b q)) e,n⟩
theorem aJ.rho {rho':List (Str×AV)}(L:aJ X h env Av oa ae m cm)(e: ∀x d,rho'.lookup x=some d->ae.rho.lookup x=some d):aJ X h env Av oa {ae with rho:=rho'} m cm:=
 {kind:=L.kind,glb:=L.glb,bi:=L.bi,dbg:=L.dbg,cdt:=L.cdt,kinds:=L.kinds,ns:=L.ns,cells:=L.cells,hasc:=L.hasc,avL:=L.avL,avC:=L.avC,apart:=L.apart,vals:=λx d h=>L.vals x d (e x d h),owns:=L.owns,inj:=L.inj,solo:=L.solo,nL:=L.nL}
def DL (env:Env)(W:qq7->Prop)(om:List (Str×OB))(x:Str):Prop:=(env.kindOf x=some .local\/env.kindOf x=some .cell)/\om.lookup x=none/\W env.locals/\ ∀c,env.cells.lookup x=some c->W c
theorem jH (B:ao X s.heap Av fr H)(L:aJ X s.heap env Av oa ae m cm){x:Str}{pos:Pos}{d:AV}(hx:DL env W ae.om x)(hv:VV X s.heap Av d v)
  {Q:Unit->qq1->Prop} {E:qq0->qq1->Prop}
  (h: ∀s' m' dc,dY W s s'->lW s s'->aJ X s'.heap env Av oa {ae with rho:=(x,d)::ae.rho} m' dc->Q () s'):qq3 (qq5 X.P X.w) A (assign (.Name x pos) env v) Q E s:=by
 refine gD hx λh1 h2 h3 h4=> qzW (dR B L h1 h2 hv λh' tk m' dc a ha k lv fm L'=>h _ m' dc ⟨λb o n e=>k b o (λq=>n ?_) e,λb o e=>?_,rfl,rfl⟩ fm L')
 ·subst q;refine ui ha ?_ ?_;(all_goals clear ha);intro az;subst az;rotate_left;intro ha;rotate_right
  ·exact h3
  ·exact h4 _ ha
 ·by_cases q:b=a
  ·subst q;exact lv
  ·exact⟨o,k b o q e⟩
theorem mq {es:List Expr}{p:Str×Str}(h:kG es=some p): ∃px py,es= [.Name p.1 px,.Name p.2 py]:=by
 rcases es with _|⟨a,_|⟨b,_|⟨c,r⟩⟩⟩
 ·exact xNS h
 ·exact xNS h
 ·refine af (qqQ.mp h) λx h1 h=> af (qqT.mp h) λy h2 h=> ac (bj h1) λpx e1=> ac (bj h2) λpy e2=>?_;subst e1;subst e2;refine aN h λah ak=>?_;clear h;subst ah;subst ak;exact(cK px py rfl)
 ·exact xNS h
theorem DM {ns:List Str}{v:AV}(h:Ii ns v=some bs): ∃l,v= .tup l/\ns.length=l.length/\ns.Nodup/\bs=ns.zip l:=by
 induction v using AV.casesOn with
 |tup l=>
  by_cases c:ns.length=l.length/\ns.Nodup
  ·replace h:=eS (show Ii ns (.tup l)=_ from if_pos c) h;refine al h λah=>?_;clear h;subst ah;exact(cW l rfl c.1 c.2 rfl)
  ·replace h:=eS (show Ii ns (.tup l)=_ from if_neg c) h;exact xNS h
 |_=>exact xNS h
theorem lq {K:Expr->AV->List (Str×AV)->Prop}{t:Expr}{v:AV}(h:fC t v=some bs)(h1: ∀x px,K (.Name x px) v [(x,v)])
  (h2: ∀es k p ns l,namesOf es=some ns->ns.length=l.length->ns.Nodup->K (.Tuple es k p) (.tup l) (ns.zip l)):K t v bs:=by
 delta fC at h;refine cO (bP t) (λq=>?_) λx q=>?_
 ·replace h:=q▸h;refine af (aG h) λes e0 h=> af (aG h) λns e1 h=> c7 (DM h) λl e2 e3 e4 e5=> aX (dO e0) λk p e0=> aa e0 (aa e2 ?_);exact aa e5 (h2 es k p ns l e1 e3 e4)
 ·replace h:=q▸h;refine ac (bj q) λpx q=> aa q (bq (ug h) ?_);exact h1 x px
theorem iJ {e:Expr}{r:List Expr}{ns:List Str}(h:namesOf (e::r)=some ns): ∃x p MM,e= .Name x p/\namesOf r=some MM/\ns=x::MM:=by
 refine af (aG h) λx h1 h=> af (d5 h) λMM h2 h=> ac (bj h1) λp h1=>?_;subst h;exact(iD x p MM h1 h2 rfl)
theorem lr {env:Env}: ∀{es:List Expr} {ns:List Str},namesOf es=some ns->(qzX es env).length=ns.length/\(qzX es env).findIdx? (·.1)=none
 | [],_,h=>by refine al h λah=>?_;clear h;subst ah;exact⟨rfl,rfl⟩
 |e::r,_,h=>by
  refine bT (iJ h) λx p MM c8 h2 dX=>?_;subst c8;subst dX;refine ai (lr (env:=env) h2) λh3 h4=>?_;refine⟨congrArg (· +1) h3,?_⟩;refine(?_:List.findIdx? (·.1) ((false,_)::qzX r env)=none);refine aa List.findIdx?_cons ?_;refine aa h4 ?_;rfl
theorem iK (hW: ∀b,W b->Av b){Q:Unit->qq1->Prop}{E:qq0->qq1->Prop}: ∀(es:List Expr) {ns:List Str} {ds:List AV} {vs:List qq0} {s:qq1} {ae:Loc} {m cm:Str->Option qq0},
  namesOf es=some ns->ns.length=ds.length->(∀(s':qq1),dY W s s'->lW s s'->ao X s'.heap Av fr H)->aJ X s.heap env Av oa ae m cm->(∀x∈ns,DL env W ae.om x)->cu X s.heap Av ds vs->
  (∀s' m' dc,dY W s s'->lW s s'->aJ X s'.heap env Av oa {ae with rho:=(ns.zip ds).reverse++ae.rho} m' dc->Q () s')->qq3 (qq5 X.P X.w) A (assignInOrder ((qzX es env).map (·.2)) vs) Q E s
 | [],_,ds,vs,s,ae,m,cm,hn,hl,hB,L,hx,hv,h=>by
  refine al hn λah=>?_;clear hn;subst ah
  induction ds using List.casesOn with
  |nil=>
   exact aa (show vs= [] from hv) (ud (h s m cm (.refl _ _) (.refl _) L))
  |cons a b=>exact absurd hl (Nat.succ_ne_zero _).symm
 |e::r,_,ds,vs,s,ae,m,cm,hn,hl,hB,L,hx,hv,h=>by
  refine bT (iJ hn) λx p MM c8 h2 dX=>?_;subst c8;subst dX
  induction ds using List.casesOn with
  |nil=>exact absurd hl (Nat.succ_ne_zero _)|cons d ds=>
   refine a8 hv λv vs' ak r1 r2=>?_;clear hv;subst ak;refine ua (qq8 (jH (hB s (.refl _ _) (.refl _)) L (hx x uE) r1 λs1 m1 d7 a7 YK L1=>?_));refine iK hW r h2 (Nat.succ.inj hl) (λs2 lX IL=>hB s2 (a7.trans lX) (YK.trans IL)) L1 (λy hy=>hx y (uz _ hy)) (aF.chg (a7.chg hW) _ _ r2) λs2 m2 zx lX IL L2=>h s2 m2 zx (a7.trans lX) (YK.trans IL) (aa uU (aa vw ?_));rewrite [up];exact L2
theorem jo (hA:A.handled=none)(B:ao X s.heap Av fr H)(L:aJ X s.heap env Av oa ae m cm){t:Expr}{d:AV}(hW: ∀b,W b->Av b)(hb:fC t d=some bs)(hx: ∀x∈bs.map (·.1),DL env W ae.om x)(hv:VV X s.heap Av d v)
  {Q:Unit->qq1->Prop} {E:qq0->qq1->Prop} (hB: ∀(s':qq1),dY W s s'->lW s s'->ao X s'.heap Av fr H)
  (h: ∀s' m' dc,dY W s s'->lW s s'->aJ X s'.heap env Av oa {ae with rho:=bs.reverse++ae.rho} m' dc->Q () s'):qq3 (qq5 X.P X.w) A (assign t env v) Q E s:=by
 refine lq (K:=λt d bs=>(∀x∈bs.map (·.1),DL env W ae.om x)->VV X s.heap Av d v->(∀s' m' dc,dY W s s'->lW s s'->aJ X s'.heap env Av oa {ae with rho:=bs.reverse++ae.rho} m' dc->Q () s')->qq3 (qq5 X.P X.w) A (assign t env v) Q E s) hb (λx px hx hv h=>?_) (λes k p ns l hn hl _ hx hv h=>?_) hx hv h
 ·exact jH B L (hx _ uE) hv h
 ·refine aP hv λaz arr ak na pt z r=>?_;clear hv;subst ak;refine ai (lr (env:=env) hn) λg1 g2=> wpAny_assign_Tuple hA pt.is (by refine aa g1 (aa hl ?_);exact bq (aF.length r) (aa ux rfl)) g2 λh' he=>?_;have hk: ∀b o,s.heap.get? b=some o->h'.get? b=some o:=λb o e=>he b o (uy (ul e)) e;have FW:dY W s {s with heap:=h'}:= .of_keeps (tk:=s.toks) hk;have YL:lW s {s with heap:=h'}:= .of_keeps hk;exact iK (s:={s with heap:=h'}) hW es hn hl (λs2 lX IL=>hB s2 (FW.trans lX) (YL.trans IL)) (L.keep hk (λ_ q=>q) λ_ _ _ q=>q) (λx iz=>hx x (by exact aa (vo (uC hl)) iz)) (aF.chg (λb o e n=>⟨hk b o e,n⟩) _ _ r) λs2 m2 zx lX IL L2=>h s2 m2 zx (FW.trans lX) (YL.trans IL) L2
theorem aJ.ex2 (x:aJ X s.heap env Av oa ae m cm)(B:ao X s.heap Av fr H)(y:Ex X (aO fr) s s')(h1: ∀b,Av b->Av' b)(h2: ∀b o,s.heap.get? b=some o-> ¬Av b-> ¬Av' b):aJ X s'.heap env Av' oa ae m cm:=
 have c:dB s.heap Av s'.heap Av':=λb o e n=>⟨(B.chg y b o e n).1,h2 b o e n⟩;have kk: ∀b o,s.heap.get? b=some o->X.aH≠some b->o.cls≠ .type "frame"->s'.heap.get? b=some o:=λb o e n1 n2=>y.keep b o e n1 λq=>n2 (B.frs_live q e)
 {kind:=x.kind,glb:=x.glb,bi:=x.bi,dbg:=x.dbg,cdt:=x.cdt,kinds:=x.kinds,ns:=yV x.ns λo e=>y.live e x.nL,cells:=λz cc e=>by
   exact af (x.cells z cc e) λo ho hd=> ac (y.live ho (x.cellH B e)) λsl h=>(aj _ h hd),hasc:=x.hasc,avL:=h1 _ x.avL,avC:=λz cc e=>h1 _ (x.avC z cc e),apart:=x.apart,vals:=λz d e=>af (x.vals z d e) λv a1 a2=>(aj v a1 (VR.chg c d v a2)),owns:=λz ob e=>by
   refine bb (x.owns z ob e) λa1 a2 a3 a4 a5=>(cV a1 (h1 _ a2) a3 a4 ?_)
   induction ob using OB.casesOn with
   |list l=>
    exact aC a5 λvs ah z r=>ac ah λn hp=>(aV vs ⟨n,kk _ _ hp a4 (by simp)⟩ z (aF.chg c _ _ r))
   |kd l=>
    refine c7 a5 λxs ah e1 r av=>eh ah λo es ep ho r1 r2 r3 r4 r5=>(cW xs (gG o es ep (kk _ _ ho a4 (by refine aa r1.1 ?_;simp)) r1 r2 r3 (λz hz=>?_) r5) e1 (aF.chg c _ _ r) (λz hz=>?_))
    ·refine aB (r4 z hz) λo1 i1 n1 g1 g2=>?_;exact⟨o1,i1,n1,(c _ _ g1 (av z hz)).1,g2⟩
    ·exact aB (r4 z hz) λo1 i1 n1 g1 g2=> h2 _ _ g1 (av z hz)
   |inst cc ks vs=>
    exact d9 a5 λdx es n av nl nh g1 g2 e1 r=>(fO dx es n (h1 _ av) nl nh (kk _ _ g1 a4 (by simp)) (kk _ _ g2 nh (by simp)) e1 (aF.chg c _ _ r)),inj:=x.inj,solo:=x.solo,nL:=x.nL}
theorem ao.ex2 (B:ao X s.heap Av fr H)(y:Ex X (aO fr) s s')(h1: ∀b,Av b->Av' b)(h2: ∀b o,s.heap.get? b=some o-> ¬Av b-> ¬Av' b)(h3: ∀b,Av' b->Av b\/ ∃o,s'.heap.get? b=some o)(hH:au X s'.heap Av' H'):ao X s'.heap Av' fr H' where
 base:=λb o e=>(B.chg y b o (B.base b o e) (B.off b o e)).1
 off:=λb o e=>h2 b o (B.base b o e) (B.off b o e)
 live:=λb av=>by
  refine ui (h3 b av) (λav=>?_) λh=>?_
  ·refine ac (B.live b av) λo ho=>?_;by_cases q:X.aH=some b
   ·refine aB (hH.dict q) λo' ah ak d6 be=>?_;exact⟨o',d6⟩
   ·refine ac (y.live ho q) λsl h=>?_;exact⟨_,h⟩
  ·exact h
 hand:=hH
 frok:=λen he=>by
  refine ai (B.frok en he) λk aI=>eg aI λL o hL av nH nb ho hc hn=> ac (y.live ho nH) λsl h=>?_;exact⟨k,L,_,hL,h1 _ av,nH,nb,h,hc,hn⟩
theorem iM {sc:Scope}{x:Str}{cells:List (Str×qq7)}{C:qq7}:Env.kindOf (compEnv (relabel sc env) cells C env) x=match sc.names.lookup x with
  |some .free=>if env.scope.kind= .function/\env.kindOf x=some .cell then some .cell else some .free
  |k=>k:=by
 refine(?_:(sc.names.map λ(n,k)=>if(k== .free && env.scope.kind== .function && env.kindOf n==some .cell)=true then(n,qqL.cell) else(n,k)).lookup x=_);generalize sc.names=l
 induction l with
 |nil=>rfl|cons y r ih=>
  obtain⟨y,k⟩:=y;refine aa ut (?_:(_::List.map _ r:List (Str×qqL)).lookup x=_);by_cases LK:(k==qqL.free && env.scope.kind== .function && env.kindOf y==some .cell)=true
  ·have e:(match((y,k):Str×qqL) with|(n,k)=>if(k== .free && env.scope.kind== .function && env.kindOf n==some .cell)=true then(n,qqL.cell) else(n,k))=(y,.cell):=if_pos LK;refine aa e (aa um ?_);refine aa um ?_;simp only [uv,beq_iff_eq] at LK;cases q:x==y with
   |true=>
    have q:=beq_iff_eq.mp q;subst q;refine aa LK.1.1 ?_;dsimp only;exact aa (if_pos ⟨LK.1.2,LK.2⟩) rfl
   |false=>exact ih
  ·have e:(match((y,k):Str×qqL) with|(n,k)=>if(k== .free && env.scope.kind== .function && env.kindOf n==some .cell)=true then(n,qqL.cell) else(n,k))=(y,k):=if_neg LK;refine aa e (aa um ?_);refine aa um ?_;simp only [uv,beq_iff_eq,not_and] at LK;cases q:x==y with
   |true=>
    have q:=beq_iff_eq.mp q;subst q;cases k<;>dsimp only;exact aa (if_neg (λz:env.scope.kind= .function/\env.kindOf x=some .cell=>LK ⟨rfl,z.1⟩ z.2)) rfl
   |false=>exact ih
theorem fj {sc b6:Scope}(h:dM sc b6=true):sc.kind= .function/\(sc.names.map (·.1)).Nodup/\sc.names.lookup ("__debug__":Str)=none/\sc.names.lookup ("__classdict__":Str)=none/\
  ∀x,sc.names.lookup x=some .free->b6.names.lookup x=some .cell\/b6.names.lookup x=some .free:=by
 delta dM at h;simp only [uv,decide_eq_true_eq,vB,qqJ,qxR,bne_iff_ne,ne_eq,beq_iff_eq] at h;refine ai h λaz h5=>ai az λAB h4=> ai AB λIM h3=>ai IM λh1 h2=>(cV h1 h2 h3 h4 (λx hx=>?_));rcases h5 (x,.free) (mem_of_lookup hx) with(h|h)|h
 ·exact absurd rfl h
 ·exact .inl h
 ·exact .inr h
theorem bD {p:Str->Bool}{l:List (Str×α)}{x:Str}{v:α}(h:(l.filter λy=>p y.1).lookup x=some v):l.lookup x=some v/\p x=true:=by
 induction l with
 |nil=>simp at h|cons y r ih=>
  obtain⟨y,u⟩:=y;replace h:=List.filter_cons▸h;refine aa um ?_;by_cases q:p y=true
  ·replace h:=(if_pos q)▸h;replace h:=eS um h;cases e:x==y with
   |true=>
    replace h:=e▸h;have e:=beq_iff_eq.mp e;subst e;exact⟨h,q⟩
   |false=>replace h:=e▸h;exact ih h
  ·replace h:=(if_neg q)▸h;refine ai (ih h) λh1 h2=>?_;have:(x==y)=false:=by
    refine Iff.mpr beq_eq_false_iff_ne ?_;intro e;subst e;exact q h2
   refine aa this ?_;exact⟨h1,h2⟩
theorem aJ.comp (L:aJ X h env Av oa ae m cm){sc:Scope}(ok:dM sc ae.sc=true){C n:Nat}{m1 d7:Str->Option qq0}(hC:h.Ns C m1)(avC:Av C)(hn:X.aH≠some C)(YM: ∀x ob,ae.om.lookup x=some ob->oa x≠C/\ ∀cc ks vs,ob= .inst cc ks vs->oH X h Av ob (oa x) C)
  (nc: ∀x c,(x,c)∈qq6 n sc.names []->h.IsCell c (d7 x)/\Av c) (Oa: ∀x,sc.names.lookup x=some .free->d7 x=cm x) (na:(qq6 n sc.names []).Pairwise λx y=>x.2≠y.2) (no: ∀x c y c',(x,c)∈qq6 n sc.names []->env.cells.lookup y=some c'->c≠c'):
  aJ X h (compEnv (relabel sc env) (qq6 n sc.names (bf env sc.names [])) C env) Av oa (aA sc ae) m1 d7:=by
 refine bb (fj ok) λo1 o2 o3 o4 o5=>?_;have hk: ∀x,Env.kindOf (compEnv (relabel sc env) (qq6 n sc.names (bf env sc.names [])) C env) x=match sc.names.lookup x with
  |some .free=>if env.scope.kind= .function/\env.kindOf x=some .cell then some .cell else some .free
  |k=>k:=λx=>iM
 have YN: ∀x,sc.names.lookup x=some .free->env.kindOf x=some .cell\/env.kindOf x=some .free:=λx hx=>by
  refine ui (o5 x hx) (λh=>?_) λh=>?_
  ·refine ui (L.kinds x _ h) ?_ ?_;intro e;rotate_left;intro az;refine ai az λe gm=>?_;rotate_right
   ·exact .inl e
   ·cases e
  ·refine ui (L.kinds x _ h) ?_ ?_;intro e;rotate_left;intro az;refine ai az λAB e=>?_;rotate_right
   ·exact .inr e
   ·exact .inl e
 have YO: ∀x,sc.names.lookup x=some .free->Env.kindOf (compEnv (relabel sc env) (qq6 n sc.names (bf env sc.names [])) C env) x=some .cell\/Env.kindOf (compEnv (relabel sc env) (qq6 n sc.names (bf env sc.names [])) C env) x=some .free:=λx hx=>by
  rewrite [hk];refine aa hx ?_;dsimp only;split
  ·exact .inl rfl
  ·exact .inr rfl
 have YP: ∀x v,sc.names.lookup x=some .free->slot env m cm x=some v->slot (compEnv (relabel sc env) (qq6 n sc.names (bf env sc.names [])) C env) m1 d7 x=some v:=λx v hx hs=>by
  have e1:=YN x hx;have e2:=YO x hx;unfold slot at hs⊢;replace hs:=eS (if_neg (by(refine ui e1 (λe=>?_) λe=>?_;(all_goals clear e1))<;>refine aa e ?_<;>simp)) hs;replace hs:=eS (if_pos e1) hs;refine aa (if_neg (by(refine ui e2 (λe=>?_) λe=>?_;(all_goals clear e2))<;>refine aa e ?_<;>simp)) ?_;exact aa (if_pos e2) (aa (Oa x hx) hs)
 refine{kind:=o1,glb:=L.glb,bi:=L.bi,dbg:=by rewrite [hk];refine aa o3 ?_;rfl,cdt:=by rewrite [hk];refine aa o4 ?_;rfl,kinds:=λx k e=>?_,ns:=hC,cells:=λx c e=>?_,hasc:=λx e=>?_,avL:=avC,avC:=λx c e=>?_,apart:=λx y c e1 e2=>?_,vals:=λx dd e=>?_,owns:=λx ob e=>?_,inj:=λx y ob ob' e e'=>L.inj x y ob ob' (bD (p:=λz=>sc.names.lookup z==some .free) e).1 (bD (p:=λz=>sc.names.lookup z==some .free) e').1,solo:=λx y c ks vs ob e e'=>L.solo x y c ks vs ob (bD (p:=λz=>sc.names.lookup z==some .free) e).1 (bD (p:=λz=>sc.names.lookup z==some .free) e').1,nL:=hn}
 ·have e:sc.names.lookup x=some k:=e;cases k with
  |free=>
   refine ui (YO x e) (λh=>?_) λh=>?_
   ·exact .inr ⟨rfl,h⟩
   ·exact .inl h
  |_=>left;rewrite [hk];exact aa e rfl
 ·rcases cH (env:=env) o2 (n:=n) (x:=x) with⟨h1,c',h2,h3⟩|⟨h1,h2⟩|⟨h1,h2,h3⟩
  ·have e:(qq6 n sc.names (bf env sc.names [])).lookup x=some c:=e;replace e:=eS h2 e;refine al e λah=>?_;clear e;subst ah;exact(nc x c' h3).1
  ·have e:(qq6 n sc.names (bf env sc.names [])).lookup x=some c:=e;replace e:=eS h2 e;exact aa (Oa x h1) (L.cells x c e)
  ·have e:(qq6 n sc.names (bf env sc.names [])).lookup x=some c:=e;replace e:=eS h3 e;exact xNS e
 ·refine(?_:((qq6 n sc.names (bf env sc.names [])).lookup x).isSome=true);rcases cH (env:=env) o2 (n:=n) (x:=x) with⟨h1,c',h2,h3⟩|⟨h1,h2⟩|⟨h1,h2,h3⟩
  ·refine aa h2 ?_;rfl
  ·exact aa h2 (L.hasc x (YN x h1))
  ·rw [hk] at e;refine cO (sc.names.lookup x) (λq=>?_) λk q=>?_
   ·replace e:=q▸e;simp at e
   ·replace e:=q▸e;cases k<;>first|exact absurd q h1|exact absurd q h2|(dsimp only at e;simp at e)
 ·have e:(qq6 n sc.names (bf env sc.names [])).lookup x=some c:=e;rcases cH (env:=env) o2 (n:=n) (x:=x) with⟨h1,c',h2,h3⟩|⟨h1,h2⟩|⟨h1,h2,h3⟩
  ·replace e:=eS h2 e;refine al e λah=>?_;clear e;subst ah;exact(nc x c' h3).2
  ·replace e:=eS h2 e;exact L.avC x c e
  ·replace e:=eS h3 e;exact xNS e
 ·have e1:(qq6 n sc.names (bf env sc.names [])).lookup x=some c:=e1;have e2:(qq6 n sc.names (bf env sc.names [])).lookup y=some c:=e2;rcases cH (env:=env) o2 (n:=n) (x:=x) with⟨h1,c1,h2,h3⟩|⟨h1,h2⟩|⟨h1,h2,h3⟩
  ·replace e1:=eS h2 e1;refine al e1 λah=>?_;clear e1;subst ah;rcases cH (env:=env) o2 (n:=n) (x:=y) with⟨g1,c2,g2,g3⟩|⟨g1,g2⟩|⟨g1,g2,g3⟩
   ·replace e2:=eS g2 e2;refine al e2 λah=>?_;clear e2;subst ah;exact name_of_addr na h3 g3
   ·replace e2:=eS g2 e2;exact absurd rfl (no x c1 y c1 h3 e2)
   ·replace e2:=eS g3 e2;exact xNS e2
  ·replace e1:=eS h2 e1;rcases cH (env:=env) o2 (n:=n) (x:=y) with⟨g1,c2,g2,g3⟩|⟨g1,g2⟩|⟨g1,g2,g3⟩
   ·replace e2:=eS g2 e2;refine al e2 λah=>?_;clear e2;subst ah;exact absurd rfl (no y c2 x c2 g3 e1)
   ·replace e2:=eS g2 e2;exact L.apart x y c e1 e2
   ·replace e2:=eS g3 e2;exact xNS e2
  ·replace e1:=eS h3 e1;exact xNS e1
 ·exact ai (bD (p:=λz=>sc.names.lookup z==some .free) e) λh1 h2=> af (L.vals x dd h1) λv hv hr=>(aj v (YP x v (beq_iff_eq.mp h2) hv) hr)
 ·refine ai (bD (p:=λz=>sc.names.lookup z==some .free) e) λh1 h2=> bb (L.owns x ob h1) λa1 a2 a3 a4 a5=>(cV (YP x _ (beq_iff_eq.mp h2) a1) a2 (YM x ob h1).1 a4 ?_)
  induction ob using OB.casesOn with
  |list l=>exact a5|kd l=>exact a5|inst cc ks vs=>exact(YM x _ h1).2 cc ks vs rfl
theorem fk {m:M α}{r:Except AV α}(h:i9 m H=some (r,H')): ∃a,r= .ok a/\m H=some (.ok a,H'):=by
 refine af (aG h) λaz q h=>?_;obtain⟨x,H1⟩:=az
 induction x using Except.casesOn with
 |ok a=>refine aN h λah ak=>?_;clear h;subst ah;subst ak;exact(aj a rfl q)
 |error p=>exact xNS h
noncomputable def dS (gi:List Expr)(env:Env):Sem Bool:=forIn gi true λc r=>if r=true then do let ok<-isTrue c env (eval c env);pure (ForInStep.yield ok) else pure (ForInStep.yield r)
structure bY (X:Cx)(fr:List Env)(Av:qq7->Prop)(ZZ:List qq7)(s0:qq1)(C:qq7)(new:List (Str×qq7))(s:qq1)(H:HS):Prop where
 ex:Ex X (aO fr) s0 s
 hand:au X s.heap (ins Av ZZ) H
 live: ∀b∈ZZ,∃o,s.heap.get? b=some o
 ns: ∃m1,s.heap.Ns C m1
 cells: ∀x c,(x,c)∈new-> ∃v,s.heap.IsCell c v
variable {ZZ:List qq7}{s0:qq1}{H0:HS}{C:qq7}{new:List (Str×qq7)}
theorem bY.base (J:bY X fr Av ZZ s0 C new s H)(B0:ao X s0.heap Av fr H0)(fz: ∀b∈ZZ,s0.heap.get? b=none):ao X s.heap (ins Av ZZ) fr H:=
 B0.ex2 J.ex (λb q=>.inl q) (λb o e n q=>by
  refine ui q (λq=>?_) λq=>?_
  ·exact n q
  ·replace e:=eS (fz b q) e;exact xNS e) (λb q=>by
  refine ui q (λq=>?_) λq=>?_
  ·exact .inl q
  ·exact .inr (J.live b q)) J.hand
theorem bY.stp (J:bY X fr Av ZZ s0 C new s H)(fz: ∀b∈ZZ,s0.heap.get? b=none)(hH: ∀a,X.aH=some a->a∉ZZ)(st:dY W s s')(hW: ∀b,W b->b∈ZZ)(hC: ∃m1,s'.heap.Ns C m1)(hN: ∀x c,(x,c)∈new-> ∃v,s'.heap.IsCell c v):bY X fr Av ZZ s0 C new s' H where
 ex:=J.ex.then_ (λb o o' e e'=>st.keep b o' (λq=>by replace e:=eS (fz b (hW b q)) e;exact xNS e) e') st.gens st.os
 hand:=J.hand.move (st.chg λb q=>.inr (hW b q)) λa e=>⟨J.hand.av a e,λo ho=>st.keep a o (λq=>hH a e (hW a q)) ho⟩
 live:=λb hb=>ac (J.live b hb) λo ho=>st.live b o ho
 ns:=hC
 cells:=hN
theorem bY.at (J:bY X fr Av ZZ s0 C new s H)(fz: ∀b∈ZZ,s0.heap.get? b=none)(hC:C∉aO fr/\X.aH≠some C)(hN: ∀x c,(x,c)∈new->c∉aO fr/\X.aH≠some c)(x:Ex X (aO fr) s s')(hH:au X s'.heap (ins Av ZZ) H'):bY X fr Av ZZ s0 C new s' H' where
 ex:=J.ex.trans x
 hand:=hH
 live:=λb hb=>by
  refine ac (J.live b hb) λo ho=>?_;by_cases q:X.aH=some b
  ·refine aB (hH.dict q) λo' ah ak h be=>?_;exact⟨o',h⟩
  ·refine ac (x.live ho q) λsl h=>?_;exact⟨_,h⟩
 ns:=by
  refine kK J.ns λm1 o es ep ho r=>?_;exact⟨m1,o,es,ep,x.keep _ _ ho hC.2 hC.1,r⟩
 cells:=λy c hc=>by
  refine aY (J.cells y c hc) λv o ho hd=>?_;exact⟨v,o,x.keep _ _ ho (hN y c hc).2 (hN y c hc).1,hd⟩
variable {sc:Scope}{nn:Nat}{tgt eF it:Expr}{gi:List Expr}{pos:Pos}{I D:qq7}{Z fp:List qq7}{items:List AV}{Good:qqK->(qq7->Prop)->Prop}{St:Nat->qqK->Prop}
noncomputable abbrev cy (sc:Scope)(nn:Nat)(C:qq7)(env:Env):Env:=compEnv (relabel sc env) (qq6 nn sc.names (bf env sc.names [])) C env
set_option tactic.hygienic true in
theorem gO {x:Str}: ∀(l:List (Str×qqL)) (k:Nat),(l.map (·.1)).Nodup-> ∀{a b:qq7},(x,a)∈qq6 k l []->(x,b)∈qq6 k l []->a=b:=by
 intro l
 induction l with
 |nil=>intro k _ a b h1;simp [qq6] at h1|cons y r ih=>
  intro k hn a b h1 h2;obtain⟨y,ky⟩:=y;simp only [ut,vC] at hn;unfold qq6 at h1 h2;split at h1
  ·rename_i q
   replace h2:=(if_pos q)▸h2;rw [bm] at h1 h2;have no: ∀{z:qq7},(x,z)∈qq6 (k+1) r []->x≠y:=λhz e=>hn.1 (vM.mpr (aj ((x,.cell)) (bO hz) e))
   (refine ui (vT.mp h1) (λh1=>?_) λh1=>?_)<;>(refine ui (vT.mp h2) (λh2=>?_) λh2=>?_)
   ·exact ih _ hn.2 h1 h2
   ·have e2:=qq2.mp h2;refine yJ e2 λah ak=>?_;clear e2;subst ah;subst ak;exact absurd rfl (no (by assumption))
   ·have e1:=qq2.mp h1;refine yJ e1 λah ak=>?_;clear e1;subst ah;subst ak;exact absurd rfl (no (by assumption))
   ·have e1:=qq2.mp h1;have e2:=qq2.mp h2;refine yJ e1 λah ak=>?_;clear e1;subst ah;subst ak;refine yJ e2 λah ak=>?_;clear e2;cases ah;subst ak;rfl
  ·rename_i q
   replace h2:=(if_neg q)▸h2;exact ih _ hn.2 h1 h2
theorem bY.loc (J:bY X fr Av ZZ s0 C (qq6 nn sc.names []) s H)(B0:ao X s0.heap Av fr H0)(L0:aJ X s0.heap env Av oa ae m cm)(ok:dM sc ae.sc=true)(fz: ∀b∈ZZ,s0.heap.get? b=none)(hC:C∈ZZ)(hCH:X.aH≠some C)
  (hN: ∀x c,(x,c)∈qq6 nn sc.names []->c∈ZZ) (na:(qq6 nn sc.names []).Pairwise λx y=>x.2≠y.2):
  ∃m1 d7,aJ X s.heap (cy sc nn C env) (ins Av ZZ) oa (aA sc ae) m1 d7:=by
 have L:=L0.ex2 (Av':=ins Av ZZ) B0 J.ex (λb q=>.inl q) (λb o e n q=>by
  refine ui q (λq=>?_) λq=>?_
  ·exact n q
  ·replace e:=eS (fz b q) e;exact xNS e)
 refine ac J.ns λm1 LD=> aU (fj ok) λo1 o2 ak=>?_
 classical
 have Oa: ∃d7:Str->Option qq0,(∀x c,(x,c)∈qq6 nn sc.names []->s.heap.IsCell c (d7 x))/\ ∀x,sc.names.lookup x=some .free->d7 x=cm x:=by
  refine(aj (λx=>if h: ∃v c,(x,c)∈qq6 nn sc.names []/\s.heap.IsCell c v then h.choose else cm x) (λx c hc=>?_) (λx hx=>?_))
  ·have h: ∃v c,(x,c)∈qq6 nn sc.names []/\s.heap.IsCell c v:=ac (J.cells x c hc) λv hv=>(ei v c hc hv);dsimp only;refine aa (dif_pos h) (af h.choose_spec λc1 W8 Sp=>?_);have one: ∀c',(x,c')∈qq6 nn sc.names []->c'=c:=λc' W9=>by
    exact gO sc.names nn o2 W9 hc
   replace Sp:=(one c1 W8)▸Sp;exact Sp
  ·dsimp only;rw [dif_neg];rintro ⟨v,c,hc,_⟩;have:=a_ o2 (bO hc);replace this:=eS hx this;refine al this λah=>?_;clear this;cases ah
 refine af Oa λd7 g1 g2=>(cK m1 d7 (L.comp ok LD (.inr hC) hCH (λx ob e=>?_) (λx c hc=>⟨g1 x c hc,.inr (hN x c hc)⟩) g2 na λx c y c' h1 h2 e=>?_))
 ·refine bb (L0.owns x ob e) λa1 a2 a3 a4 a5=>?_;have old: ∀b,Av b->b≠C:=λb hb e=>by
   refine ac (B0.live b hb) λo ho=>?_;replace ho:=e▸ho;replace ho:=eS (fz C hC) ho;exact xNS ho
  refine⟨old _ a2,λcc ks vs e'=>?_⟩;subst e';refine bb (L.owns x _ e) λb1 b2 b3 b4 b5=> d9 b5 λdx es n av nl nh k1 k2 k3 k4=> d9 a5 λEC es' n' Uz nl' nh' ID k2' k3' k4'=>?_;have:EC=dx:=by
   have h:=(J.ex.live ID b4);refine ac h ?_;clear h;intro sl h;replace h:=eS k1 h;injection h with h
   injection h with _ h
   injection h with h
   exact h.symm
  subst this;exact(fO EC es n av (old _ Uz) nh k1 k2 k3 k4)
 ·have av:=L0.avC y c' h2;refine ac (B0.live c' av) λo ho=>?_;replace ho:=Eq.symm e▸ho;replace ho:=eS (fz c (hN x c h1)) ho;exact xNS ho
theorem zy {t:Expr}{v:AV}(h:fC t v=some bs):bs.map (·.1)=kH t/\(bs.map (·.1)).Nodup:=
 lq (K:=λt v bs=>bs.map (·.1)=kH t/\(bs.map (·.1)).Nodup) h (λx px=>⟨rfl,List.pairwise_singleton _ _⟩) λes k p ns l e e1 e2=>by
  refine aa (vo (uC e1)) ?_;exact⟨by refine(?_:ns=(namesOf es).getD []);refine aa e ?_;rfl,e2⟩
theorem Bw {bs r:List (Str×AV)}(hn:(bs.map (·.1)).Nodup){x:Str}{d:AV}(h:(bs++r).lookup x=some d):(bs.reverse++r).lookup x=some d:=by
 rw [vO] at h⊢;refine cO (bs.lookup x) (λq=>?_) λd' q=>?_
 ·replace h:=q▸h;have:bs.reverse.lookup x=none:=by
   cases z:bs.reverse.lookup x with
   |none=>rfl|some d'=>
    have:=a_ hn (List.mem_reverse.mp (mem_of_lookup z));replace this:=eS q this;exact xNS this
  exact aa this h
 ·replace h:=q▸h;have h:d'=d:=by simpa using h
  subst h;have hm:(x,d')∈bs.reverse:=List.mem_reverse.mpr (mem_of_lookup q);refine aa (a_ (by exact aa List.map_reverse ((List.reverse_perm _).nodup_iff.mpr hn)) hm) ?_;rfl
variable {sc:Scope}{nn:Nat}{tgt eF it:Expr}{gi:List Expr}{pos:Pos}{I D:qq7}{Z fp:List qq7}{items:List AV}{Good:qqK->(qq7->Prop)->Prop}{St:Nat->qqK->Prop}
theorem IP (h:i<n):n+1-(i+1)<n+1-i:=by exact VS h
theorem FX (h:i<n):n-(i+1)<n-i:=by exact VT h
theorem IQ {a b i n:Nat}(e:b=a)(h:a<=i)(h1:i<n)(h2:n<=1000):b<=sizeLine:=by exact aa sizeLine_eq (VU e h h1 h2)
theorem oY (h:i<=n)(h2: ¬i<n):i=n:=qxL h (qxG h2)
theorem IR {l:List α}{y:α}(h:l.length<=i):(l++ [y]).length<=i+1:=by exact aa qxU (uo h 1)
theorem M_ {ys a r:List α}{y:α}(h:ys=a++y::r):ys=a++ [y]++r:=by refine aa h ?_;rewrite [up];rfl
theorem Bx {mt:List (Str×AV)->M Bool}{me:List (Str×AV)->M AV}{d:AV}{l zs:List AV}{Hf:HS}(e:ck (bA tgt mt) (bA tgt me) (d::l) H=some (.ok zs,Hf)):
  ∃bs,fC tgt d=some bs/\ ∃b H1,mt bs H=some (.ok b,H1)/\if b then∃y H2 FY,me bs H1=some (.ok y,H2)/\ck (bA tgt mt) (bA tgt me) l H2=some (.ok FY,Hf)/\zs=y::FY else ck (bA tgt mt) (bA tgt me) l H1=some (.ok zs,Hf):=by
 refine(M.bind_some e).elim (λq=>?_) λq=>?_
 ·refine af q ?_;clear q;intro p ah q;exact xO q
 refine aY q λb H1 e1 e2=>?_;unfold bA at e1 e2;refine cO (fC tgt d) (λq=>?_) λbs q=>?_
 ·replace e1:=q▸e1;exact xNS e1
 rw [q] at e1 e2;refine af (fk e1) λaz h e1=>?_;refine⟨bs,q,b,H1,vl h▸e1,?_⟩
 induction b using Bool.casesOn with
 |false=>exact e2|true=>
  refine(M.bind_some e2).elim (λq=>?_) λq=>?_
  ·refine af q ?_;clear q;intro p ah q;exact xO q
  refine aY q λy H2 g1 g2=> af (fk g1) λaz h g1=>(M.bind_some g2).elim (λq=>?_) λq=>?_
  ·refine af q ?_;clear q;intro p ah q;exact xO q
  refine aY q λFY H3 h1 h2=> Mx h2 λah ak=>?_;clear h2;subst ah;subst ak;exact(iD y H2 FY (vl h▸g1) h1 rfl)
def CW (C:qq7)(new:List (Str×qq7))(b:qq7):Prop:=b=C\/ ∃x,(x,b)∈new
theorem CS {arr:Array qq0}(x:h.PlainList D arr)(k: ∀o,h.get? D=some o->h'.get? D=some o):h'.PlainList D arr:=ac x λn h=>⟨n,k _ h⟩
theorem z6 (hA:A.handled=none)(B0:ao X s0.heap Av fr H0)(L0:aJ X s0.heap env Av oa ae m cm)(ok:dM sc ae.sc=true)(tok:kI sc tgt=true)(hC:C∈ZZ)(hN: ∀x c,(x,c)∈qq6 nn sc.names []->c∈ZZ)(na:(qq6 nn sc.names []).Pairwise λx y=>x.2≠y.2)
  (fz: ∀b∈ZZ,s0.heap.get? b=none) (By: ∀a,X.aH=some a->a∉ZZ) (J:bY X fr Av ZZ s0 C (qq6 nn sc.names []) s H) {d:AV} {v:qq0} {bs:List (Str×AV)} (U0:fC tgt d=some bs) (hv:VV X s.heap (ins Av ZZ) d v) {Q:Unit->qq1->Prop} {E:qq0->qq1->Prop}
  (hQ: ∀s' m' dc,bY X fr Av ZZ s0 C (qq6 nn sc.names []) s' H->dY (CW C (qq6 nn sc.names [])) s s'->aJ X s'.heap (cy sc nn C env) (ins Av ZZ) oa {aA sc ae with rho:=bs++(aA sc ae).rho} m' dc->Q () s'):
  qq3 (qq5 X.P X.w) A (assign tgt (cy sc nn C env) v) Q E s:=by
 refine aX (J.loc B0 L0 ok fz hC (λq=>By C q hC) hN na) λm1 d7 L2=> ai (zy U0) λbn bnd=>?_;have U1: ∀b,CW C (qq6 nn sc.names []) b->b∈ZZ:=λb q=>q.elim (λq=>q▸hC) λq=>q.elim λx q=>hN x b q;have hW: ∀b,CW C (qq6 nn sc.names []) b->ins Av ZZ b:=λb q=>.inr (U1 b q);refine aU (fj ok) λo1 o2 ak=>?_;have WA: ∀x∈bs.map (·.1),DL (cy sc nn C env) (CW C (qq6 nn sc.names [])) (aA sc ae).om x:=λx hx=>by
  have tk:=qqJ.mp tok x (bn▸hx);have tk:sc.names.lookup x=some .local\/sc.names.lookup x=some .cell:=(Bool.or_eq_true_iff.mp tk).imp beq_iff_eq.mp beq_iff_eq.mp;have nf:sc.names.lookup x≠some .free:=λq=>tk.elim (λh=>by replace h:=eS q h;refine al h λah=>?_;clear h;cases ah) λh=>by replace h:=eS q h;refine al h λah=>?_;clear h;cases ah
  have kk:Env.kindOf (cy sc nn C env) x=match sc.names.lookup x with
    |some .free=>if env.scope.kind= .function/\env.kindOf x=some .cell then some .cell else some .free
    |k=>k:=iM
  refine(gF (tk.imp (λh=>by exact aa kk (aa h rfl)) (λh=>by exact aa kk (aa h rfl))) ?_ (.inl rfl) (λc hc=>?_))
  ·refine cO ((aA sc ae).om.lookup x) (λq=>q) λob q=>absurd (beq_iff_eq.mp (bD (p:=λz=>sc.names.lookup z==some .free) q).2) nf
  ·have hc:(qq6 nn sc.names (bf env sc.names [])).lookup x=some c:=hc;rcases cH (env:=env) o2 (n:=nn) (x:=x) with⟨g1,c',g2,g3⟩|⟨g1,g2⟩|⟨g1,g2,g3⟩
   ·replace hc:=eS g2 hc;exact .inr ⟨x,ug hc▸g3⟩
   ·exact absurd g1 nf
   ·replace hc:=eS g3 hc;exact xNS hc
 have hJ: ∀s',dY (CW C (qq6 nn sc.names [])) s s'->(∃m1,s'.heap.Ns C m1)->(∀x c,(x,c)∈qq6 nn sc.names []-> ∃v,s'.heap.IsCell c v)->bY X fr Av ZZ s0 C (qq6 nn sc.names []) s' H:=λs' st h1 h2=>J.stp fz By st U1 h1 h2;refine jo hA (J.base B0 fz) L2 hW U0 WA hv (λs' st _=>?_) λs' m' dc st _ L=>?_
 ·have ex':Ex X (aO fr) s0 s':=J.ex.then_ (λb o o' e e'=>st.keep b o' (λq=>xNS ((fz b (U1 b q)).symm.trans e)) e') st.gens st.os;exact B0.ex2 ex' (λb q=>.inl q) (λb o e n q=>q.elim n λq=>xNS ((fz b q).symm.trans e)) (λb q=>q.imp id λq=>(J.live b q).elim λo ho=>st.live b o ho)
   (J.hand.move (st.chg λb q=>hW b q) λa e=>⟨J.hand.av a e,λo ho=>st.keep a o (λq=>By a e (U1 a q)) ho⟩)
 ·refine hQ s' m' dc (hJ s' st ⟨m',L.ns⟩ λx c hc=>?_) st (L.rho λx d h=>Bw bnd h);have:(qq6 nn sc.names (bf env sc.names [])).lookup x=some c:=by
   rcases cH (env:=env) o2 (n:=nn) (x:=x) with⟨g1,c',g2,g3⟩|⟨g1,g2⟩|⟨g1,g2,g3⟩
   ·exact ac (J.cells x c hc) λo ho=> aa g2 (aa (gO sc.names nn o2 g3 hc) rfl)
   ·exact absurd (a_ o2 (bO hc)) (by exact aa g1 (λh=>nomatch h))
   ·exact absurd (a_ o2 (bO hc)) g1
  exact⟨_,L.cells x c this⟩
def FZ (X:Cx)(fr:List Env)(Av:qq7->Prop)(ZZ:List qq7)(s0:qq1)(C D:qq7)(new:List (Str×qq7))(St:Nat->qqK->Prop)(i:Nat)(H:HS)(tz:List AV)(s:qq1):Prop:=
 bY X fr Av ZZ s0 C new s H/\St i s.heap/\ ∃arr,s.heap.PlainList D arr/\cu X s.heap (ins Av ZZ) tz arr.toList
theorem DN (hA:A.handled=none)(B0:ao X s0.heap Av fr H0)(L0:aJ X s0.heap env Av oa ae m cm)(ok:dM sc ae.sc=true)(tok:kI sc tgt=true)
  (IT:oV X A tgt I Z fp items Good St) (iN:Good s0.heap Av)
  (hZ: ∀b∈Z,b∈ZZ) (DO: ∀b∈fp,b∈Z\/((∃o,s0.heap.get? b=some o)/\X.aH≠some b/\b∉aO fr))
  (hC:C∈ZZ) (U2:C∉Z) (hD:D∈ZZ) (Sq:D∉Z) (U3:D≠C) (hN: ∀x c,(x,c)∈qq6 nn sc.names []->c∈ZZ/\c∉Z/\c≠C/\c≠D) (na:(qq6 nn sc.names []).Pairwise λx y=>x.2≠y.2)
  (fz: ∀b∈ZZ,s0.heap.get? b=none) (eJ:items.length<=1000) {mt:List (Str×AV)->M Bool} {me:List (Str×AV)->M AV} {Hf:HS}
  (fW: ∀bs s H m1 d7,ao X s.heap (ins Av ZZ) fr H->aJ X s.heap (cy sc nn C env) (ins Av ZZ) oa {aA sc ae with rho:=bs++(aA sc ae).rho} m1 d7->g_ X A fr (ins Av ZZ) s H (dS gi (cy sc nn C env)) (mt bs))
  (lu: ∀bs s H m1 d7,ao X s.heap (ins Av ZZ) fr H->aJ X s.heap (cy sc nn C env) (ins Av ZZ) oa {aA sc ae with rho:=bs++(aA sc ae).rho} m1 d7->bw X A fr (ins Av ZZ) s H (eval eF (cy sc nn C env)) (me bs))
  {i:Nat} {tz zs:List AV} (hi:i<=items.length) (Na:tz.length<=i) (J:FZ X fr Av ZZ s0 C D (qq6 nn sc.names []) St i H tz s) (e:ck (bA tgt mt) (bA tgt me) (items.drop i) H=some (.ok zs,Hf)) {Q:Fin->qq1->Prop} {E:qq0->qq1->Prop}
  (hG:i<items.length-> ∀H1 Sr FY s',Sr.length<=i+1->tz++zs=Sr++FY->ck (bA tgt mt) (bA tgt me) (items.drop (i+1)) H1=some (.ok FY,Hf)->FZ X fr Av ZZ s0 C D (qq6 nn sc.names []) St (i+1) H1 Sr s'->Q (.again (.compLoop (.ListComp eF [⟨tgt,it,gi,0⟩] sc pos) 0 (.ref I) (.ref D) (cy sc nn C env))) s')
  (hE: ∀s1 arr,bY X fr Av ZZ s0 C (qq6 nn sc.names []) s1 Hf->s1.heap.PlainList D arr->cu X s1.heap (ins Av ZZ) (tz++zs) arr.toList->Q (.done .next) s1):
  qq3 (qq5 X.P X.w) A (compTurn (.ListComp eF [⟨tgt,it,gi,0⟩] sc pos) 0 (.ref I) (.ref D) (cy sc nn C env)) Q E s:=by
 refine aU J ?_;clear J;intro J st aI;refine af aI λarr acc Ss=>?_;have By: ∀a,X.aH=some a->a∉ZZ:=λa e q=>(B0.live a (B0.hand.av a e)).elim λo ho=>xNS ((fz a q).symm.trans ho);have Su: ∀b∈ZZ,b∉aO fr:=λb hb q=>(B0.live b (B0.frok.av q)).elim λo ho=>xNS ((fz b hb).symm.trans ho);have Sv: ∀b∈fp,∀{W:qq7->Prop},(∀b,W b->b∈ZZ/\b∉Z)-> ¬W b:=λb hb W h q=>(DO b hb).elim (λz=>(h b q).2 z) λz=>z.1.elim λo ho=>xNS ((fz b (h b q).1).symm.trans ho);rw [compTurn_list];refine ua (qqF ?_);have Sw:Good s.heap (ins Av ZZ):=IT.good _ _ _ _ iN λb o e n=>⟨(B0.chg J.ex b o e n).1,λq=>q.elim n λq=>xNS ((fz b q).symm.trans e)⟩;have stepZ: ∀{s1 s2:qq1} {H},bY X fr Av ZZ s0 C (qq6 nn sc.names []) s1 H->dY (· ∈Z) s1 s2->bY X fr Av ZZ s0 C (qq6 nn sc.names []) s2 H:=λ{s1 s2 H} J st=>J.stp fz By st (λb hb=>hZ b hb)
  (by refine kK J.ns λm1 o es ep ho r=>?_;exact⟨m1,o,es,ep,st.keep _ _ U2 ho,r⟩)
  (λx c hc=>by refine aY (J.cells x c hc) λv o ho hd=>?_;exact⟨v,o,st.keep _ _ (hN x c hc).2.1 ho,hd⟩)
 by_cases d3:i<items.length
 ·have hd:=qqI d3;replace e:=(List.drop_eq_getElem_cons d3)▸e;refine ua (IT.item i _ (ins Av ZZ) s _ _ hd st Sw (J.base B0 fz).live (λb hb=>.inr (hZ b hb)) λv s1 a7 go=>ua (go _ _ λs2 lX Sx hv=>?_));have WB:=a7.p.trans lX.p;have J2:=stepZ J WB;have WC:=CS acc λo h=>WB.keep _ _ Sq h;have Sy:cu X s2.heap (ins Av ZZ) tz arr.toList:=aF.chg (WB.chg λb hb=>.inr (hZ b hb)) _ _ Ss;refine af (Bx e) λbs U0 e=> ua (z6 hA B0 L0 ok tok hC (λx c h=>(hN x c h).1) na fz By J2 U0 hv λs3 m3 WD J3 LL L3=>ua ?_);have hW: ∀b,CW C (qq6 nn sc.names []) b->b∈ZZ/\b∉Z:=λb q=>q.elim (λq=>q▸⟨hC,U2⟩) λq=>q.elim λx q=>⟨(hN x b q).1,(hN x b q).2.1⟩;have Sz:=CS WC λo h=>LL.keep _ _ (λq=>q.elim U3 λq=>q.elim λx q=>(hN x D q).2.2.2 rfl) h;have S0:cu X s3.heap (ins Av ZZ) tz arr.toList:=aF.chg (LL.chg λb q=>.inr (hW b q).1) _ _ Sy;have S1:=IT.frame _ _ _ Sx λb hb o h=>LL.keep b o (Sv b hb hW) h;have B3:=J3.base B0 fz;have Nb: ∀{j:Nat} {sa sb:qq1},Ex X (aO fr) sa sb->St j sa.heap->St j sb.heap:=λ{j sa sb} x h=>IT.frame _ _ _ h λb hb o e=>(DO b hb).elim (λz=>x.keep b o e (λq=>By b q (hZ b z)) (Su b (hZ b z))) λz=>x.keep b o e z.2.1 z.2.2;have WE: ∀{sa sb:qq1} {arr},Ex X (aO fr) sa sb->sa.heap.PlainList D arr->sb.heap.PlainList D arr:=λx h=>CS h λo h=>x.keep _ _ h (λq=>By D q hD) (Su D hD);have YQ: ∀{sa sb:qq1} {Ha Hb},bY X fr Av ZZ s0 C (qq6 nn sc.names []) sa Ha->Ex X (aO fr) sa sb->au X sb.heap (ins Av ZZ) Hb->bY X fr Av ZZ s0 C (qq6 nn sc.names []) sb Hb:=λJ x y=>J.at fz ⟨Su C hC,λq=>By C q hC⟩ (λx c h=>⟨Su c (hN x c h).1,λq=>By c q (hN x c h).1⟩) x y;refine aY e λb H1 e1 e2=> fW bs s3 H m3 WD B3 L3 _ _ e1 _ _ (λb' hb bv s4 x4 y4 z4=>?_) (λp q=>xO q);refine aa (show bv=b from(show b'=bv from z4).symm.trans (vl hb).symm) ?_;have J4:=YQ J3 x4 y4;have LM:cu X s4.heap (ins Av ZZ) tz arr.toList:=aF.chg (B3.chg x4) _ _ S0
  induction b using Bool.casesOn with
  |false=>exact ud (hG d3 H1 tz zs s4 (uM Na) rfl e2 ⟨J4,Nb x4 S1,arr,WE x4 Sz,LM⟩)|true=>
   refine bT e2 λy H2 FY g1 g2 hz=>?_;have B4:=J4.base B0 fz;refine ua (ua (lu bs s4 H1 m3 WD B4 (L3.ex B3 x4) _ _ g1 _ _ (λy' hy yv s5 x5 y5 z5=>?_) (λp q=>xO q)));have J5:=YQ J4 x5 y5;have z7:cu X s5.heap (ins Av ZZ) tz arr.toList:=aF.chg (B4.chg x5) _ _ LM;have WG:=aF.length z7;replace WG:=eS ux WG;rw [<-Except.ok.inj hy] at z5;refine ua (wpAny_list_append_plain (WE x5 (WE x4 Sz)) (λh6 YR YS=>ud (ud ?_)) (IQ WG Na d3 eJ));have Ob:dY (· =D) s5 {s5 with heap:=h6}:=⟨λb o n e=>(YS.2 b n).trans e,λb o e=>by
    by_cases q:b=D
    ·refine ac YR λn h=>?_;exact⟨_,q▸h⟩
    ·exact⟨o,(YS.2 b q).trans e⟩,rfl,rfl⟩
   have J6:=J5.stp (s':={s5 with heap:=h6}) fz By Ob (λb q=>q▸hD) (by refine kK J5.ns λm1 o es ep ho r=>?_;exact⟨m1,o,es,ep,Ob.keep _ _ U3.symm ho,r⟩)
    (λx c hc=>by refine aY (J5.cells x c hc) λv o ho hd=>?_;exact⟨v,o,Ob.keep _ _ (hN x c hc).2.2.2 ho,hd⟩)
   have c6:dB s5.heap (ins Av ZZ) h6 (ins Av ZZ):=Ob.chg λb q=>.inr (q▸hD);refine hG d3 H2 (tz++ [y]) FY _ (IR Na) (M_ (congrArg (tz++ ·) hz)) g2 ⟨J6,IT.frame _ _ _ (Nb x5 (Nb x4 S1)) λb hb o h=>Ob.keep b o (Sv b hb (W:=(· =D)) λb q=>q▸⟨hD,Sq⟩) h,arr.push yv,YR,?_⟩;exact aa qx9 (aF.append (aF.chg c6 _ _ z7) (.single (VR.chg c6 _ _ z5)))
 ·rw [oY hi d3,List.drop_length] at e;refine Mx e λah ak=>?_;clear e;subst ah;subst ak;refine ua (IT.done s _ _ (oY hi d3▸st) λs1 a7=>ud (hE s1 arr (stepZ J a7.p) (CS acc λo h=>a7.keep _ _ Sq h) ?_));rw [uN];exact aF.chg (a7.p.chg λb hb=>.inr (hZ b hb)) _ _ Ss
theorem DP (hA:A.handled=none)(B0:ao X s0.heap Av fr H0)(L0:aJ X s0.heap env Av oa ae m cm)(ok:dM sc ae.sc=true)(tok:kI sc tgt=true)
  (IT:oV X A tgt I Z fp items Good St) (iN:Good s0.heap Av)
  (hZ: ∀b∈Z,b∈ZZ) (DO: ∀b∈fp,b∈Z\/((∃o,s0.heap.get? b=some o)/\X.aH≠some b/\b∉aO fr))
  (hC:C∈ZZ) (U2:C∉Z) (hD:D∈ZZ) (Sq:D∉Z) (U3:D≠C) (hN: ∀x c,(x,c)∈qq6 nn sc.names []->c∈ZZ/\c∉Z/\c≠C/\c≠D) (na:(qq6 nn sc.names []).Pairwise λx y=>x.2≠y.2)
  (fz: ∀b∈ZZ,s0.heap.get? b=none) (eJ:items.length<=1000)
  {mt:List (Str×AV)->M Bool} {me:List (Str×AV)->M AV} {ys:List AV} {Hf:HS} {R:Result->qq1->Prop}
  (fW: ∀bs s H m1 d7,ao X s.heap (ins Av ZZ) fr H->aJ X s.heap (cy sc nn C env) (ins Av ZZ) oa {aA sc ae with rho:=bs++(aA sc ae).rho} m1 d7->g_ X A fr (ins Av ZZ) s H (dS gi (cy sc nn C env)) (mt bs))
  (lu: ∀bs s H m1 d7,ao X s.heap (ins Av ZZ) fr H->aJ X s.heap (cy sc nn C env) (ins Av ZZ) oa {aA sc ae with rho:=bs++(aA sc ae).rho} m1 d7->bw X A fr (ins Av ZZ) s H (eval eF (cy sc nn C env)) (me bs))
  (hR: ∀s1 arr,bY X fr Av ZZ s0 C (qq6 nn sc.names []) s1 Hf->s1.heap.PlainList D arr->cu X s1.heap (ins Av ZZ) ys arr.toList->R (.ok .next) s1)
  (J:bY X fr Av ZZ s0 C (qq6 nn sc.names []) s H) (FW:St 0 s.heap) (WH:s.heap.PlainList D #[]) (e:ck (bA tgt mt) (bA tgt me) items H=some (.ok ys,Hf)):
  qzZ (qq5 X.P X.w) A (.compLoop (.ListComp eF [⟨tgt,it,gi,0⟩] sc pos) 0 (.ref I) (.ref D) (cy sc nn C env)) R s:=by
 refine codeAny_loop rfl (λk s=>∃i H tz zs,k=items.length+1-i/\i<=items.length/\tz.length<=i/\ys=tz++zs/\ck (bA tgt mt) (bA tgt me) (items.drop i) H=some (.ok zs,Hf)/\FZ X fr Av ZZ s0 C D (qq6 nn sc.names []) St i H tz s) (λk s hI=>?_) (items.length+1)
  ⟨0,H,[],ys,rfl,uG _,ur _,rfl,e,J,FW,#[],WH,rfl⟩
 exact O6 hI λi H tz zs hk hi Na YT e J=> wpAny_noted (DN hA B0 L0 ok tok IT iN hZ DO hC U2 hD Sq U3 hN na fz eJ fW lu hi Na J e (λd3 H1 Sr FY s' h1 h2 h3 J=>⟨rfl,items.length+1-(i+1),hk▸IP d3,i+1,H1,Sr,FY,rfl,d3,h1,YT.trans h2,h3,J⟩) λs1 arr h1 h2 h3=>hR s1 arr h1 h2 (YT▸h3))
def Bz (X:Cx)(Av:qq7->Prop)(target:Expr)(q:qq7->Prop)(sm:qq1)(items:List AV)(it:qq0)(s2:qq1):Prop:=
 ∃I Z fp Good St,it= .ref I/\I∈Z/\(∀A:qqG,A.handled=none->oV X A target I Z fp items Good St)/\Good sm.heap Av/\(∀b∈Z,sm.heap.get? b=none/\ ∃o,s2.heap.get? b=some o)/\
  (∀b∈fp,b∈Z\/((∃o,sm.heap.get? b=some o)/\q b))/\dY (λ_=>False) sm s2/\St 0 s2.heap
def oZ (X:Cx)(A:qqG)(fr:List Env)(Av:qq7->Prop)(target:Expr)(q:qq7->Prop)(s:qq1)(H:HS)(t:Sem qq0)(mm:M (List AV)):Prop:=
 ∀r H1,mm H=some (r,H1)-> ∀(Q:qq0->qq1->Prop) (E:qq0->qq1->Prop),
  (∀items,r= .ok items-> ∀x sm s1,Ex X (aO fr) s sm->au X sm.heap Av H1->(∀(A':qqG),A'.handled=none-> ∀(Q':qq0->qq1->Prop) (E':qq0->qq1->Prop),(∀it s2,Bz X Av target q sm items it s2->Q' it s2)->qq3 (qq5 X.P X.w) A' (pyIter x) Q' E' s1)->Q x s1)->
  (∀p,r= .error p-> ∀e s',Ex X (aO fr) s s'->au X s'.heap Av H1->fH X s.heap s'.heap Av p e->E e s')->
  qq3 (qq5 X.P X.w) A t Q E s
variable {target:Expr}
theorem aW {s2:qq1}(k: ∀b o,s.heap.get? b=some o->s2.heap.get? b=some o)(h:s2.heap.objs.size<=b):s.heap.get? b=none:=by
 cases q:s.heap.get? b with
 |none=>rfl|some o=>exact absurd (ul (k b o q)) (qxA.mpr h)
theorem iO {o:Obj}:dY (λ_=>False) s {s with heap:=s.heap.push o}:= .of_keeps (tk:=s.toks) λ_ _ e=>uc _ e
theorem F_ {x:AV}(hx:VV X s.heap Av x u)(e:fN x=some items){Q E}(hQ: ∀it s2,Bz X Av target (λb=>¬Av b) s items it s2->Q it s2):qq3 (qq5 X.P X.w) A (pyIter u) Q E s:=by
 induction x using AV.casesOn with
 |tup l=>
  refine al e λah=>?_;clear e;subst ah;refine aP hx λa vs ak na pt z r=>?_;clear hx;subst ak;have lv:=aF.length r;have ha: ∃o,s.heap.get? a=some o:=ac pt λ_ h=>⟨_,h⟩;have d3:a<s.heap.objs.size:=ac ha λ_ h=>ul h;refine wpAny_pyIter_tuple pt.is (hQ _ _ ⟨s.heap.objs.size,[s.heap.objs.size],[s.heap.objs.size,a],_,_,rfl,by exact .head _,λA hA=>iter_tuple hA (uy d3) (vals:=vs) (by refine bq lv ?_;rfl),r,λb hb=>?_,λb hb=>?_,iO,(aV _ (ue _ rfl) rfl rfl),pt.is.push _⟩)
  ·refine aa (qq2.mp hb) ?_;exact⟨aW (s2:=s) (λ_ _ e=>e) (ur _),_,ue _ rfl⟩
  ·refine ui (uY.mp hb) ?_ ?_;intro az;subst az;rotate_left;intro hb;rotate_right
   ·exact .inl (by exact .head _)
   ·exact aa (qq2.mp hb) (.inr ⟨ha,na⟩)
 |list l=>
  refine al e λah=>?_;clear e;subst ah;refine aP hx λa vs ak na pt z r=>?_;clear hx;subst ak;have lv:=aF.length r;have ha: ∃o,s.heap.get? a=some o:=ac pt λ_ h=>⟨_,h⟩;have d3:a<s.heap.objs.size:=ac ha λ_ h=>ul h;refine qzV pt.isList (hQ _ _ ⟨s.heap.objs.size,[s.heap.objs.size],[s.heap.objs.size,a],_,_,rfl,by exact .head _,λA hA=>nt hA (uy d3) (vals:=vs) (by refine bq lv ?_;rfl),r,λb hb=>?_,λb hb=>?_,iO,(aV _ (ue _ rfl) rfl rfl),pt.isList.push _⟩)
  ·refine aa (qq2.mp hb) ?_;exact⟨aW (s2:=s) (λ_ _ e=>e) (ur _),_,ue _ rfl⟩
  ·refine ui (uY.mp hb) ?_ ?_;intro az;subst az;rotate_left;intro hb;rotate_right
   ·exact .inl (by exact .head _)
   ·exact aa (qq2.mp hb) (.inr ⟨ha,na⟩)
 |rng k=>
  ·refine ai (NW e) λhk e=> al e λah=>?_;clear e;subst ah;refine jz hx λa t1 t2 t3 be na hr=>?_;clear hx;subst be;refine wpAny_pyIter_range hr (small_one (VW) (VX) (VY) (VZ hk)) ?_;have hz:Builtin.Range.rangeSize 0 (k:Int) 1=(k:Int):=by
    rw [rangeSize_one];split<;>omega
   refine aa hz (hQ _ _ (EV s.heap.objs.size ([s.heap.objs.size]) ([s.heap.objs.size]) _ _ rfl (by exact .head _) (λA hA=>Bu hA (k:=k)) trivial (λb hb=>?_) (λb hb=>.inl hb) iO ?_))
   ·refine aa (qq2.mp hb) ?_;exact⟨aW (s2:=s) (λ_ _ e=>e) (ur _),_,ue _ rfl⟩
   ·refine(?_:(s.heap.push _).get? _=_);refine aa (ue _ rfl) ?_;rfl
 |_=>exact xNS e
theorem oZ.of_val {t:Sem qq0}{mm:M AV}(h:bw X A fr Av s H t mm):oZ X A fr Av target (λb=>¬Av b) s H t (M.bind mm λv=>lift (fN v)):=by
 intro r H1 e Q E hQ hE;refine b7 e ?_ ?_;intro p e1 ak;subst ak;rotate_left;intro a H2 e1 e2;rotate_right
 ·exact h _ _ e1 _ _ (λd q=>xE q) λp' q e' s' x y z=>hE p' (by refine jE q λah=>?_;clear q;subst ah;rfl) e' s' x y z
 ·refine cO (fN a) (λhi=>?_) λitems hi=>?_
  ·replace e2:=hi▸e2;exact xNS e2
  ·replace e2:=hi▸e2;refine aN e2 λah ak=>?_;clear e2;subst ah;subst ak;exact h _ _ e1 _ _ (λd q v s' x y z=>hQ items rfl v s' s' x y λA' _ Q' E' h'=>by
    refine jO q λah=>?_;clear q;subst ah;exact F_ z hi h') (λp q=>xO q)
theorem oZ.of_own (B:ao X s.heap Av fr H)(L:aJ X s.heap env Av oa ae m cm){e:Expr}(h:b9 ae e=some l):oZ X A fr Av target (λb=>X.aH≠some b/\b∉aO fr) s H (eval e env) (M.pure l):=by
 intro r H1 e' Q E hQ hE;refine aN e' λah ak=>?_;clear e';subst ah;subst ak;refine aY (kW h) λx p q hl=>?_;subst q;refine bb (L.owns x _ hl) λa1 a2 a3 a4 aI=>aC aI λvs pt z r=> af (jg a1) λk hk ak=> wpAny_Name (kY L a1 ?_) (gn L hk);refine hQ l rfl _ s s (.refl _ _) B.hand λA' _ Q' E' h'=>?_;have lv:=aF.length r;have ha: ∃o,s.heap.get? (oa x)=some o:=ac pt λ_ h=>⟨_,h⟩;have d3:oa x<s.heap.objs.size:=ac ha λ_ h=>ul h;refine qzV pt.isList (h' _ _ ⟨s.heap.objs.size,[s.heap.objs.size],[s.heap.objs.size,oa x],_,_,rfl,by exact .head _,λA hA=>nt hA (uy d3) (vals:=vs) (by refine bq lv ?_;rfl),r,λb hb=>?_,λb hb=>?_,iO,(aV _ (ue _ rfl) rfl rfl),pt.isList.push _⟩)
 ·refine aa (qq2.mp hb) ?_;exact⟨aW (s2:=s) (λ_ _ e=>e) (ur _),_,ue _ rfl⟩
 ·refine ui (uY.mp hb) ?_ ?_;intro az;subst az;rotate_left;intro hb;rotate_right
  ·exact .inl (by exact .head _)
  ·refine aa (qq2.mp hb) (.inr (aQ ha a4 (λq=>?_)));refine ac pt λn h=>?_;have:=B.frs_live q h;simp at this
theorem oZ.weak {q q':qq7->Prop}{t:Sem qq0}{mm:M (List AV)}(B:ao X s.heap Av fr H)(h:oZ X A fr Av target q s H t mm)(hq: ∀b,q b->q' b):oZ X A fr Av target q' s H t mm:=λr H1 e Q E hQ hE=>
 h r H1 e Q E (λitems hi x sm s1 x1 y1 z1=>hQ items hi x sm s1 x1 y1 λA' WI Q' E' h'=>z1 A' WI Q' E' λit s2 g=>h' it s2 (by
  exact ES g λI Z fp Good St g1 g2 g3 g4 g5 g6 g7 g8=>(EV I Z fp Good St g1 g2 g3 g4 g5 (λb hb=>(g6 b hb).imp id λz=>⟨z.1,hq b z.2⟩) g7 g8))) hE
theorem oZ.use {q:qq7->Prop}{t:Sem qq0}{mm:M (List AV)}(h1:oZ X A fr Av target q s H t mm){f:List AV->M δ}{r:Except AV δ}(e:M.bind mm f H=some (r,H')){Q:qq0->qq1->Prop}
  (hQ: ∀items H1,f items H1=some (r,H')-> ∀x sm s1,Ex X (aO fr) s sm->au X sm.heap Av H1->(∀(A':qqG),A'.handled=none-> ∀(Q':qq0->qq1->Prop) (E':qq0->qq1->Prop),(∀it s2,Bz X Av target q sm items it s2->Q' it s2)->qq3 (qq5 X.P X.w) A' (pyIter x) Q' E' s1)->Q x s1)
  (hE: ∀p,r= .error p-> ∀e s',Ex X (aO fr) s s'->au X s'.heap Av H'->fH X s.heap s'.heap Av p e->E e s'):qq3 (qq5 X.P X.w) A t Q E s:=by
 refine(M.bind_some e).elim (λq=>?_) (λq=>?_)
 ·exact af q λp e1 e2=> h1 _ _ e1 _ _ (λd q=>xE q) λp' q=>Except.error.inj q▸hE p e2
 ·exact aY q λa H1 e1 e2=> h1 _ _ e1 _ _ (λd q=>vl q▸hQ a H1 e2) (λp q=>xO q)
theorem nv {lZ:AV->M Bool}{eF:AV->M AV}(ht: ∀v H r H',lZ v H=some (r,H')-> ∃b,r= .ok b)(he: ∀v H r H',eF v H=some (r,H')-> ∃b,r= .ok b): ∀(l:List AV) (H:HS) (r:Except AV (List AV)) (H':HS),ck lZ eF l H=some (r,H')-> ∃ys,r= .ok ys/\ys.length<=l.length:=λl=>by
 induction l with
 |nil=>intro H r H' h;refine aN (show M.pure [] H=some (r,H') from h) λah ak=>?_;subst ah;subst ak;exact(aj _ rfl (ur _))
 |cons a l ih=>
  intro H r H' h;refine(M.bind_some (show M.bind (lZ a) _ H=_ from h)).elim (λq=>?_) λq=>?_
  ·exact af q λp e1 ak=> ac (ht _ _ _ _ e1) λaz q=> xE q
  refine aY q λb H1 ak e2=>?_
  induction b using Bool.casesOn with
  |false=>exact af (ih H1 r H' e2) λys q1 q2=>(aj ys q1 (uM q2))
  |true=>
   refine(M.bind_some (show M.bind (eF a) _ H1=_ from e2)).elim (λq=>?_) λq=>?_
   ·exact af q λp e1 ak=> ac (he _ _ _ _ e1) λaz q=> xE q
   refine aY q λy H2 ak g2=>(M.bind_some g2).elim (λq=>?_) λq=>?_
   ·exact af q λp e1 ak=> af (ih _ _ _ e1) λaz q ak=> xE q
   refine aY q λys H3 e1 e2=> af (ih _ _ _ e1) λzs q1 q2=> aN e2 λah ak=>?_;clear e2;subst ah;subst ak;exact(aj _ rfl (uh (vl q1▸q2)))
theorem iP {f:List (Str×AV)->M α}(v:AV)(H:HS)(r:Except AV α)(H':HS)(h:bA tgt f v H=some (r,H')): ∃b,r= .ok b:=by
 delta bA at h;refine cO (fC tgt v) (λhb=>?_) λbs hb=>?_
 ·replace h:=hb▸h;exact xNS h
 ·replace h:=hb▸h;refine af (fk h) λa q ak=>?_;exact⟨a,q⟩
theorem jI {x:qq0}(h: ∀a b c,it≠ .Set a b c):foldedSetIterable it env x=pure x:=by
 cases it<;>first|rfl|exact absurd rfl (h _ _ _)
theorem CT (hA:A.handled=none)(B:ao X s.heap Av fr H)(L:aJ X s.heap env Av oa ae m cm)(ok:dM sc ae.sc=true)(tok:kI sc tgt=true)(Ga: ∀a b c,it≠ .Set a b c)
  {use:Option (qq0->Sem Unit)} {mi:M (List AV)} {mt:List (Str×AV)->M Bool} {me:List (Str×AV)->M AV}
  (hi:oZ X A fr Av tgt (λb=>X.aH≠some b/\b∉aO fr) s H (eval it env) mi)
  (fW: ∀s' H' Av' nn C bs m1 d7,ao X s'.heap Av' fr H'->aJ X s'.heap (cy sc nn C env) Av' oa {aA sc ae with rho:=bs++(aA sc ae).rho} m1 d7->g_ X A fr Av' s' H' (dS gi (cy sc nn C env)) (mt bs))
  (lu: ∀s' H' Av' nn C bs m1 d7,ao X s'.heap Av' fr H'->aJ X s'.heap (cy sc nn C env) Av' oa {aA sc ae with rho:=bs++(aA sc ae).rho} m1 d7->bw X A fr Av' s' H' (eval eF (cy sc nn C env)) (me bs))
  {r:Except AV AV} {H1:HS} (e:(M.bind mi λitems=>if items.length<=1000 then M.bind (ck (bA tgt mt) (bA tgt me) items) λys=>M.pure (AV.list ys) else stuck) H=some (r,H1))
  {Q E:qq0->qq1->Prop}
  (hQ: ∀d,r= .ok d-> ∀D C s1,Ex X (aO fr) s s1->au X s1.heap (ins Av [C]) H1->VV X s1.heap (ins Av [C]) d (.ref D)->s.heap.get? C=none-> ¬Av C->(∃o,s1.heap.get? C=some o)->
   match(generalizing:=false) use with
   |none=>∀h',qqC C s1.heap h'->Q (.ref D) {s1 with heap:=h'}|some u=>qq3 (qq5 X.P X.w) A (u (.ref D)) (λ_ ty=>(∀o,s1.heap.get? C=some o->ty.heap.get? C=some o)/\ ∀h',qqC C ty.heap h'->Q .none {ty with heap:=h'}) E s1)
  (hE: ∀p,r= .error p-> ∀e s',Ex X (aO fr) s s'->au X s'.heap Av H1->fH X s.heap s'.heap Av p e->E e s'):
  qq3 (qq5 X.P X.w) A (comprehension (.ListComp eF [⟨tgt,it,gi,0⟩] sc pos) sc env (firstIterPos [⟨tgt,it,gi,0⟩] pos) (newList []) (firstAsync [⟨tgt,it,gi,0⟩]) (firstIter [⟨tgt,it,gi,0⟩] env) use) Q E s:=by
 refine bb (fj ok) λo1 o2 ak c8 o5=>?_;have S2:closureFor sc env=pure (bf env sc.names []):=ml λx hx hf=>by
  have hl:=a_ o2 (show(x.1,qqL.free)∈sc.names from by exact bq hf hx);refine L.hasc x.1 (ui (o5 x.1 hl) (λh=>?_) λh=>?_)
  ·refine ui (L.kinds x.1 _ h) ?_ ?_;intro e;rotate_left;intro az;refine ai az λe gm=>?_;rotate_right
   ·exact .inl e
   ·cases e
  ·refine ui (L.kinds x.1 _ h) ?_ ?_;intro e;rotate_left;intro az;refine ai az λAB e=>?_;rotate_right
   ·exact .inr e
   ·exact .inl e
 refine(?_:qq3 (qq5 X.P X.w) A (comprehension (.ListComp eF [⟨tgt,it,gi,0⟩] sc pos) sc env (firstIterPos [⟨tgt,it,gi,0⟩] pos) (newList []) false (eval it env) use) Q E s);refine wpAny_comprehension_free (g:=⟨tgt,it,gi,0⟩) (gs:= []) rfl (λx=>jI Ga) S2 o1 (λx hx hl=>a_ o2 (by exact bq hl hx)) ?_;refine hi.use e (λitems H2 e2 x sm s1 x1 y1 Gb=>?_) hE;by_cases eJ:items.length<=1000
 ·rw [if_pos eJ] at e2;have Oa: ∃ys,ck (bA tgt mt) (bA tgt me) items H2=some (.ok ys,H1)/\r= .ok (.list ys)/\ys.length<=items.length:=by
   refine(M.bind_some e2).elim (λq=>?_) λq=>?_
   ·exact af q λp g1 ak=> af (nv (λv H r H' h=>iP v H r H' h) (λv H r H' h=>iP v H r H' h) _ _ _ _ g1) λys q ak=> xE q
   ·refine aY q λys H3 g1 g2=> af (nv (λv H r H' h=>iP v H r H' h) (λv H r H' h=>iP v H r H' h) _ _ _ _ g1) λzs q1 q2=> aN g2 λah ak=>?_;clear g2;subst ah;subst ak;exact(aV ys g1 rfl (vl q1▸q2))
  refine aC Oa λys g1 hr Na=>?_;have Bm:=B.ex x1 y1;have Lm:=L.ex B x1;refine Gb _ hA _ _ λit' s2 zz=> ES zz λI Z fp Good St hit hIZ IT iN Nc DO lX Sx=>?_;subst hit;refine qqA (Bv ?_);generalize hD:s2.heap.objs.size=D;have k2: ∀b o,sm.heap.get? b=some o->s2.heap.get? b=some o:=λb o e=>lX.keep b o (λq=>q) e;have dz:(s2.heap.push {cls:= .type "list",data:= .seq ([]:List qq0).toArray}).objs.size=D+1:=by rewrite [uR];exact aa hD rfl
  dsimp only;refine aa dz ?_;have ls:s2.heap.get? D=none:=aW (s:=s2) (λ_ _ e=>e) (uC hD);have YU:((s2.heap.push {cls:= .type "list",data:= .seq ([]:List qq0).toArray}).push {cls:= .type "dict",data:= .dict #[]}).objs.size=D+1+1:=by rewrite [uR];exact aa dz rfl
  have fq:=cellsFrom_ok sc.names ((s2.heap.push {cls:= .type "list",data:= .seq ([]:List qq0).toArray}).push {cls:= .type "dict",data:= .dict #[]}) (D+1+1) [] ⟨λ_ _ hm=>OC hm,List.Pairwise.nil⟩ (by exact aa YU (ur _));replace fq:=YU▸fq;generalize WJ:pushCells ((s2.heap.push {cls:= .type "list",data:= .seq ([]:List qq0).toArray}).push {cls:= .type "dict",data:= .dict #[]}) sc.names=h4 at fq⊢;have k4: ∀b o,s2.heap.get? b=some o->h4.get? b=some o:=λb o e=>by exact bq WJ (pushCells_keeps _ _ _ _ (uc _ (uc _ e)))
  have YV:h4.get? D=some {cls:= .type "list",data:= .seq ([]:List qq0).toArray}:=by
   exact bq WJ (bq hD (pushCells_keeps _ _ _ _ (uc _ (ue _ rfl))))
  have YW:h4.get? (D+1)=some {cls:= .type "dict",data:= .dict #[]}:=by
   exact bq WJ (bq dz (pushCells_keeps _ _ _ _ (ue _ rfl)))
  let new:=qq6 (D+1+1) sc.names []
  let ZZ:List qq7:=D::(D+1)::(Z++new.map (·.2))
  have oK: ∀x c,(x,c)∈new->D+1+1<=c:=λx c h=>(fq.empty x c h).2;have bu: ∀b,(∃o,s2.heap.get? b=some o)->b<D:=λb h=>by refine ac h ?_;clear h;intro o h;exact bq hD (ul h)
  have WK: ∀b∈Z,b<D:=λb hb=>bu b (Nc b hb).2;have fz: ∀b∈ZZ,sm.heap.get? b=none:=λb hb=>by
   refine ui (uY.mp hb) ?_ ?_;intro az;subst az;rotate_left;intro hb;rotate_right
   ·exact aW k2 (uC hD)
   ·refine ui (uY.mp hb) ?_ ?_;intro az;subst az;rotate_left;intro hb;rotate_right
    ·exact aW k2 (by exact aa hD (uF _))
    ·refine ui (vT.mp hb) (λhb=>?_) λhb=>?_
     ·exact(Nc b hb).1
     ·refine af (vM.mp hb) λaz hc ak=>?_;obtain⟨x,c⟩:=az;subst ak;exact aW k2 (aa hD (ub (uM (uF _)) (oK x c hc)))
  have S3: ∀b∈ZZ,∃o,h4.get? b=some o:=λb hb=>by
   refine ui (uY.mp hb) ?_ ?_;intro az;subst az;rotate_left;intro hb;rotate_right
   ·exact⟨_,YV⟩
   ·refine ui (uY.mp hb) ?_ ?_;intro az;subst az;rotate_left;intro hb;rotate_right
    ·exact⟨_,YW⟩
    ·refine ui (vT.mp hb) (λhb=>?_) λhb=>?_
     ·refine ac (Nc b hb).2 λo ho=>?_;exact⟨o,k4 _ _ ho⟩
     ·refine af (vM.mp hb) λaz hc ak=>?_;obtain⟨x,c⟩:=az;subst ak;refine af (fq.empty x c hc).1 λo ho ak=>?_;exact⟨o,ho⟩
  have km: ∀b o,sm.heap.get? b=some o->h4.get? b=some o:=λb o e=>k4 b o (k2 b o e);have By: ∀a,X.aH=some a->a∉ZZ:=λa e q=>by
   refine ac (Bm.live a (Bm.hand.av a e)) λo ho=>?_;replace ho:=eS (fz a q) ho;exact xNS ho
  have Su: ∀b∈ZZ,b∉aO fr:=λb hb q=>by
   refine ac (Bm.live b (Bm.frok.av q)) λo ho=>?_;replace ho:=eS (fz b hb) ho;exact xNS ho
  have J4:bY X fr Av ZZ sm (D+1) new {s2 with heap:=h4} H2:=
   {ex:=⟨λb o e _ _=>km b o e,λb o e _ _=>⟨o.slots,km b o e⟩,lX.gens,lX.os⟩,hand:=y1.move (λb o e n=>⟨km b o e,λq=>by
     refine ui q (λq=>?_) λq=>?_
     ·exact n q
     ·replace e:=eS (fz b q) e;exact xNS e⟩) λa e=>⟨.inl (Bm.hand.av a e),λo ho=>km a o ho⟩,live:=S3,ns:=⟨λ_=>none,_,#[],0,YW,rfl,(by intro _ h;simp at h),λ_=>rfl⟩,cells:=λx c hc=>⟨none,(fq.empty x c hc).1⟩}
  have Gc:D+1∈ZZ:=by exact .tail _ (.head _)
  have S4:D∈ZZ:=by exact .head _
  have LN: ∀(s4:qq1),bY X fr Av ZZ sm (D+1) new s4 H2->St 0 s4.heap->s4.heap.PlainList D #[]->
    qzZ (qq5 X.P X.w) A (.compLoop (.ListComp eF [⟨tgt,it,gi,0⟩] sc pos) 0 (.ref I) (.ref D) (cy sc (D+1+1) (D+1) env)) (compPost (qq5 X.P X.w) A E use Q (.ref D) (D+1)) s4:=λs4 J st acc=>by
   refine DP hA Bm Lm ok tok (IT A hA) iN (λb hb=>?_) DO Gc (λq=>?_) S4 (λq=>vg _ (WK D q)) (uy (vz _)) (λx c hc=>?_) fq.apart fz eJ
    (λbs s' H' m1 d7 b1 l1=>fW s' H' _ _ _ bs m1 d7 b1 l1) (λbs s' H' m1 d7 b1 l1=>lu s' H' _ _ _ bs m1 d7 b1 l1) (λs5 arr J5 WL z7=>?_) J st acc g1
   ·simp [ZZ,hb]
   ·exact absurd (WK _ q) (qxA.mpr (uF _))
   ·have:=oK x c hc;refine(gF ?_ (λq=>?_) (λq=>?_) (λq=>?_))
    ·have hm:c∈new.map (·.2):=vM.mpr (aj ((x,c)) hc rfl);simp only [ZZ,uY,vT];exact .inr (.inr (.inr hm))
    ·exact absurd (WK _ q) (qxA.mpr (ub (uM (uF _)) this))
    ·replace this:=q▸this;exact qxK _ this
    ·replace this:=q▸this;exact qxK _ (ub (uF _) this)
   ·
    have nD: ¬Av D:=λq=>by
     refine ac (Bm.live D q) λo ho=>?_;replace ho:=eS (fz D S4) ho;exact xNS ho
    have nC: ¬Av (D+1):=λq=>by
     refine ac (Bm.live _ q) λo ho=>?_;replace ho:=eS (fz _ Gc) ho;exact xNS ho
    have sC:s.heap.get? (D+1)=none:=by
     cases q:s.heap.get? (D+1) with
     |none=>rfl|some o=>
      by_cases z:X.aH=some (D+1)
      ·exact absurd (B.hand.av _ z) nC
      ·refine ac (x1.live q z) λsl h=>?_;replace h:=eS (fz _ Gc) h;exact xNS h
    have lys:=aF.length z7;have lz:ys.length<=1000:=ub Na eJ;have vv:VV X s5.heap (ins Av [D+1]) (.list ys) (.ref D):=by
     refine⟨D,arr,rfl,λq=>?_,WL,lz,aF.chg (λb o e n=>⟨e,λq=>n ?_⟩) _ _ z7⟩
     ·refine ui q (λq=>?_) λq=>?_
      ·exact nD q
      ·exact uy (vz _) (qq2.mp q)
     ·refine ui q (λq=>?_) λq=>?_
      ·exact .inl q
      ·exact aa (qq2.mp q) (.inr Gc)
    refine ac J5.ns λm5 WM=>?_;have h5:=hQ _ hr D (D+1) s5 (x1.trans J5.ex) (J5.hand.out (λb q=>by
     refine ui q (λq=>?_) λq=>?_
     ·exact .inl q
     ·exact aa (qq2.mp q) (.inr Gc)) λa e=>.inl (Bm.hand.av a e)) vv sC nC (aB WM λo _ _ ho _=>⟨o,ho⟩)
    induction use using Option.casesOn with
    |none=>exact(aj m5 WM (λh' hs=>h5 h' hs))|some u=>
     refine qqV h5 (λ_ ty zz=>(aj m5 ?_ zz.2)) λ_ _ e=>e;have kc:=zz.1;exact aB WM λo es ep ho r=>(ct o es ep (kc o ho) r)
  have Oc:St 0 h4:=(IT A hA).frame _ _ _ Sx λb _ o e=>k4 b o e;have S5:h4.PlainList D #[]:=⟨_,YV⟩;refine codeAny_compStart_list (LN _ J4 Oc S5) ((IT A hA).self 0 _ _ _ Oc (LN _ J4 Oc S5))
 ·rw [if_neg eJ] at e2;exact xNS e2
theorem Gd (hA:A.handled=none)(B:ao X s.heap Av fr H)(L:aJ X s.heap env Av oa ae m cm)(ok:dM sc ae.sc=true)(tok:kI sc tgt=true)(Ga: ∀a b c,it≠ .Set a b c)
  {mi:M (List AV)} {mt:List (Str×AV)->M Bool} {me:List (Str×AV)->M AV}
  (hi:oZ X A fr Av tgt (λb=>X.aH≠some b/\b∉aO fr) s H (eval it env) mi)
  (fW: ∀s' H' Av' nn C bs m1 d7,ao X s'.heap Av' fr H'->aJ X s'.heap (cy sc nn C env) Av' oa {aA sc ae with rho:=bs++(aA sc ae).rho} m1 d7->g_ X A fr Av' s' H' (dS gi (cy sc nn C env)) (mt bs))
  (lu: ∀s' H' Av' nn C bs m1 d7,ao X s'.heap Av' fr H'->aJ X s'.heap (cy sc nn C env) Av' oa {aA sc ae with rho:=bs++(aA sc ae).rho} m1 d7->bw X A fr Av' s' H' (eval eF (cy sc nn C env)) (me bs)):
  bw X A fr Av s H (eval (.ListComp eF [⟨tgt,it,gi,0⟩] sc pos) env) (M.bind mi λitems=>if items.length<=1000 then M.bind (ck (bA tgt mt) (bA tgt me) items) λys=>M.pure (AV.list ys) else stuck):=by
 intro r H1 e Q E hQ hE;rw [PySem.eval_ListComp];refine CT hA B L ok tok Ga (use:=none) hi fW lu e (λd hd D C s1 x1 y1 v1 n1 n2 lv h' hs=>?_) hE;have hc:dB s1.heap (ins Av [C]) h' Av:=λb o e n=>⟨(hs.2 b λq=>n (.inr (qq2.mpr q))).trans e,λq=>n (.inl q)⟩;refine hQ d hd _ _ (x1.then_ (λb o o' e1 e2=>(hs.2 b λq=>?_).trans e2) rfl rfl) (y1.move hc λa e=>⟨B.hand.av a e,λo ho=>(hs.2 a λq=>n2 (q▸B.hand.av a e)).trans ho⟩) (VR.chg hc _ _ v1);replace e1:=q▸e1;replace e1:=eS n1 e1;exact xNS e1
theorem z8 {args:List (Bool×Sem qq0)}{Q:Args->qq1->Prop}(hp:args.any (·.1)=false)(h:qq3 (qq5 X.P X.w) A (qzP args) (λvs s1=>Q ⟨vs,[]⟩ s1) E s):qq3 (qq5 X.P X.w) A (evalArgs f true args []) Q E s:=by
 induction args using List.casesOn with
 |nil=>
  delta evalArgs;refine(?_:qq3 _ _ (qzP []>>=_) Q E s);refine ua (qqV h (λv s' hv=>?_) λ_ _ e=>e);exact bp (qq8 (bp (bp (ud hv))))
 |cons a rest=>
  obtain⟨b,x⟩:=a;have hb:b=false:=by simp at hp;exact hp.1
  subst hb;exact Calls.evalArgs_plain h
theorem bG {first:List qq0}{args:List (Bool×Sem qq0)}{Q E:qq0->qq1->Prop}(hp:args.any (·.1)=false)
  (h:qq3 (qq5 X.P X.w) A (qzP args) (λvs s1=>fU X A f s1/\qq3 (qq5 X.P X.w) A (call f (first++vs) []) Q E s1) E s):qq3 (qq5 X.P X.w) A (callWith pos f first args []) Q E s:=by
 delta callWith;refine ua (qq8 (z8 hp (qqV h (λvs s1 zz=>?_) λ_ _ e=>e)));have hK:=zz.1;have hC:=zz.2;refine ua (qqF ?_);simp only [hp,List.any_nil,qxX];have tail: ∀{t:Sem qq0},qq3 (qq5 X.P X.w) A t Q E s1->qq3 (qq5 X.P X.w) A (t>>=λr=>holding [r] point>>=λ_=>pure r) Q E s1:=λh=>
  ua (qqV h (λv s' hv=>ua (qq8 (wpAny_point (ud hv)))) λ_ _ e=>e)
 refine ua (hK _ _ λk=>?_);have f1:=tail hC;have f2: ∀mk,qq3 (qq5 X.P X.w) A (callMarked mk f (first++vs) []>>=λr=>holding [r] point>>=λ_=>pure r) Q E s1:=λmk=>tail (Calls.wpAny_keep hC);have f3: ∀l,qq3 (qq5 X.P X.w) A (operate l (call f (first++vs) [])>>=λr=>holding [r] point>>=λ_=>pure r) Q E s1:=λl=>tail (wpAny_operateT hC);cases k
 ·dsimp only;split
  ·exact f1
  ·exact f2 _
 ·dsimp only;split
  ·exact f1
  ·exact f2 _
 ·exact f1
 ·exact f3 _
theorem eT {f:Expr}(h: ∀o a p,f≠ .Attribute o a p):eval (.Call f args [] pos) env=(eval f env>>=λfv=>callWith pos fv [] (backTo pos (qqO args env)) []):=by
 cases f<;>first|rfl|exact absurd rfl (h _ _ _)
theorem oZ.enum (hA:A.handled=none)(B:ao X s.heap Av fr H){f x:Expr}{pos kp:Pos}{IJ:List Expr}{kk:Nat}(hf: ∀o a p,f≠ .Attribute o a p)(hx:aZ x=true)
  (WN:bw X A fr Av s H (eval f env) (M.pure (.glob (.type "enumerate")))) {mx:M AV} (h:Later X fr Av s λs1 H1=>bw X A fr Av s1 H1 (eval x env) mx):
  oZ X A fr Av (.Tuple IJ kk kp) (λb=>¬Av b) s H (eval (.Call f [x] [] pos) env) (M.bind mx λv=>lift ((EK v).map cZ)):=by
 intro r H1 e Q E hQ hE;refine aa (eT hf) (ua (WN _ _ rfl _ _ (λd hd fv s0 x0 y0 z0=>?_) (λp q=>xO q)));refine jO hd λah=>?_;clear hd;subst ah;refine aa (show fv= .type "enumerate" from z0) ?_;have B0:=B.ex x0 y0;have hs:Ic X A fr Av s0 H (qzP (backTo pos (qqO [x] env))) (M.bind mx λv=>M.bind (M.pure []) λvs=>M.pure (v::vs)):=
  cA B0 (λa p q=>by subst q;exact di hx) (h s0 H x0 B0) λs1 H1 B1 x1=>dP B1
 refine bG (cf (by simpa using hx)) (b7 e ?_ ?_);intro p e1 ak;subst ak;rotate_left;intro a H2 e1 e2;rotate_right
 ·refine hs (.error p) H1 (by delta M.bind;exact aa e1 rfl) _ _ (λd q=>xE q) λp' q e' s' x y z=>hE p' (by refine jE q λah=>?_;clear q;subst ah;rfl) e' s' (x0.trans x) y (z.back B0.hand.av B0 x0)
 ·refine hs (.ok [a]) H2 (by delta M.bind;refine aa e1 ?_;rfl) _ _ (λd q vs s1 x1 y1 z1=>⟨bX (λa q=>by cases q),?_⟩) (λp q=>xO q);refine jO q λah=>?_;clear q;subst ah;refine af (aF.one z1) λv ah hv=>?_;subst ah
  induction a using AV.casesOn with
  |tup l=>
   refine aN e2 λah ak=>?_;clear e2;subst ah;subst ak;refine aP hv λa arr ak na pt z rr=>?_;clear hv;subst ak;have B1:=B0.ex x1 y1;have lv:=aF.length rr;refine ka pt λh' he hit hsz hk=>?_;have ha: ∃o,s1.heap.get? a=some o:=ac pt λ_ h=>⟨_,h⟩;have d3:a<s1.heap.objs.size:=ac ha λ_ h=>ul h;refine hQ _ rfl _ s1 _ (x0.trans x1) y1 λA' WI Q' E' hq=>?_;have IT: ∀A:qqG,A.handled=none->oV X A (.Tuple IJ kk kp) (s1.heap.objs.size+1) [s1.heap.objs.size+1,s1.heap.objs.size] [s1.heap.objs.size+1,s1.heap.objs.size,a] (cZ l) (λh Av=>cu X h Av l arr.toList) (λi h=>(∃old,IsEnum h (s1.heap.objs.size+1) s1.heap.objs.size i old)/\h.IsTupleIter s1.heap.objs.size a i/\h.IsTuple a arr):=λA hA=>
    DI hA (vA (vz _)) (vA (vQ d3)) (uy d3) (by refine bq lv ?_;rfl)
   have FW:(∃old,IsEnum h' (s1.heap.objs.size+1) s1.heap.objs.size (0:Nat) old)/\h'.IsTupleIter s1.heap.objs.size a 0/\h'.IsTuple a arr:=(aQ ⟨_,he⟩ hit (ac pt λn h=>⟨_,hk _ _ h,rfl,n,rfl⟩));refine(IT A' WI).self 0 {s1 with heap:=h'} Q' E' FW (hq _ _ (EV _ _ _ _ _ rfl (by exact .head _) IT rr (λb hb=>?_) (λb hb=>?_) (.of_keeps (tk:=s1.toks) hk) FW))
   ·refine ui (uY.mp hb) ?_ ?_;intro az;subst az;rotate_left;intro hb;rotate_right
    ·exact⟨aW (s2:=s1) (λ_ _ e=>e) (uF _),_,he⟩
    ·refine aa (qq2.mp hb) (af hit λo ho ak=>?_);exact⟨aW (s2:=s1) (λ_ _ e=>e) (ur _),o,ho⟩
   ·refine ui (uY.mp hb) ?_ ?_;intro az;subst az;rotate_left;intro hb;rotate_right
    ·exact .inl (by exact .head _)
    ·refine ui (uY.mp hb) ?_ ?_;intro az;subst az;rotate_left;intro hb;rotate_right
     ·exact .inl (by exact .tail _ (.head _))
     ·exact aa (qq2.mp hb) (.inr ⟨ha,na⟩)
  |_=>exact xNS e2
theorem z9 {C:kh}{f:Expr}(h:jf C ae f=true): ∃g q,f= .Name g q/\ec C ae g=some (.glob (.type "enumerate")):=by
 delta jf at h;refine cO ((bP f).bind (ec C ae)) (λq=>?_) λv q=>?_
 ·replace h:=q▸h;exact di h
 ·replace h:=q▸h;refine af (aG q) λg h1 h2=> ac (bj h1) λp h1=>?_
  induction v using AV.casesOn with
  |glob u=>
   induction u using PySem.Value.casesOn with
   |type t=>exact(ei g p h1 (by exact aa h2 (aa (beq_iff_eq.mp h) rfl)))|_=>exact di h
  |_=>exact di h
theorem o_ {C:kh}(h:kj C ae it=true): ∃f x p,it= .Call f [x] [] p/\jf C ae f=true/\aZ x=true:=by
 delta kj at h;refine cO (gT it) (λq=>?_) λc q=>?_
 ·replace h:=q▸h;exact di h
 ·replace h:=q▸h;refine cO (oneOf c.2.1) (λq2=>?_) λx q2=>?_
  ·have h:(match oneOf c.2.1 with|some x=>jf C ae c.1 && aZ x|none=>false)=true:=h;replace h:=q2▸h;exact di h
  ·have h:(match oneOf c.2.1 with|some x=>jf C ae c.1 && aZ x|none=>false)=true:=h;replace h:=q2▸h;have q:=ez q;replace q:=(bW q2)▸q;exact(ct c.1 x c.2.2 q (tt h))
theorem n4 (O:CxOk X)(hA:A.handled=none)(B:ao X s.heap Av fr H)(L:aJ X s.heap env Av oa ae m cm){whole a1:M AV}(ho:b9 ae it=none)(h:bw X A fr Av s H (eval it env) whole)
  (ha: ∀f x p,it= .Call f [x] [] p->Later X fr Av s λs1 H1=>bw X A fr Av s1 H1 (eval x env) a1):oZ X A fr Av tgt (λb=>¬Av b) s H (eval it env) (iB X.C tgt it ae whole a1):=by
 delta iB;refine cB (kj X.C ae it) (λc=>?_) λc=>?_
 ·refine aa c (bT (o_ c) λf x p e hf hx=>?_);have ha:=ha f x p e;refine aY (z9 hf) λg q e2 hn=> aa e (aa e2 ?_);refine cB (Kc tgt) (λt=>?_) λt=>?_
  ·refine aa t (ac (Option.isSome_iff_exists.mp t) λes t=> aX (dO t) λk kp t=> aa t (oZ.enum hA B (λo a p=>(λw=>by cases w)) hx ?_ ha));have:=gp (A:=A) O B L (x:=g) (pos:=q);replace this:=hn▸this;exact this
  ·refine aa t ?_;intro r H1 e;exact xNS e
 ·exact aa c (aa ho (oZ.of_val h))
mutual
theorem n5 (k: ∀b o,h.get? b=some o->(∀vs,o.data≠ .fields vs)->o.cls≠ .type "frame"-> ¬Av b->h'.get? b=some o/\ ¬Av' b): ∀(d:AV) (v:qq0),(jc d).isSome=true->VV X h Av d v->VV X h' Av' d v:=λd v e x=>by
 induction d using AV.casesOn with
 |none=>exact x|bool _=>exact x|int _=>exact x|str _=>exact x|tup l=>
  refine aP x λa vs q na be z r=>ac be λm ho=>?_;have h1:=k a _ ho (by simp) (by simp) na;exact⟨a,vs,q,h1.2,⟨m,h1.1⟩,z,ft k l _ ((vP ..).symm.trans e) r⟩
 |list l=>
  refine aP x λa vs q na be z r=>ac be λm ho=>?_;have h1:=k a _ ho (by simp) (by simp) na;exact⟨a,vs,q,h1.2,⟨m,h1.1⟩,z,ft k l _ ((vP ..).symm.trans e) r⟩
 |_=>exact di e
theorem ft (k: ∀b o,h.get? b=some o->(∀vs,o.data≠ .fields vs)->o.cls≠ .type "frame"-> ¬Av b->h'.get? b=some o/\ ¬Av' b): ∀(ds:List AV) (vs:List qq0),(dE ds).isSome=true->cu X h Av ds vs->cu X h' Av' ds vs:=λds vs e x=>by
 induction ds using List.casesOn with
 |nil=>exact x|cons d ds=>
  exact a8 x λv r q h1 h2=> ac (Option.isSome_iff_exists.mp e) λps e=> a8 (fP e) λp Y2 e1 e2 be=> aa q (.cons (n5 k d v (by refine aa e1 ?_;rfl) h1) (ft k ds r (by refine aa e2 ?_;rfl) h2))
end
theorem Ge (h: ∀x∈l,(jc x).isSome=true):(dE l).isSome=true:=by
 induction l with
 |nil=>rfl|cons x r ih=>
  refine ac (Option.isSome_iff_exists.mp (h x uE)) λp hp=> ac (Option.isSome_iff_exists.mp (ih λy hy=>h y (uz _ hy))) λq hq=> aa (b_ hp hq) ?_;rfl
structure Gf (X:Cx)(f:List qq7)(W:qq7->Prop)(s s':qq1):Prop where
 keep: ∀b o,s.heap.get? b=some o-> ¬W b->b∉f->s'.heap.get? b=some o
 slots: ∀b o,s.heap.get? b=some o-> ¬W b->b∈f-> ∃sl,s'.heap.get? b=some {o with slots:=sl}
 live: ∀b o,s.heap.get? b=some o-> ∃o',s'.heap.get? b=some o'
 recs: ∀b o,s.heap.get? b=some o->W b-> ∃vs,o.data= .fields vs
 gens:s'.gens=s.gens
 os:s'.os=s.os
theorem ao.recd (B:ao X s.heap Av fr H)(R:Gf X (aO fr) W s s')(hW: ∀b,W b-> ¬Av b)(h0: ∀b,W b->X.h0.get? b=none):ao X s'.heap Av fr H:=by
 have nf: ∀b,X.aH=some b->b∉aO fr:=λb e q=>by
  refine af (dH q) λen he hf=> ai (B.frok en he) λaz aI=>cn aI λL o hL FD nH yW=>?_;replace hL:=eS hf hL;refine al hL λah=>?_;clear hL;subst ah;exact nH e
 refine⟨λb o e=>?_,B.off,λb av=>ac (B.live b av) λo ho=>R.live b o ho,?_,λen he=>?_⟩
 ·have n1: ¬W b:=λq=>by replace e:=eS (h0 b q) e;exact xNS e
  have n2:b∉aO fr:=λq=>B.off b o e (B.frok.av q);exact R.keep b o (B.base b o e) n1 n2
 ·have x:=B.hand;unfold au at x⊢;cases e:X.aH with
  |none=>replace x:=e▸x;exact x|some a=>
   replace x:=e▸x;refine ai x λav aI=>c7 aI λws gm l vs dt=> aB gm λo es ep ho r=>?_;refine⟨av,ws,(ct o es ep (R.keep a o ho (λq=>hW a q av) (nf a e)) r),l,ft (λb o e h1 h2 n=>⟨?_,n⟩) _ _ (Ge λy hy=>?_) vs,dt⟩
   ·refine R.keep b o e (λq=>?_) (λq=>h2 (B.frs_live q e));exact ac (R.recs b o e q) λvs hv=> h1 vs hv
   ·refine af (vM.mp hy) λz hz ak=>?_;subst ak;exact dt z hz
 ·refine ai (B.frok en he) λk aI=>eg aI λL o hL av nH nb ho hc hn=> ac (R.slots L o ho (λq=>hW L q av) (List.mem_filterMap.mpr (aj en he hL))) λsl h=>?_;exact⟨k,L,_,hL,av,nH,nb,h,hc,hn⟩
theorem Gf.refl (f:List qq7)(W:qq7->Prop)(h: ∀b o,s.heap.get? b=some o->W b-> ∃vs,o.data= .fields vs):Gf X f W s s:=⟨λ_ _ e _ _=>e,λb o e _ _=>⟨o.slots,e⟩,λb o e=>⟨o,e⟩,h,rfl,rfl⟩
theorem n6: ∀{l:List Env},Fy X h Av l->h.FunFrames X.h0 l
 | [],_=>trivial|env::r,F=>by
  exact ai (F env uE) λk aI=>eg aI λL o hL av nH nb ho hc hn=>(aQ k (dn L o hL nb ho hn) (n6 λe he=>F e (uz _ he)))
theorem fH.fields {p:AV}{a:qq7}(F:fH X h0 s.heap Av p (.ref a)): ∃o vs,s.heap.get? a=some o/\o.data= .fields vs/\1<vs.size/\Iw h0 s.heap Av a vs[1]? /\h0.get? a=none/\ ¬Av a:=by
 refine mH F λa' o vs he n1 q1 g1 g2 g3 g4 g5 g6=>?_;cases he;exact(OE o vs g1 g2 g3 g6 n1 q1)
theorem fH.next {p:AV}{a:qq7}{f:List qq7}(F:fH X h0 s.heap Av p (.ref a))(R:Gf X f W s s')(hf: ∀b∈f,Av b/\ ∀o,s.heap.get? b=some o->o.cls= .type "frame")
  {o':Obj} {vs':Array qq0} (d6:s'.heap.get? a=some o') (same: ∀o,s.heap.get? a=some o->o'.cls=o.cls/\o'.dict=o.dict) (fF:o'.data= .fields vs') (hz':1<vs'.size)
  (h4:Iw h0 s'.heap Av a vs'[1]?):fH X h0 s'.heap Av p (.ref a):=by
 refine mH F λa' o vs he n1 q1 g1 g2 g3 gd Nd S6=>kN Nd λdx es n u q2 e1 e2 e3 e4 e5 e6=>?_;cases he;refine ai (same o g1) λc1 c2=>?_;have kd: ∀b o,s.heap.get? b=some o->(∀vs,o.data≠ .fields vs)->o.cls≠ .type "frame"->s'.heap.get? b=some o:=λb o e n1 n2=>R.keep b o e (λq=>(R.recs b o e q).elim n1) λq=>n2 ((hf b q).2 o e);refine(Cq a o' vs' rfl n1 q1 d6 fF hz' gd (Cs dx es n u q2 (c1.trans e1) (by delta notCls;exact aa fF rfl) (c2.trans e3) (kd dx _ e4 (by simp) (by simp)) e5 (n5 (λb o e n1 n2 n3=>⟨kd b o e n1 n2,λq=>?_⟩) _ _ gd e6)) h4);refine q.elim (λq=>n3 (.inl q)) λq=>q.elim (λq=>n3 (.inr (.inl q))) λq=>h4.elim (λh4=>nomatch h4.symm.trans q) λh4=> d9 h4 λT oT ts k1 k2 k3 k4 k5 k6 k7=>?_;have qT:T=b:=qq0.ref.inj (ug (k1.symm.trans q));have:=(kd b o e n1 n2).symm.trans (qT▸k5);exact n1 ts (ug this▸k6)
def Gg (h:qqK)(e:qq0):Prop:= ∃a o vs T,e= .ref a/\h.get? a=some o/\o.data= .fields vs/\vs[1]? =some (.ref T)
set_option tactic.hygienic true in
theorem zA {p:AV}{e:qq0}(A8:A.frames=some (env::b6))(B:ao X s.heap Av (env::b6) H)(F:fH X h0 s.heap Av p e)(hl: ∀b o,h0.get? b=some o-> ∃o',s.heap.get? b=some o')(hb0: ∀b,h0.get? b=none->X.h0.get? b=none){Q:Unit->qq1->Prop}
  (hQ: ∀s' W,Gf X (aO (env::b6)) W s s'->(∀b,W b-> ¬Av b/\h0.get? b=none)->fH X h0 s'.heap Av p e->Gg s'.heap e->Q () s'):qq3 (qq5 X.P X.w) A (noteFrame e env) Q E s:=by
 have F0:=F;refine aB F0 λa ah ak c8 be=>?_;clear F0;subst c8;refine EQ F.fields λoa vs ha hd hz h4 n1 q1=> ai (B.frok env uE) λkk aI=>eg aI λL oL hL avL nHL nbL A9 hcL hnL=>?_;have WO: ∀b∈aO (env::b6),Av b/\ ∀o,s.heap.get? b=some o->o.cls= .type "frame":=λb hb=>⟨B.frok.av hb,λo ho=>B.frs_live hb ho⟩;have naf:a∉aO (env::b6):=λq=>q1 (B.frok.av q);have entry: ∀(head:qq0) (hn:Bool) (s1:qq1) (W:qq7->Prop),Gf X (aO (env::b6)) W s s1->(∀b,W b-> ¬Av b/\h0.get? b=none)->W a->s1.heap.get? a=some oa->
   qq3 (qq5 X.P X.w) A (do setField (.ref a) 1 (<-EntryCells.newEntry head (<-frameOf env) .none (rawInt L) .none (<-entryPlaceOf L hn))) Q E s1:=by
  intro head hn s1 W R1 hW YX Ur;have B1:=B.recd R1 (λb q=>(hW b q).1) (λb q=>hb0 b (hW b q).2);refine ua (wpAny_frameOf_fun A8 (n6 B1.frok) hL λh2 oJ=>?_);refine ua (wpAny_entryPlaceOf λpl CJ=>?_);unfold EntryCells.newEntry newFields;refine ua (qqA ?_ (CJ.sizeOk5 _ _ _ _ _))
  let eo:Obj:={cls:= .type "traceback",dict:=none,data:= .fields ([head,.ref L,.none,rawInt L,.none]++(if pl.isEmpty then List.replicate 6 qq0.none else pl)).toArray}
  have Sm:h2.get? a=some oa:=(oJ.2.1 a naf).trans Ur;have S7:(h2.push eo).get? a=some oa:=uc _ Sm;have hT:h2.objs.size≠a:=vA (ul Sm);have YY: ∀b o,s1.heap.get? b=some o-> ∃o',h2.get? b=some o':=λb o e=>ac (oJ.2.2 b o e) λsl h=>⟨_,h⟩;have YZ:s.heap.get? h2.objs.size=none:=by
   cases z:s.heap.get? h2.objs.size with
   |none=>rfl|some o=>
    exact ac (R1.live _ o z) λo1 h1=> ac (YY _ o1 h1) λo2 h2=> absurd (ul h2) (vg _)
  have nT:h0.get? h2.objs.size=none:=by
   cases z:h0.get? h2.objs.size with
   |none=>rfl|some o=>
    refine ac (hl _ o z) λo1 h1=>?_;replace h1:=eS YZ h1;exact xNS h1
  refine qzN S7 hd hz ?_;have MY:=qzB hd (·.setIfInBounds 1 (qq0.ref h2.objs.size));have S8:=uw (Obj.mapFields (·.setIfInBounds 1 (qq0.ref h2.objs.size))) S7 (qzA MY);have zv: ∀b,b≠a->((h2.push eo).update a (Obj.mapFields (·.setIfInBounds 1 (qq0.ref h2.objs.size)))).get? b=(h2.push eo).get? b:=λb hb=>uI _ _ (Ne.symm hb);have hT4:=(zv _ hT).trans (ue h2 (o:=eo) rfl);have R:Gf X (aO (env::b6)) W s {s1 with heap:=(h2.push eo).update a (Obj.mapFields (·.setIfInBounds 1 (qq0.ref h2.objs.size)))}:=
   {keep:=λb o e w nf=>by
     have hb:b≠a:=λq=>w (q▸YX);refine(?_:((h2.push eo).update a _).get? b=_);exact aa (zv b hb) (uc _ ((oJ.2.1 b nf).trans (R1.keep b o e w nf))),slots:=λb o e w nf=>by
     have hb:b≠a:=λq=>w (q▸YX);refine ac (R1.slots b o e w nf) λsl h1=> ac (oJ.2.2 b _ h1) λM6 WP=>?_;refine⟨M6,?_⟩;refine(?_:((h2.push eo).update a _).get? b=_);exact aa (zv b hb) (uc _ WP),live:=λb o e=>by
     by_cases hb:b=a
     ·subst hb;exact⟨_,S8⟩
     ·refine ac (R1.live b o e) λo1 h1=> ac (YY b o1 h1) λo2 WP=>?_;exact⟨o2,by refine(?_:((h2.push eo).update a _).get? b=_);exact aa (zv b hb) (uc _ WP)⟩,recs:=R1.recs,gens:=R1.gens,os:=R1.os}
  refine hQ _ W R hW (F.next R WO S8 (λo e=>?_) MY (by simpa using hz) (.inr (fO h2.objs.size _ _ (by simp [hz]) nT hT (B.fresh YZ) hT4 rfl ?_))) (eN a _ _ h2.objs.size rfl S8 MY (by simp [hz]))
  ·replace e:=eS ha e;refine al e λah=>?_;clear e;subst ah;exact⟨Obj.cls_mapFields _ _,by delta Obj.mapFields;split<;>rfl⟩
  ·(refine ui CJ ?_ ?_;(all_goals clear CJ);intro az;subst az;rotate_left;intro az;refine Ki az λAB gm jX FD A6 yW zy6 S9=>?_;clear az;subst S9;rotate_right)<;>exact uj _ _
 delta noteFrame;simp only [hL];refine ui h4 ?_ ?_;(all_goals clear h4);intro h4;rotate_left;intro az;refine d9 az λT oT ts k1 k2 k3 k4 k5 k6 k7=>?_;rotate_right
 ·refine ua (qqE ha hd h4 ?_);exact aa (if_neg (by decide)) (entry .none _ s (· =a) (.refl _ _ λb o e w=>by subst w;replace e:=eS ha e;refine al e λah=>?_;clear e;subst ah;exact⟨vs,hd⟩) (λb w=>by subst w;exact⟨q1,n1⟩) rfl ha)
 ·refine ua (qqE ha hd k1 ?_);refine aa (if_pos (show(qq0.ref T !=qq0.none)=true from by rfl)) (ac (⟨ts[3],by simp [k7]⟩: ∃fl,ts[3]? =some fl) λfl Ie=> ua (qqE k5 k6 Ie ?_));have W0: ∀b o,s.heap.get? b=some o->(b=a\/b=T)-> ∃vs,o.data= .fields vs:=λb o e w=>by
   refine ui w ?_ ?_;(all_goals clear w);intro az;subst az;rotate_left;intro az;subst az;rotate_right
   ·replace e:=eS ha e;refine al e λah=>?_;clear e;subst ah;exact⟨vs,hd⟩
   ·replace e:=eS k5 e;refine al e λah=>?_;clear e;subst ah;exact⟨ts,k6⟩
  have Y_: ∀b,(b=a\/b=T)-> ¬Av b/\h0.get? b=none:=λb w=>by
   refine ui w (λw=>?_) λw=>?_
   ·exact aa w (⟨q1,n1⟩)
   ·exact aa w (⟨k4,k2⟩)
  split
  ·exact ud (hQ s (λb=>b=a\/b=T) (.refl _ _ W0) Y_ F (eN a oa vs T rfl ha hd k1))
  ·refine ua (qzN k5 k6 k7 ?_);have zv: ∀b,b≠T->(s.heap.update T (Obj.mapFields (·.setIfInBounds 3 qq0.none))).get? b=s.heap.get? b:=λb hb=>uI _ _ (Ne.symm hb);have nTf:T∉aO (env::b6):=λq=>k4 (B.frok.av q);have U4:=uw (Obj.mapFields (·.setIfInBounds 3 qq0.none)) k5 (qzA (qzB k6 _));refine entry (.ref T) _ {s with heap:=s.heap.update T (Obj.mapFields (·.setIfInBounds 3 qq0.none))} (λb=>b=a\/b=T)
    {keep:=λb o e w _=>by refine(?_:(s.heap.update T _).get? b=_);exact aa (zv b λq=>w (.inr q)) e,slots:=λb o e w _=>⟨o.slots,by refine(?_:(s.heap.update T _).get? b=_);exact aa (zv b λq=>w (.inr q)) e⟩,live:=λb o e=>by
      by_cases q:b=T
      ·subst q;exact⟨_,U4⟩
      ·exact⟨o,by refine(?_:(s.heap.update T _).get? b=_);exact aa (zv b q) e⟩,recs:=W0,gens:=rfl,os:=rfl} Y_ (.inl rfl) ((zv a k3.symm).trans ha)
set_option tactic.hygienic true in
theorem lx {fo:Option qq7}{p:AV}{e:qq0}(B:ao X s.heap Av fr H)(F:fH X h0 s.heap Av p e){Q:Unit->qq1->Prop}
  (hQ: ∀s' W,Gf X (aO fr) W s s'->(∀b,W b-> ¬Av b/\h0.get? b=none)->fH X h0 s'.heap Av p e->Q () s'):qq3 (qq5 X.P X.w) A (setFlight e fo) Q E s:=by
 have F0:=F;refine aB F0 λa ah ak c8 be=>?_;clear F0;subst c8;refine EQ F.fields λoa vs ha hd hz h4 n1 q1=>?_;have WO: ∀b∈aO fr,Av b/\ ∀o,s.heap.get? b=some o->o.cls= .type "frame":=λb hb=>⟨B.frok.av hb,λo ho=>B.frs_live hb ho⟩;delta setFlight;refine ui h4 ?_ ?_;(all_goals clear h4);intro h4;rotate_left;intro az;refine d9 az λT oT ts k1 k2 k3 k4 k5 k6 k7=>?_;rotate_right
 ·refine ua (qqE ha hd h4 ?_);exact aa (if_neg (by decide)) (ud (hQ s (· =a) (.refl _ _ λb o e w=>by subst w;replace e:=eS ha e;refine al e λah=>?_;clear e;subst ah;exact⟨vs,hd⟩) (λb w=>by refine aa w ?_;exact⟨q1,n1⟩) F))
 ·refine ua (qqE ha hd k1 ?_);refine aa (if_pos (show(qq0.ref T !=qq0.none)=true from by rfl)) (qzN k5 k6 k7 ?_);have zv: ∀b,b≠T->(s.heap.update T (Obj.mapFields (·.setIfInBounds 3 (fo.elim .none λf=>rawInt f)))).get? b=s.heap.get? b:=λb hb=>uI _ _ (Ne.symm hb);have Za:=qzB k6 (·.setIfInBounds 3 (fo.elim .none λf=>rawInt f));have U4:=uw (Obj.mapFields (·.setIfInBounds 3 (fo.elim .none λf=>rawInt f))) k5 (qzA Za);have R:Gf X (aO fr) (· =T) s {s with heap:=s.heap.update T (Obj.mapFields (·.setIfInBounds 3 (fo.elim .none λf=>rawInt f)))}:=
   {keep:=λb o e w _=>by refine(?_:(s.heap.update T _).get? b=_);exact aa (zv b w) e,slots:=λb o e w _=>⟨o.slots,by refine(?_:(s.heap.update T _).get? b=_);exact aa (zv b w) e⟩,live:=λb o e=>by
     by_cases q:b=T
     ·subst q;exact⟨_,U4⟩
     ·exact⟨o,by refine(?_:(s.heap.update T _).get? b=_);exact aa (zv b q) e⟩,recs:=λb o e w=>by replace e:=w▸e;replace e:=eS k5 e;refine al e λah=>?_;clear e;subst ah;exact⟨ts,k6⟩,gens:=rfl,os:=rfl}
  have ha':(s.heap.update T (Obj.mapFields (·.setIfInBounds 3 (fo.elim .none λf=>rawInt f)))).get? a=some oa:=(zv a k3.symm).trans ha;exact hQ _ _ R (λb w=>by refine aa w ?_;exact⟨k4,k2⟩) (F.next R WO ha' (λo e=>by replace e:=eS ha e;refine al e λah=>?_;clear e;subst ah;exact⟨rfl,rfl⟩) hd hz (.inr (fO T _ _ k1 k2 k3 k4 U4 Za (by simpa using k7))))
theorem Ex.recd {f f':List qq7}(x:Ex X f s0 s)(R:Gf X f' W s s')(hW: ∀b,W b->s0.heap.get? b=none)(hf: ∀b∈f',b∈f\/s0.heap.get? b=none):Ex X f s0 s' where
 keep:=λb o e n nf=>R.keep b o (x.keep b o e n nf) (λq=>by replace e:=eS (hW b q) e;exact xNS e) λq=>by
  refine ui (hf b q) (λq=>?_) λq=>?_
  ·exact nf q
  ·replace e:=eS q e;exact xNS e
 slots:=λb o e n nf=>by
  refine ac (x.slots b o e n nf) λsl h=>?_;have nw: ¬W b:=λq=>by replace e:=eS (hW b q) e;exact xNS e
  by_cases q:b∈f'
  ·refine ac (R.slots b _ h nw q) λM6 h'=>?_;exact⟨M6,h'⟩
  ·exact⟨sl,R.keep b _ h nw q⟩
 gens:=R.gens.trans x.gens
 os:=R.os.trans x.os
def de (X:Cx)(s0:qq1)(aq:List Env)(aw:qq7->Prop)(fr:List Env)(p:AV)(H:HS)(e:qq0)(s:qq1):Prop:=
 ∃Av,Ex X (aO aq) s0 s/\ao X s.heap Av fr H/\(∀b,aw b->Av b)/\(∀b,Av b->aw b\/s0.heap.get? b=none)/\fH X s0.heap s.heap Av p e
theorem Gh {aq:List Env}{aw:qq7->Prop}{p:AV}{e:qq0}(B0:ao X s0.heap aw aq H0)(x:Ex X (aO aq) s0 s)(B:ao X s.heap Av fr H): ∀b o,s0.heap.get? b=some o-> ∃o',s.heap.get? b=some o':=λb o e=>by
 by_cases q:X.aH=some b
 ·refine aB (B.hand.dict q) λo' ah ak h be=>?_;exact⟨o',h⟩
 ·refine ac (x.live e q) λsl h=>?_;exact⟨_,h⟩
theorem jq {aq:List Env}{aw:qq7->Prop}(B0:ao X s0.heap aw aq H0)(b:qq7)(h:s0.heap.get? b=none):X.h0.get? b=none:=by
 cases q:X.h0.get? b with
 |none=>rfl|some o=>replace h:=eS (B0.base b o q) h;exact oz h
theorem zB {aq b6:List Env}{aw:qq7->Prop}{p:AV}{e:qq0}(A8:A.frames=some (env::b6))(B0:ao X s0.heap aw aq H0)(hf: ∀b∈aO (env::b6),b∈aO aq\/s0.heap.get? b=none)
  (h:de X s0 aq aw (env::b6) p H e s) {Q:Unit->qq1->Prop} {E:qq0->qq1->Prop} (hQ: ∀s',de X s0 aq aw (env::b6) p H e s'->Gg s'.heap e->Q () s'):qq3 (qq5 X.P X.w) A (noteFrame e env) Q E s:=by
 refine ef h λAv x B h1 h2 F=> zA A8 B F (Gh (p:=p) (e:=e) B0 x B) (jq B0) λs' W R hW F' TB=>hQ s' (j1 Av (x.recd R (λb q=>(hW b q).2) hf) (B.recd R (λb q=>(hW b q).1) (λb q=>jq B0 b (hW b q).2)) h1 h2 F') TB
theorem ly {fo:Option qq7}{aq:List Env}{aw:qq7->Prop}{p:AV}{e:qq0}(B0:ao X s0.heap aw aq H0)(hf: ∀b∈aO fr,b∈aO aq\/s0.heap.get? b=none)
  (h:de X s0 aq aw fr p H e s) {Q:Unit->qq1->Prop} {E:qq0->qq1->Prop} (hQ: ∀s',de X s0 aq aw fr p H e s'->Q () s'):qq3 (qq5 X.P X.w) A (setFlight e fo) Q E s:=by
 refine ef h λAv x B h1 h2 F=> lx B F λs' W R hW F'=>hQ s' (j1 Av (x.recd R (λb q=>(hW b q).2) hf) (B.recd R (λb q=>(hW b q).1) (λb q=>jq B0 b (hW b q).2)) h1 h2 F')
theorem jJ {aq b6:List Env}{aw:qq7->Prop}{p:AV}{e:qq0}(A8:A.frames=some (env::b6))(B0:ao X s0.heap aw aq H0)(hf: ∀b∈aO (env::b6),b∈aO aq\/s0.heap.get? b=none)
  (h:de X s0 aq aw (env::b6) p H e s) {Q:Unit->qq1->Prop} {E:qq0->qq1->Prop} (hQ: ∀s',de X s0 aq aw (env::b6) p H e s'->Q () s'):qq3 (qq5 X.P X.w) A (leaving env e) Q E s:=by
 delta leaving;exact ua (zB A8 B0 hf h λs1 h1 _=>ly B0 hf h1 hQ)
theorem Gi {aq:List Env}{aw:qq7->Prop}{p:AV}{e:qq0}(B0:ao X s0.heap aw aq H0)(hf: ∀b∈aO fr,b∈aO aq\/s0.heap.get? b=none)
  (h:de X s0 aq aw fr p H e s) (tb:Gg s.heap e) {E:qq0->qq1->Prop} (hE: ∀s',de X s0 aq aw fr p H e s'->E e s'):cameBackBy (qq5 X.P X.w) A env E e s:=by
 refine mI tb λa o vs T be ha hd hv=>?_;clear tb;subst be;delta cameBackBy;refine ua (qqE ha hd hv ?_);exact aa (if_neg (by simp)) (ly B0 hf h hE)
theorem de.out {aq:List Env}{aw:qq7->Prop}{p:AV}{e:qq0}(B0:ao X s0.heap aw aq H0)(h:de X s0 aq aw fr p H e s):Ex X (aO aq) s0 s/\au X s.heap aw H/\fH X s0.heap s.heap aw p e:=by
 exact ef h λAv x B h1 h2 F=>(aQ x (B.hand.out h1 B0.hand.av) (F.out h1))
noncomputable def IS (n:String):qq0->Bool
 | .type a=>a==n|_=>false
noncomputable def U5:qq0->Bool
 | .ref _=>true|_=>false
noncomputable def ku:List qq0->Bool
 | []=>false|a::r=>match r with
  | []=>false|b::r=>match r with
   | []=>false|c::r=>IS "Exception" a && IS "BaseException" b && IS "object" c && r.isEmpty
noncomputable def js:List qq0->Bool
 | []=>false|v::r=>bif U5 v then js r else ku (v::r)
theorem jt {n:String}(h:IS n v=true):v= .type n:=by
 induction v using qq0.casesOn with
 |type a=>exact congrArg qq0.type (eq_of_beq h)|_=>exact absurd h uB
theorem Gj (h:U5 v=true): ∃c,v= .ref c:=by
 induction v using qq0.casesOn with
 |ref a=>exact⟨a,rfl⟩|_=>exact absurd h uB
theorem pd {l:List qq0}(h:ku l=true):l= [.type "Exception",.type "BaseException",.type "object"]:=by
 induction l using List.casesOn with
 |nil=>exact absurd h uB|cons a r=>
  induction r using List.casesOn with
  |nil=>exact absurd h uB|cons b r=>
   induction r using List.casesOn with
   |nil=>exact absurd h uB|cons c r=>
    have h:=Bool.and_eq_true_iff.mp h;have h1:=Bool.and_eq_true_iff.mp h.1;have h2:=Bool.and_eq_true_iff.mp h1.1;refine aa (jt h2.1) (aa (jt h2.2) ?_);exact aa (jt h1.2) (aa (qqM.mp h.2) rfl)
theorem l0 {p:List qq0->Prop}(h1:p [.type "Exception",.type "BaseException",.type "object"])(h2: ∀c r,p r->p (.ref c::r)): ∀{l:List qq0},js l=true->p l:=λ{l}=>by
 induction l with
 |nil=>exact λh=>absurd h uB
 |cons v r ih=>
  intro h;have h:(bif U5 v then js r else ku (v::r))=true:=h;by_cases q:U5 v=true
  ·replace h:=q▸h;exact ac (Gj q) λc q=> aa q (h2 c r (ih h))
  ·rw [Bool.not_eq_true] at q;replace h:=q▸h;have h:ku (v::r)=true:=h;exact aa (pd h) h1
theorem mu (self:qq0){l:List qq0}(h:js l=true):PySem.refuseLoop self "__setattr__" l=pure ():=
 l0 (p:=λl=>PySem.refuseLoop self "__setattr__" l=pure ()) (PySem.F.store_Exception.passes self) (λc r h=>(refuseLoop_ref ..).trans h) h
theorem B5 {n:String}(hn:n= "Exception"\/n= "BaseException"\/n= "object"){l:List qq0}(h:js l=true):l.contains (.type n)=true:=
 l0 (p:=λl=>l.contains (.type n)=true) (by rcases hn with h|h|h<;>refine aa h ?_<;>rfl) (λc r h=>by refine aa List.contains_cons (aa h ?_);rewrite [Bool.or_true];rfl) h
noncomputable def excIn (K:Frag)(C:qq7):Bool:=(clsIn K C).any λcd=>js cd.mro && cd.hasDict
variable {P:qzJ}{K:Frag}{x dx:qq7}{R:Result->qq1->Prop}
theorem n7 {n:String}(hn:n= "Exception"\/n= "BaseException"\/n= "object")(h:excIn K C=true):mroIn K C (.type n)=some true:=by
 refine af (any_some h) λcd hc h=>?_;simp only [uv] at h;have ne:cd.mro.isEmpty=false:=by cases q:cd.mro with|nil=>replace h:=q▸h;exact di h.1|cons _ _=>rfl
 delta mroIn;refine aa hc ?_;rewrite [Option.bind_some];refine aa (if_neg (by refine aa ne ?_;decide)) ?_;exact aa (B5 hn h.1) rfl
theorem n8 {ox:Obj}{od:Option Obj}{name:Str}{tk:Tok}(KI:K.In s.heap)(I:InstAt s.heap x ox C od)(hp:excIn K C=true)(ht:takerIn K C name=some none)
  (h: ∀b,qq3 (qq5 P w) A.in1 (Builtin.ObjectAttr.storeInOwnDict (.ref x) (.ref C) (.str name tk) name v b)
   (λfin s'=>match fin with| .done f=>R (.ok f) s'| .again c'=>c'.quiet=true/\qzZ (qq5 P w) A c' R s') (λe s'=>R (.error e) s') s):
  qzZ (qq5 P w) A (.call (.builtin "object.__setattr__") ⟨[.ref x,.str name tk,v],[]⟩) R s:=by
 have SF:=PySem.F.store_object;refine af (any_some hp) λcd hc ho=>?_;simp only [uv] at ho;have sub:Looks (qq5 P w) s.heap (isInstance (.ref x) (.type "object")) true:=I.type.andThen (qzD KI (n7 (.inr (.inr rfl)) hp));refine codeAny_call_builtin SF.slot.plain SF.entry (@check_slot (qq5 P w) _ _ s "object.__setattr__" "object" "__setattr__" (.ref x) [.str name tk,v] [] _ SF.kind SF.split sub (SF.args (.ref x) (.str name tk) v) ?_);refine af (qqQ.mp ht) λattr ha hr=>?_;have hm:Looks (qq5 P w) s.heap (mroOf (.ref C)) cd.mro:=(looks_clsIn KI hc).andThen .now;have L3:Looks (qq5 P w) s.heap (Builtin.ObjectAttr.storeTaker? attr) none:=by
  induction attr using Option.casesOn with
  |none=>exact .now|some a=>
   refine af (qqT.mp hr) λb hb hr=>(looks_takesIn KI hb).andThen ?_
   induction b using Bool.casesOn with
   |true=>exact oz hr|false=>exact .now
 rw [osa_eq,refuse_eq];refine ua (ua (I.type.here (ua (hm.here ?_))));refine aa (mu _ ho.1) (ud (ua (I.type.here (ua ((looks_findIn KI ha).here (ua (L3.here ?_)))))));exact h _
theorem zE (name:Str)(h:Int)(k v:qq0): ∀(l:List DictEntry),(putL name h k v l).length<=l.length+1
 | []=>ur _|a::r=>by
  unfold putL;split
  ·exact uq _ _
  ·have:=zE name h k v r;dsimp only [uT];exact M2 this
theorem zF {s:qq1}{name:Str}{tk:Tok}{v:qq0}{Q:Fin->qq1->Prop}{E:qq0->qq1->Prop}(D:s.heap.get? dx=some (dictOf es n))(hr:es.any (·.refKey)=false)(hz:es.length<1000)
  (h:Q (.done (.ret .none)) {s with heap:=s.heap.update dx (Obj.putName name (PyData.keyHash w.params name) (.str name s.toks) v),toks:=s.toks+1}):qq3 (qq5 P w) A (qxE dx (.str name tk) name v) Q E s:=by
 have e:=putName_dict name (PyData.keyHash w.params name) (.str name s.toks) v es n;have D':=uw (Obj.putName name (PyData.keyHash w.params name) (.str name s.toks) v) D (by refine aa e ?_;rfl);replace D':=e▸D';delta qxE;refine bp (ua ?_);delta nsSet;refine ua (ua (qz2 (ud (ua (wpAny_mkText (ua (qzO D ?_)))))));dsimp only [dictOf];have c:(!es.toArray.any (·.key.isStr name) && es.toArray.any (·.refKey))=false:=by
  refine aa qxH (aa qxH ?_);refine aa hr ?_;rewrite [qxB];rfl
 rewrite [aRefKeyMayBeTheName_at];refine aa c (wpAny_updatePart D ?_);refine ua (wpAny_lookBehind D' (by
  refine pastItsLine_dict (aa ve (aa sizeLine_eq ?_));have:=zE name (PyData.keyHash w.params name) (.str name s.toks) v es;exact OT hz this) ?_)
 exact ud h
theorem Gk {E:qq0->qq1->Prop}{ox:Obj}{name:Str}{v:qq0}{Q:Unit->qq1->Prop}(KI:K.In s.heap)(I:InstAt s.heap x ox C (some (dictOf es n)))(hd:ox.dict=some dx)(D:s.heap.get? dx=some (dictOf es n))
  (hs:findIn K (.ref C) "__setattr__"=some (some (.builtin "object.__setattr__"))) (hp:excIn K C=true) (ht:takerIn K C name=some none) (hr:es.any (·.refKey)=false) (hz:es.length<1000)
  (h:Q () {s with heap:=s.heap.update dx (Obj.putName name (PyData.keyHash w.params name) (.str name (s.toks+1)) v),toks:=s.toks+1+1}):qq3 (qq5 P w) A (setAttr (.ref x) name v) Q E s:=by
 refine set_plain KI I hs (n8 (s:={s with toks:=s.toks+1}) KI I hp ht λb=>?_);refine af (any_some hp) λcd hc hh=>?_;simp only [uv] at hh;obtain⟨hx,mZ,hn,-⟩:=I;obtain⟨oc,Zb,Zc,Gl⟩:=ox;dsimp only at mZ hd;subst mZ hd;refine bp (ua (ua (qzO hx (ua (Looks.here (s:={s with toks:=s.toks+1}) (looks_clsIn KI hc) ?_)))));exact aa hh.2 (ud (a:=some dx) (zF (s:={s with toks:=s.toks+1}) D hr hz h))
theorem Gm {E:qq0->qq1->Prop}{ox:Obj}{vs:Array qq0}{name:Str}{v:qq0}{Q:Unit->qq1->Prop}(KI:K.In s.heap)(I:InstAt s.heap x ox C none)(hd:ox.dict=none)(hf:ox.data= .fields vs)
  (hs:findIn K (.ref C) "__setattr__"=some (some (.builtin "object.__setattr__"))) (hp:excIn K C=true) (ht:takerIn K C name=some none)
  (h: ∀h' d,s.heap.get? d=none->d≠x->(∀b o,b≠x->s.heap.get? b=some o->h'.get? b=some o)->h'.get? x=some {ox with dict:=some d}->h'.get? d=some (dictOf [⟨PyData.keyHash w.params name,.str name (s.toks+1),v⟩] 1)->Q () {s with heap:=h',toks:=s.toks+1+1}):qq3 (qq5 P w) A (setAttr (.ref x) name v) Q E s:=by
 refine set_plain KI I hs (n8 (s:={s with toks:=s.toks+1}) KI I hp ht λb=>?_);refine af (any_some hp) λcd hc hh=>?_;simp only [uv] at hh;obtain⟨hx,mZ,hn,-⟩:=I;obtain⟨oc,Zb,Zc,Gl⟩:=ox;dsimp only at mZ hd hf;subst mZ hd hf;refine bp (ua (ua (qzO hx (ua (Looks.here (s:={s with toks:=s.toks+1}) (looks_clsIn KI hc) ?_)))));refine aa hh.2 ?_;have WQ:x≠s.heap.objs.size:=uy (ul hx);have Nf:(s.heap.push {cls:= .type "dict",data:= .dict #[]}).get? x=some {cls:= .ref C,dict:=none,data:= .fields vs,slots:=Gl}:=uc _ hx;refine ua (wpAny_alloc' ?_);refine ua (wpAny_update' Nf ?_);refine ud ?_;generalize Od:((s.heap.push {cls:= .type "dict",data:= .dict #[]}).update x λo=>{cls:=o.cls,dict:=some s.heap.objs.size,data:=o.data,slots:=o.slots})=h2;have IU:h2.get? x=some {cls:= .ref C,dict:=some s.heap.objs.size,data:= .fields vs,slots:=Gl}:=by
  exact bq Od (uw _ Nf rfl)
 have iy:h2.get? s.heap.objs.size=some (dictOf [] 0):=by
  exact bq Od (aa (uI _ _ WQ) (ue _ rfl))
 have k2: ∀b o,b≠x->s.heap.get? b=some o->h2.get? b=some o:=λb o hb e=>by
  exact bq Od (aa (uI _ _ (Ne.symm hb)) (uc _ e))
 refine zF (s:={s with heap:=h2,toks:=s.toks+1}) iy rfl (by exact uH _) ?_;have e:=putName_dict name (PyData.keyHash w.params name) (.str name (s.toks+1)) v [] 0;refine h _ s.heap.objs.size (by
  cases q:s.heap.get? s.heap.objs.size with
  |none=>rfl|some o=>exact absurd (ul q) (vg _)) WQ.symm (λb o hb e=>?_) ?_ ?_
 ·have:s.heap.objs.size≠b:=λq=>absurd (ul e) (by exact bq q (vg _));refine(?_:(h2.update _ _).get? b=_);exact aa (uI _ _ this) (k2 b o hb e)
 ·refine(?_:(h2.update _ _).get? x=_);exact aa (uI _ _ WQ.symm) IU
 ·have:=uw (Obj.putName name (PyData.keyHash w.params name) (.str name (s.toks+1)) v) iy (by refine aa e ?_;rfl);replace this:=e▸this;exact this
theorem CU:Slot "BaseException" "__getattribute__" "BaseException.__getattribute__":= .of (owner:= "BaseException") (n:= "__getattribute__") (by rewrite [qzQ];refine aa qqY ?_;kernel_rfl) (by decide+kernel) (by decide+kernel) (by decide+kernel)
  (by first|exact .inl (by decide+kernel)|exact .inr (by decide+kernel)) (by rw [isSubtype_type];kernel_rfl)
theorem Gn:entryFor table "BaseException.__getattribute__"=some Builtin.«object.__getattribute__»:=entryFor_alias (id':= "object.__getattribute__") (by rw [fastTable_eq_tree];kernel_rfl) (by first|rfl|decide+kernel) (by decide+kernel) (by rw [fastTable_eq_tree];kernel_rfl)
theorem IV:builtinKind "BaseException.__getattribute__"=some .slot:=by decide+kernel
theorem Go:splitId "BaseException.__getattribute__"=some ("BaseException","__getattribute__"):=by decide+kernel
theorem IW (a b:qq0):argsOk "BaseException.__getattribute__" ⟨[a,b],[]⟩:=by delta argsOk;kernel_rfl
variable {ox:Obj}{od:Option Obj}{name:Str}{expr:Bool}{Q:qq0->qq1->Prop}
theorem IX (KI:K.In s.heap)(I:InstAt s.heap x ox C od)(hga:findIn K (.ref C) "__getattribute__"=some (some (.builtin "BaseException.__getattribute__")))(hk:findIn K (.ref C) "__getattr__"=some none)(hp:excIn K C=true)
  (hf:findObj K C od name=some (.value v)) (hh:handedIn v=true) (h:Q v {s with toks:=s.toks+1}):qq3 (qq5 P w) A (getAttr (.ref x) name expr) Q E s:=by
 obtain⟨hh',g,d,t,os⟩:=s;have L0:=I.type (M:=qq5 P w);have L1:=looks_findIn (M:=qq5 P w) KI hga;have L2:=looks_findIn (M:=qq5 P w) KI hk;have L3:=looks_find (M:=qq5 P w) KI I hf;have LB:Looks (qq5 P w) hh' (isInstance (.ref x) (.type "BaseException")) true:=I.type.andThen (qzD KI (n7 (.inr (.inl rfl)) hp));unfold getAttr getAttrBy;refine ua (wpAny_mkText (qq8 (ua (L0.at (ua (L1.at ?_))))));refine(?_:qq3 _ _ (getAttrByItsOwn (.ref x) (.str name t) (.ref C) (.builtin "BaseException.__getattribute__") true expr) _ _ _);unfold getAttrByItsOwn hookBefore;refine ua (aa (show onTheHeap (.ref C)=true from rfl) (aa (if_pos rfl) ?_));refine L2.at (ua (qzL (qq8 ?_)));unfold callGetattribute boundAndCalled;refine aa (show(expr && onTheHeap (.builtin "BaseException.__getattribute__"))=false from by cases expr<;>rfl) (aa (if_neg (by decide)) (?_:qq3 _ _ (bindSpecial (.builtin "BaseException.__getattribute__") (.ref x)>>=_) _ _ _));refine ua (qzR (CU.bind _) ?_);refine(?_:qq3 _ _ (call (.builtin "BaseException.__getattribute__") [.ref x,.str name t]) _ _ _);refine qzF (codeAny_call_builtin CU.plain Gn (@check_slot (qq5 P w) _ _ _ "BaseException.__getattribute__" "BaseException" "__getattribute__" (.ref x) [.str name t] [] _ IV Go LB (IW (.ref x) (.str name t)) ?_));delta Builtin.«object.__getattribute__»;refine bp ?_;dsimp only;refine bp (ua (L0.at (ua (L3.at ?_))));refine ud (?_:qq3 _ _ (handedOut v) _ _ _);exact aa (handedOut_of hh) (ud h)
noncomputable def LO:Data->Option qz3
 | .func fd=>some fd|_=>none
noncomputable def Ng:qq0->Option qq7
 | .ref a=>some a|_=>none
noncomputable def SA:qq0->Option Str
 | .str q _=>some q|_=>none
noncomputable def CV:Data->Option (Array qq0)
 | .fields v=>some v|_=>none
theorem B6 {d:Data}{x:qz3}(h:LO d=some x):d= .func x:=by
 induction d using Data.casesOn with
 |func fd=>exact ug h▸rfl|_=>exact xNS h
theorem pe {d:Data}{x:Array qq0}(h:CV d=some x):d= .fields x:=by
 induction d using Data.casesOn with
 |fields fd=>exact ug h▸rfl|_=>exact xNS h
theorem n9 (h:Ng v=some x):v= .ref x:=by
 induction v using PySem.Value.casesOn with
 |ref a=>exact ug h▸rfl|_=>exact xNS h
theorem DQ {x:Str}(h:SA v=some x): ∃t,v= .str x t:=by
 induction v using PySem.Value.casesOn with
 |str q t=>exact⟨t,ug h▸rfl⟩|_=>exact xNS h
noncomputable def Nh (K:Frag)(fd:qz3):Option Str:=(Ng fd.code).bind λc=>(K.lookup c).bind λo=>(CV o.data).bind λvs=>(vs[1]? :Option qq0).bind SA
noncomputable def eU (K:Frag)(fd:qz3):Bool:=(Nh K fd).any λq=>decide (q=fd.qualname)
noncomputable def refOf (x:Option (Option qq0)):Option qq7:=x.bind λx=>x.bind Ng
theorem l4 {x:Option (Option qq0)}{a:qq7}(h:refOf x=some a):x=some (some (.ref a)):=by
 exact af (aG h) λy h1 h=> af (aG h) λv h2 h=> aa h1 (aa h2 (aa (n9 h) rfl))
noncomputable def nB (K:Frag)(pf:qq7)(names:List Str):kh where
 glob x:=if names.contains x then(match nsIn K qqR x with
  |some (some v)=>some v|some .none=>bootBuiltins x| .none=>.none) else .none
 func a:=(K.lookup a).bind λo=>(LO o.data).bind λfd=>if keepIn K (.ref a) && eU K fd then some fd else .none
 init c:=(refOf (findIn K (.ref c) "__init__")).bind λf=>if makesIn K c && keepIn K (.ref c) && plainOver K c && isFn K (.ref f) then some f else .none
 meth c m:=(refOf (findIn K (.ref c) m)).bind λf=>if plainGet K c m && hasDictIn K c && isFn K (.ref f) && specialIn K (.ref f) "__get__"==some (some (.builtin "function.__get__")) && takesIn K (.ref f)==some false && !copiedNames.contains m && fnIn K f && keepIn K (.ref f) then some f else .none
 attr c a:=plainGet K c a && hasDictIn K c && (findIn K (.ref c) a).any λx=>noGet K x
 seta c a:=findIn K (.ref c) "__setattr__"==some (some (.builtin "object.__setattr__")) && plainOver K c && takerIn K c a==some none && hasDictIn K c
 pf:=pf
structure cN (X:Cx):Prop extends CxOk X where
 cfg: ∃pf names,X.C=nB X.K pf names
 pfga:findIn X.K (.ref X.C.pf) "__getattribute__"=some (some (.builtin "BaseException.__getattribute__"))
 pfgt:findIn X.K (.ref X.C.pf) "__getattr__"=some none
 pfex:excIn X.K X.C.pf=true
 pfpl: ∃x,findIn X.K (.ref X.C.pf) (ag "place")=some x/\noGet X.K x=true
theorem zG (h:excIn K C=true):hasDictIn K C=true:=by
 refine af (any_some h) λcd hc h=>?_;simp only [uv] at h;delta hasDictIn;exact aa hc h.2
theorem Gp (O:CxOk X)(B:ao X s.heap Av fr H):X.K.In s.heap:=O.ins.keeps B.base
theorem DR {x:Str}{p pos:Pos}{a:Str}{whole:Sem qq0}(h:(x==ag "super")=false):attributeBase (.Call (.Name x p) [] [] pos) a env whole=whole:=by
 delta attributeBase;have h2:(x !=qqH "super")=true:=by refine(?_:(!(x==ag "super"))=true);refine aa h ?_;rfl
 refine(?_:(if(x !=qqH "super"||_||_||_)=true then whole else _)=whole);exact if_pos (by refine aa h2 ?_;rfl)
theorem l5 {a:Str}{whole:Sem qq0}(h:iA o=true):attributeBase o a env whole=whole:=by
 induction o using PySem.Expr.casesOn with
 |Call f args Ia pos=>
  induction f using PySem.Expr.casesOn with
  |Name x p=>
   induction args using List.casesOn with
   |cons _ _=>rfl|nil=>
    induction Ia using List.casesOn with
    |cons _ _=>rfl|nil=>
     have h:(!((x==ag "super") && true))=true:=h;rw [Bool.and_true,vJ] at h;exact DR h
  |_=>rfl
 |_=>rfl
theorem pg (h1:s.heap.get? x=some (qz1 c dx))(h2:s.heap.get? dx=some (dictOf es k)):InstAt s.heap x (qz1 c dx) c (some (dictOf es k)):=
 ⟨h1,rfl,rfl,h2⟩
theorem CX {a:Str}: ∀{ks:List Str} {ts:List Tok} {es:List DictEntry} {vs:List AV},ts.length=ks.length->es.map (·.key)=(ks.zip ts).map (λx=>qq0.str x.1 x.2)->cu X h Av vs (es.map (·.val))->
  es.any (·.refKey)=false/\match bK a ks vs with
  |some d=>∃e,es.find? (·.key.isStr a)=some e/\VV X h Av d e.val|none=>es.find? (·.key.isStr a)=none
 | [],[],es,vs,_,he,r=>by
  have:es= []:=by simpa using he
  subst this;exact⟨rfl,by cases vs<;>rfl⟩
 | [],_::_,_,_,hl,_,_=>by simp at hl
 |_::_,[],_,_,hl,_,_=>by simp at hl
 |k::ks,t::ts,[],vs,_,he,_=>by simp at he
 |k::ks,t::ts,e::es,vs,hl,he,r=>by
  simp only [ut,uU,List.cons.injEq] at he
  induction vs using List.casesOn with
  |nil=>exact nomatch (show(_::_:List qq0)= [] from r)|cons v vs=>
   refine a8 r λx r' e1 h1 h2=>?_;simp only [ut,List.cons.injEq] at e1;refine ai e1 λaz ah=>?_;clear e1;subst az;subst ah;refine ai (CX (a:=a) (ks:=ks) (ts:=ts) (es:=es) (vs:=vs) (by simpa using hl) he.2 h2) λi1 i2=>?_;refine⟨?_,?_⟩
   ·refine aa List.any_cons (aa i1 ?_);rewrite [qxX];refine(?_:DictEntry.refKey e=false);delta DictEntry.refKey;exact aa he.1 rfl
   ·refine aa AS (aa qxM ?_);have hs:e.key.isStr a=decide (a=k):=by
     refine aa he.1 (?_:qq0.isStr (.str k t) a=_);dsimp only [qq0.isStr];by_cases q:a=k
     ·subst q;rfl
     ·have: ¬k=a:=λz=>q z.symm;simp [q,this]
    by_cases q:k=a
    ·subst q;refine aa (if_pos rfl) (aa hs ?_);simp only [decide_true];exact(aj e rfl h1)
    ·refine aa (if_neg q) (aa hs ?_);have: ¬a=k:=λz=>q z.symm;simp only [this,decide_false];exact i2
theorem B7 {a:Str}{ts:List Tok}{vs:List AV}(hl:ts.length=ks.length)(he:es.map (·.key)=(ks.zip ts).map (λx=>qq0.str x.1 x.2))(r:cu X h Av vs (es.map (·.val))):
  match bK a ks vs with
  |some d=>∃v,getL a es=some (some v)/\VV X h Av d v|none=>getL a es=some none:=by
 refine ai (CX (a:=a) hl he r) λh1 h2=>?_;delta getL;cases q:bK a ks vs with
 |some d=>
  replace h2:=q▸h2;refine af h2 λe e1 e2=>?_;dsimp only;exact aa e1 (aj _ rfl e2)
 |none=>
  replace h2:=q▸h2;dsimp only at h2⊢;refine aa h2 (aa h1 ?_);rfl
theorem nE {x:AV}(hn:dF x=true)(r:VV X h Av x v):handedIn v=true:=by
 induction x using AV.casesOn with
 |glob u=>simp [dF] at hn|none=>refine aa (show v=qq0.none from r) ?_;rfl|bool b=>refine aa (show v=qq0.bool b from r) ?_;rfl|int i=>refine ac r λt ah=>?_;clear r;subst ah;rfl
 |str i=>refine ac r λt ah=>?_;clear r;subst ah;rfl
 |tup l=>refine aY r λa vs ak c8=>?_;clear r;subst ak;rfl
 |list l=>refine aY r λa vs ak c8=>?_;clear r;subst ak;rfl
 |wlist l=>refine aY r λa vs ak c8=>?_;clear r;subst ak;rfl
 |dict ks vs=>refine aY r λa ws ak c8=>?_;clear r;subst ak;rfl
 |inst c ks vs=>refine kK r λa dx es m be dX=>?_;clear r;subst be;rfl
 |meth f self=>refine aY r λa u ak c8=>?_;clear r;subst ak;rfl
 |rng n=>refine kK r λa t1 t2 t3 be dX=>?_;clear r;subst be;rfl
 |sset l=>refine af r λa ah ak=>?_;clear r;subst ah;rfl
 |items ks vs=>refine aB r λa d ws c8 be=>?_;clear r;subst c8;rfl
 |exc p=>refine O7 r λa o dx es m t u mY Fx Ni=>?_;clear r;subst Fx;rfl
 |hand=>refine af r λa ah ak=>?_;clear r;subst ak;rfl
theorem CY {c f:qq7}{m:Str}(h:(nB K pf names).meth c m=some f):
  findIn K (.ref c) m=some (some (.ref f))/\plainGet K c m=true/\hasDictIn K c=true/\isFn K (.ref f)=true/\specialIn K (.ref f) "__get__"=some (some (.builtin "function.__get__"))/\takesIn K (.ref f)=some false/\copiedNames.contains m=false/\fnIn K f=true/\keepIn K (.ref f)=true:=by
 exact af (aG h) λf' h1 h=> ai (Dy h) λq h=> bq (ug h) (ai (tt q) λq q8=> ai (tt q) λq q7=> ai (tt q) λq q6=> ai (tt q) λq q5=> ai (tt q) λq q4=> ai (tt q) λq q3=> ai (tt q) λq1 q2=>(OD (l4 h1) q1 q2 q3 (beq_iff_eq.mp q4) (beq_iff_eq.mp q5) ((vJ _).mp q6) q7 q8))
theorem DS {C:kh}{vs:List AV}{a:Str}(e:gW C (.inst c ks vs) a=some r):(bK a ks vs=some r/\C.attr c a=true/\dF r=true)\/(bK a ks vs=none/\ ∃f,C.meth c a=some f/\r= .meth f (.inst c ks vs)):=by
 have e:(match bK a ks vs with
  |some v=>if C.attr c a && dF v then some v else .none
  | .none=>match C.meth c a with
   |some f=>some (AV.meth f (.inst c ks vs))| .none=>.none)=some r:=e
 refine cO (bK a ks vs) (λq=>?_) λd q=>?_
 ·replace e:=q▸e;refine cO (C.meth c a) (λq2=>?_) λf q2=>?_
  ·have e:(match C.meth c a with
    |some f=>some (AV.meth f (.inst c ks vs))| .none=>.none)=some r:=e
   replace e:=q2▸e;exact xNS e
  ·have e:(match C.meth c a with
    |some f=>some (AV.meth f (.inst c ks vs))| .none=>.none)=some r:=e
   replace e:=q2▸e;exact .inr ⟨q,f,q2,(ug e).symm⟩
 ·replace e:=q▸e;exact ai (Dy e) λk e=> bq (ug e) (.inl (aQ q (tt k).1 (tt k).2))
theorem B8 (O:cN X)(B:ao X s.heap Av fr H){vs:List AV}{a:Str}(hx:VV X s.heap Av (.inst c ks vs) v)(e:bK a ks vs=some r)(h1:X.C.attr c a=true)(h2:dF r=true)(hQ: ∀v s',Ex X (aO fr) s s'->au X s'.heap Av H->VV X s'.heap Av r v->Q v s'):qq3 (qq5 X.P X.w) A (getAttr v a true) Q E s:=by
 refine aX O.cfg λpf names gA=> kN hx λi dx es k q n1 n2 g1 g2 Ni r1=>af Ni λts hl he=>?_;have g:=B7 (a:=a) hl he r1;replace g:=e▸g;refine af g λu g3 g4=>?_;replace h1:=gA▸h1;exact ai (tt h1) λp p3=> af (any_some p3) λatt ha p3=> aa q (get_value (Gp O.toCxOk B) (pg g1 g2) (plainGet_of (tt p).1).1 (findObj_own (tt p).2 ha p3 (by rw [lookIn_dict];exact g3)) (nE h2 g4) (hQ _ _ .tok (au.tok B) g4))
theorem B9 (O:cN X)(B:ao X s.heap Av fr H){c f:qq7}{vs:List AV}{a:Str}(hx:VV X s.heap Av (.inst c ks vs) v)(e:bK a ks vs=none)(hf:X.C.meth c a=some f)(hQ: ∀v s',Ex X (aO fr) s s'->au X s'.heap Av H->VV X s'.heap Av (.meth f (.inst c ks vs)) v->Q v s'):qq3 (qq5 X.P X.w) A (getAttr v a true) Q E s:=by
 refine aX O.cfg λpf names gA=> kN hx λi dx es k q n1 n2 g1 g2 Ni r1=>af Ni λts hl he=>?_;have g:=B7 (a:=a) hl he r1;replace g:=e▸g;replace hf:=gA▸hf;refine Ke (CY hf) λm1 m2 m3 m4 m5 m6 m7 m8 m9=>?_;have KI:=Gp O.toCxOk B;refine aa q (get_bind KI (pg g1 g2) (plainGet_of m2).1 (findObj_fn m3 m1 m5 m6 m7 (by rw [lookIn_dict];exact g)) (plainGet_of m2).2 (qzF (fn_get (s:={s with toks:=s.toks+1}) KI (beq_iff_eq.mp m4) (handed_on rfl ?_))));exact hQ _ _ .push (au.push B) ⟨s.heap.objs.size,.ref i,rfl,B.size,ue _ rfl,i,dx,es,k,rfl,n1,n2,uc _ g1,uc _ g2,(aj ts hl he),aF.chg du _ _ r1⟩
theorem Gq (O:cN X)(B:ao X s.heap Av fr H){p:AV}(hx:VV X s.heap Av (.exc p) v)(hng:dF p=true)(hQ: ∀v s',Ex X (aO fr) s s'->au X s'.heap Av H->VV X s'.heap Av p v->Q v s'):qq3 (qq5 X.P X.w) A (getAttr v (ag "place") true) Q E s:=by
 refine Kj hx λi o dx es k t u mY q n1 n2 h1 e1 e2 e3 aI=>aU aI λh2 e4 r1=>?_;have I:InstAt s.heap i o X.C.pf (some (dictOf es k)):=⟨h1,e1,e2,by exact aa e3 h2⟩;have hg:getL (ag "place") es=some (some u):=by
  delta getL;refine af (qqT.mp e4) λen q1 q2=>?_;have q1':es.find? (·.key.isStr (ag "place"))=some en:=q1;exact aa q1' (congrArg some (congrArg some q2))
 exact af O.pfpl λatt ha hn=> aa q (IX (Gp O.toCxOk B) I O.pfga O.pfgt O.pfex (findObj_own (zG O.pfex) ha hn (by rw [lookIn_dict];exact hg)) (nE hng r1) (hQ _ _ .tok (au.tok B) r1))
theorem IY (O:cN X)(B:ao X s.heap Av fr H){x:AV}{a:Str}(hx:VV X s.heap Av x v):bw X A fr Av s H (getAttr v a true) (lift (gW X.C x a)):=by
 refine .lift λr e=>.of λQ E hQ=>?_
 induction x using AV.casesOn with
 |inst c ks vs=>
  exact(DS e).elim (λq=>B8 O B hx q.1 q.2.1 q.2.2 hQ) λq=> ai q λq1 aI=>af aI λf q2 q3=> B9 O B hx q1 q2 (q3▸hQ)
 |exc p=>
  exact ai (cC (show(if a=ag "place"/\dF p=true then some p else none)=some r from e)) λq e=> aa q.1 (Gq O B hx q.2 (e▸hQ))
 |_=>exact xNS e
theorem BA: ∀{ns:List Str} {vs:List α},ns.Nodup->ns.length=vs.length->ns.filterMap (λx=>((ns.zip vs).lookup x).map (x,·))=ns.zip vs:=by
 intro ns
 induction ns with
 |nil=>intro vs _ _;rfl|cons x r ih=>
  intro vs hn hl
  induction vs using List.casesOn with
  |nil=>simp at hl|cons v vs=>
   simp only [vC] at hn;refine aa qxS ?_;simp only [uU,um,beq_self_eq_true,vS];congr 1;have e: ∀(l:List Str),(∀y∈l,y≠x)->l.filterMap (λy=>(((x,v)::r.zip vs).lookup y).map (y,·))=l.filterMap (λy=>((r.zip vs).lookup y).map (y,·)):=by
    intro l
    induction l with
    |nil=>intro _;rfl|cons y l ihl=>
     intro h;have:(y==x)=false:=by exact Iff.mpr beq_eq_false_iff_ne (h y uE)
     refine aa qxS (aa qxS ?_);refine aa um (aa this ?_);exact aa (ihl λz hz=>h z (uz _ hz)) rfl
   exact(e r λy hy q=>hn.1 (q▸hy)).trans (ih hn.2 (by simpa using hl))
theorem nF {x:Str}: ∀{ns:List Str} {vs:List α},ns.length=vs.length->x∈ns->((ns.zip vs).lookup x).isNone=false
 | [],_,_,h=>OC h|y::ns,[],hl,_=>nomatch hl|y::ns,v::vs,hl,h=>by
  refine aa uU (aa um ?_);by_cases q:x=y
  ·refine aa (beq_iff_eq.mpr q) ?_;rfl
  ·exact aa (beq_eq_false_iff_ne.mpr q) (nF (Nat.succ.inj hl) ((uY.mp h).resolve_left q))
theorem SD {α:Type}{c:Prop} [Decidable c]{a b x:α}(h: ¬c)(k:b=x):(if c then a else b)=x:=(if_neg h).trans k
theorem SE {l:List α}(h:l= []): ¬((!l.isEmpty)=true):=by subst h;exact uB
theorem SG {a b:Nat}{c:Bool}(h:b=a): ¬((decide (a>b) && c)=true):=λq=>vg a (uJ (uC h.symm) (of_decide_eq_true (tt q).1))
theorem SH {a:List α}{b:List β}{s:γ}{f:α×β->γ->Sem (ForInStep γ)}{g:γ->Sem δ}{x:Sem δ}(h:b= [])(e:g s=x):(forIn (a.zip (b.drop k)) s f>>=g)=x:=by
 subst h;refine aa List.drop_nil (aa List.zip_nil_right ?_);exact e
theorem mv {x1 x2:Str}{as:List Arg}{kd:List (Option Expr)}{df:List Expr}{x3:FuncBody}{x4:Scope}{x5:qq7}{x6:List (Str×qq7)}{x8 y1 y2:qq0}{y3:Option qq7}{y4 y5:qq0}{y6:qq7}(hl:(as.map (·.arg)).length=vs.length)(hn:(as.map (·.arg)).Nodup):
  bindArgs ⟨x1,x2,⟨[],as,none,[],kd,none,df⟩,x3,x4,x5,x6,.none,x8,y1,y2,y3,y4,y5,y6⟩ ⟨vs,[]⟩=pure ((as.map (·.arg)).zip vs):=
 SD (α:=Sem (List (Str×qq0))) (SG hl) (SD (α:=Sem (List (Str×qq0))) (SE (List.filter_eq_nil_iff.mpr λx hx q=>uB ((nF hl (List.mem_of_mem_take hx)).symm.trans q))) (SH rfl
  (Eq.trans (b:=pure (List.filterMap (λn=>(((as.map (·.arg)).zip vs).lookup n).map (n,·)) (as.map (·.arg)++ []))) (by kernel_rfl) (congrArg pure ((congrArg (List.filterMap _) (uN _)).trans (BA hn hl))))))
theorem zH {x1 x2:Str}{po ko as:List Arg}{va kw:Option Arg}{kd:List (Option Expr)}{df:List Expr}{x3:FuncBody}{x4:Scope}{x5:qq7}{x6:List (Str×qq7)}{x7 x8 y1 y2:qq0}{y3:Option qq7}{y4 y5:qq0}{y6:qq7}(h1:po= [])(h2:va=none)(h3:ko= [])(h4:kw=none)(h5:x7= .none)(hl:(as.map (·.arg)).length=vs.length)(hn:(as.map (·.arg)).Nodup):
  bindArgs ⟨x1,x2,⟨po,as,va,ko,kd,kw,df⟩,x3,x4,x5,x6,x7,x8,y1,y2,y3,y4,y5,y6⟩ ⟨vs,[]⟩=pure ((as.map (·.arg)).zip vs):=by
 subst h1 h2 h3 h4 h5;exact mv hl hn
theorem eD {fd:qz3}{vs:List qq0}(h1:fd.params.posonlyargs= [])(h2:fd.params.vararg=none)(h3:fd.params.kwonlyargs= [])(h4:fd.params.kwarg=none)(h5:fd.defaults= .none)
  (hl:fd.params.args.length=vs.length) (hn:(fd.params.args.map (·.arg)).Nodup):bindArgs fd ⟨vs,[]⟩=pure ((fd.params.args.map (·.arg)).zip vs):=
 zH (x1:=fd.name) (x2:=fd.qualname) (x3:=fd.body) (x4:=fd.scope) (x5:=fd.globals) (x6:=fd.closure) (x8:=fd.kwdefaults) (y1:=fd.doc) (y2:=fd.pyModule) (y3:=fd.annotations) (y4:=fd.code) (y5:=fd.closureTuple) (y6:=fd.builtins) (kd:=fd.params.kw_defaults) (df:=fd.params.defaults) h1 h2 h3 h4 h5 ((uQ _).trans hl) hn
structure iQ (s0:qq1)(env:Env)(L:qq7)(new:List (Str×qq7))(m cm:Str->Option qq0)(s:qq1):Prop where
 keep: ∀b o,s0.heap.get? b=some o->s.heap.get? b=some o
 gens:s.gens=s0.gens
 os:s.os=s0.os
 frm: ∃o,s.heap.get? L=some o/\lp o
 ns:s.heap.Ns L m
 cells: ∀x c,(x,c)∈new->s.heap.IsCell c (cm x)
theorem zI (hk:env.scope.kind= .function)(ju:env.cells=new)(hn:(new.map (·.1)).Nodup)(ha:new.Pairwise λx y=>x.2≠y.2)(hL:s0.heap.get? env.locals=none)(hC: ∀x c,(x,c)∈new->s0.heap.get? c=none/\c≠env.locals)
  (F:iQ s0 env env.locals new m cm s) {x:Str} {v:qq0} (hx:env.kindOf x=some .local\/(env.kindOf x=some .cell/\ ∃c,(x,c)∈new)) {Q:Unit->qq1->Prop} {E:qq0->qq1->Prop}
  (h: ∀s' m' dc,iQ s0 env env.locals new m' dc s'->slot env m' dc x=some v->(∀y,y≠x->slot env m' dc y=slot env m cm y)->Q () s'):qq3 (qq5 X.P X.w) A (qx2 env x v) Q E s:=by
 refine af F.frm λoL A9 Zd=> ui hx ?_ ?_;(all_goals clear hx);intro hx;rotate_left;intro az;refine ai az λhx MU=>ac MU λc hc=>?_;rotate_right
 ·rw [storeName_local hx (by refine aa hk ?_;rfl)];refine FU F.ns A9 λh' Sn U6 hs oX FV=>?_;have k: ∀b o,b≠env.locals->s.heap.get? b=some o->h'.get? b=some o:=λb o hb e=>by exact aa (hs.2 b hb) e
  refine h {s with heap:=h',toks:=s.toks+1} _ cm ⟨λb o e=>k b o (λq=>by replace e:=q▸e;replace e:=eS hL e;exact xNS e) (F.keep b o e),F.gens,F.os,⟨Sn,oX,FV.trans Zd.1,λvs hv=>?_⟩,U6,λy c hy=>?_⟩ ?_ λy hy=>?_
  ·refine bT U6 λo2 DK Ux fg iy dX=>?_;replace fg:=eS oX fg;refine al fg λah=>?_;clear fg;subst ah;replace iy:=eS hv iy;cases iy
  ·exact af (F.cells y c hy) λo ho hd=>(aj o (k c o (hC y c hy).2 ho) hd)
  ·delta slot;refine aa (if_pos hx) ?_;simp
  ·delta slot;simp [hy]
 ·have hl:=a_ hn hc;refine af (F.cells x c hc) λoc So W7=>?_;have nl: ¬env.kindOf x=some .local:=by refine aa hx ?_;simp
  refine nu hk hx (by exact aa ju hl) So W7 λh' IK hs=>?_;have k: ∀b o,b≠c->s.heap.get? b=some o->h'.get? b=some o:=λb o hb e=>by exact aa (hs.2 b hb) e
  have Ze:env.locals≠c:=λq=>(hC x c hc).2 q.symm;refine h {s with heap:=h'} m (λy=>if y=x then some v else cm y) ⟨λb o e=>k b o (λq=>by replace e:=q▸e;replace e:=eS (hC x c hc).1 e;exact xNS e) (F.keep b o e),F.gens,F.os,(aj oL (k _ _ Ze A9) Zd),?_,λy c' hy=>?_⟩ ?_ λy hy=>?_
  ·exact aB F.ns λo es ep ho r=>(ct o es ep (k _ _ Ze ho) r)
  ·by_cases q:y=x
   ·subst q;have:c'=c:=by
     have:=a_ hn hy;replace this:=eS hl this;refine al this λah=>?_;clear this;subst ah;rfl
    subst this;exact(aj _ IK (by simp))
   ·refine af (F.cells y c' hy) λo ho hd=>(aj o (k c' o (λz=>q ?_) ho) (by simpa [q] using hd));subst z;exact name_of_addr ha hy hc
  ·delta slot;refine aa (if_neg nl) (aa (if_pos (.inl hx)) ?_);simp
  ·delta slot;simp [hy]
theorem jK {s0:qq1}{new:List (Str×qq7)}(hk:env.scope.kind= .function)(ju:env.cells=new)(hn:(new.map (·.1)).Nodup)(ha:new.Pairwise λx y=>x.2≠y.2)(hL:s0.heap.get? env.locals=none)(hC: ∀x c,(x,c)∈new->s0.heap.get? c=none/\c≠env.locals)
  (f:Str×qq0->PUnit->Sem (ForInStep PUnit)) (hf: ∀n v u,f (n,v) u=(do qx2 env n v;pure (.yield ⟨⟩))): ∀(binds:List (Str×qq0)) {s:qq1} {m cm:Str->Option qq0} {Q:PUnit->qq1->Prop} {E:qq0->qq1->Prop},
  iQ s0 env env.locals new m cm s->(binds.map (·.1)).Nodup->(∀x∈binds,env.kindOf x.1=some .local\/(env.kindOf x.1=some .cell/\ ∃c,(x.1,c)∈new))->
  (∀s' m' dc,iQ s0 env env.locals new m' dc s'->(∀x v,(x,v)∈binds->slot env m' dc x=some v)->(∀y,y∉binds.map (·.1)->slot env m' dc y=slot env m cm y)->Q ⟨⟩ s')->qq3 (qq5 X.P X.w) A (forIn binds ⟨⟩ f) Q E s
 | [],s,m,cm,Q,E,F,_,_,h=>by
  exact aa List.forIn_nil (ud (h s m cm F (λx v hx=>by simp at hx) λy _=>rfl))
 |(x,v)::r,s,m,cm,Q,E,F,Bl,hx,h=>by
  simp only [ut,vC] at Bl;rw [vN,hf];refine ua (ua (zI hk ju hn ha hL hC F (hx (x,v) uE) λs1 m1 d7 F1 e1 e2=>ud ?_));refine jK hk ju hn ha hL hC f hf r F1 Bl.2 (λy hy=>hx y (uz _ hy)) λs2 m2 zx F2 g1 g2=>h s2 m2 zx F2 (λy u hy=>?_) λy hy=>?_
  ·refine ui (uY.mp hy) (λe=>?_) λhy=>?_
   ·refine yJ e λah ak=>?_;clear e;subst ah;subst ak;exact aa (g2 y Bl.1) (aa e1 rfl)
   ·exact g1 y u hy
  ·simp only [ut,uY,not_or] at hy;exact aa (g2 y hy.2) (aa (e2 y hy.1) rfl)
structure Run (X:Cx)(ia:qq7)(aq:List Env)(s0:qq1)(aw:qq7->Prop)(env:Env)(Av:qq7->Prop)(oa:Str->qq7)(m cm:Str->Option qq0)(s:qq1)(H:HS)(ae:Loc):Prop where
 ex:Ex X (aO aq) s0 s
 base:ao X s.heap Av (env::aq) H
 loc:aJ X s.heap env Av oa ae m cm
 sub: ∀b,aw b->Av b
 fresh: ∀b,Av b->aw b\/s0.heap.get? b=none
 own: ∀x ob,ae.om.lookup x=some ob-> ¬aw (oa x)
 ownD: ∀x c ks vs dx,ae.om.lookup x=some (.inst c ks vs)->s.heap.get? (oa x)=some (qz1 c dx)-> ¬aw dx/\oa x=ia
noncomputable def Zf (X:Cx)(aw:qq7->Prop)(h:qqK):Fl->Flow->Prop
 | .next,.next=>True| .ret v,.ret u=>VV X h aw v u|_,_=>False
def bM (X:Cx)(A:qqG)(ia:qq7)(aq:List Env)(s0:qq1)(aw:qq7->Prop)(env:Env)(s:qq1)(H:HS)(t:Sem Flow)(mm:M (Fl×Loc)):Prop:=
 ∀r H',mm H=some (r,H')-> ∀(Q:Flow->qq1->Prop) (E:qq0->qq1->Prop),
  (∀f a6,r= .ok (f,a6)-> ∀fl s' Av oa m cm,Run X ia aq s0 aw env Av oa m cm s' H' a6->Zf X aw s'.heap f fl->Q fl s')->
  (∀p,r= .error p-> ∀e s',de X s0 aq aw (env::aq) p H' e s'->E e s')->
  qq3 (qq5 X.P X.w) A t Q E s
variable {ia:qq7}
set_option tactic.hygienic true in
theorem bM.use {aq:List Env}{aw:qq7->Prop}{t:Sem Flow}{mm:M (Fl×Loc)}{k:Fl×Loc->M δ}{r:Except AV δ}(h:bM X A ia aq s0 aw env s H t mm)(e:M.bind mm k H=some (r,H')){Q:Flow->qq1->Prop}
  (hN: ∀a6 H1,k (.next,a6) H1=some (r,H')-> ∀s' Av oa m cm,Run X ia aq s0 aw env Av oa m cm s' H1 a6->Q .next s')
  (hR: ∀d a6 H1,k (.ret d,a6) H1=some (r,H')-> ∀v s' Av oa m cm,Run X ia aq s0 aw env Av oa m cm s' H1 a6->VV X s'.heap aw d v->Q (.ret v) s')
  (hE: ∀p,r= .error p-> ∀e s',de X s0 aq aw (env::aq) p H' e s'->E e s'):qq3 (qq5 X.P X.w) A t Q E s:=by
 refine(M.bind_some e).elim (λq=>?_) (λq=>?_)
 ·exact af q λp e1 e2=> h _ _ e1 _ _ (λf a6 q=>xE q) λp' q=>Except.error.inj q▸hE p e2
 ·refine aY q λa H1 e1 e2=> h _ _ e1 _ _ (λf a6 q fl s' Av oa m cm R w=>?_) (λp q=>xO q);rw [Except.ok.inj q] at e2;cases f with
  |next=>
   cases fl<;>first|exact w.elim|exact hN a6 H1 e2 _ _ _ _ _ R
  |ret d=>
   cases fl<;>first|exact w.elim|exact hR d a6 H1 e2 _ _ _ _ _ _ R w
theorem fu (h:eG fd=true):fd.scope.kind= .function/\fd.scope.isCoroutine=false/\fd.scope.isGenerator=false/\fd.closure= []/\fd.defaults= .none/\fd.params.posonlyargs= []/\fd.params.vararg=none/\fd.params.kwonlyargs= []/\fd.params.kwarg=none/\
  fd.globals=qqR/\fd.builtins=qz0/\(fd.scope.names.map (·.1)).Nodup/\fd.scope.names.lookup ("__debug__":Str)=none/\fd.scope.names.lookup ("__classdict__":Str)=none/\(fd.params.args.map (·.arg)).Nodup/\
  (∀x∈fd.params.args.map (·.arg),fd.scope.names.lookup x=some .local\/fd.scope.names.lookup x=some .cell)/\(∀x,fd.scope.names.lookup x≠some .free)/\ ∃b,fd.body= .stmts b:=by
 delta eG at h;simp only [uv,decide_eq_true_eq,vJ,qqM,vB,beq_iff_eq,qqJ,qxR,bne_iff_ne,ne_eq] at h;refine ai h λaz WR=>ai az λAB h17=> ai AB λIM h16=>ai IM λWS Uw=> ai WS λWT h14=>ai WT λfw h13=> ai fw ?_;clear fw;intro fw h12;refine ai fw ?_;clear fw;intro fw WU;refine ai fw ?_;clear fw;intro fw h10;refine ai fw ?_;clear fw;intro fw h9;refine ai fw ?_;clear fw;intro fw h8;refine ai fw ?_;clear fw;intro fw h7;refine ai fw ?_;clear fw;intro fw h6;refine ai fw ?_;clear fw;intro fw h5;refine ai fw ?_;clear fw;intro fw h4;refine ai fw ?_;clear fw;intro fw h3;refine ai fw λh1 h2=>?_;refine⟨h1,h2,h3,h4,h5,h6,h7,h8,h9,h10,WU,h12,h13,h14,Uw,h16,λx hx=>h17 (x,.free) (mem_of_lookup hx) rfl,?_⟩;unfold Ft at WR;split at WR
 ·exact⟨_,by assumption⟩
 ·exact di WR
theorem d8: ∀(l:List (Str×qqL)) (k:Nat),(l.map (·.1)).Nodup->((qq6 k l []).map (·.1)).Nodup
 | [],_,_=>qxW|(x,kx)::r,k,h=>by
  simp only [ut,vC] at h;unfold qq6;split
  ·rewrite [bm];refine aa uA (Iff.mpr List.nodup_append ?_);refine(aQ (d8 r _ h.2) (by simp) (λa ha b hb=>?_));simp only [ut,qxV,qq2] at hb;subst hb;refine af (vM.mp ha) λaz hc ak=>?_;obtain⟨y,c⟩:=az;subst ak;intro e;exact h.1 (vM.mpr (aj ((y,.cell)) (bO hc) e))
  ·exact d8 r _ h.2
theorem hX {fd:qz3}(ok:eG fd=true)(hH: ∀a,X.aH=some a->Av a)(B:ao X s.heap Av fr H){a:qq7}{binds:List (Str×qq0)}{rho:List (Str×AV)}{om:List (Str×OB)}
  (Bl:(binds.map (·.1)).Nodup) (hp: ∀x∈binds.map (·.1),fd.scope.names.lookup x=some .local\/fd.scope.names.lookup x=some .cell)
  (WV: ∀x d,rho.lookup x=some d-> ∃v,(x,v)∈binds/\VV X s.heap Av d v)
  (EB:om= []) {Q:Env->qq1->Prop} {E:qq0->qq1->Prop}
  (hQ: ∀env s1 ix m cm,env=newEnv fd.scope s.heap.objs.size fd.globals (qq6 (s.heap.objs.size+1) fd.scope.names []) (fd.qualname++ ".<locals>.") (some a) fd.code none fd.builtins->
   Run X ia fr s Av env ix oa m cm s1 H ⟨fd.scope,rho,om⟩->(∀b o,s.heap.get? b=some o->s1.heap.get? b=some o)->(∀x v,(x,v)∈binds->slot env m cm x=some v)->Q env s1):
  qq3 (qq5 X.P X.w) A (newFunctionEnv fd.scope fd.globals fd.closure binds (fd.qualname++ ".<locals>.") (some a) fd.code none fd.builtins) Q E s:=by
 refine oy (fu ok) λf1 f2 f3 f4 f5 f6 f7 f8 f9 U7 U8 U9 aI=>yH aI λUA UB IZ Oe UC I_=> aa f4 ?_;simp only [newFunctionEnv,Option.isSome_none,uX,if_false];refine ua (wpAny_alloc ?_);refine ua (wpAny_layCells _ (λname kind cells=>by cases hkc:kind==qqL.cell<;>rfl) _ _ _ _ ?_);refine aa (show({s with heap:=s.heap.push {cls:= .type "frame",data:= .dict #[]}}:qq1).heap.objs.size=s.heap.objs.size+1 from uR ..) ?_;generalize hL:s.heap.objs.size=L
 let new:=qq6 (L+1) fd.scope.names []
 let env:Env:=newEnv fd.scope L fd.globals new (fd.qualname++ ".<locals>.") (some a) fd.code none fd.builtins
 have Gr:=cellsFrom_ok fd.scope.names (s.heap.push {cls:= .type "frame",data:= .dict #[]}) (L+1) [] ⟨λ_ _ hm=>(nomatch hm),List.Pairwise.nil⟩ (by rewrite [uR];exact aa hL (ur _));rewrite [uR] at Gr;replace Gr:=hL▸Gr;generalize Od:pushCells (s.heap.push {cls:= .type "frame",data:= .dict #[]}) fd.scope.names=h2 at Gr⊢;have k2: ∀b o,s.heap.get? b=some o->h2.get? b=some o:=λb o e=>by exact bq Od (pushCells_keeps _ _ _ _ (uc _ e))
 have CZ:h2.get? L=some {cls:= .type "frame",data:= .dict #[]}:=by exact bq Od (bq hL (pushCells_keeps _ _ _ _ (ue _ rfl)))
 have nL:s.heap.get? L=none:=aW (s2:=s) (λ_ _ e=>e) (uC hL);have oK: ∀x c,(x,c)∈new->L+1<=c:=λx c h=>(Gr.empty x c h).2;have nC: ∀x c,(x,c)∈new->s.heap.get? c=none/\c≠L:=λx c h=>⟨aW (s2:=s) (λ_ _ e=>e) (by exact aa hL (uO (oK x c h))),vA (oK x c h)⟩;have nn:(new.map (·.1)).Nodup:=d8 _ _ U9;have F0:iQ s env L new (λ_=>none) (λ_=>none) {s with heap:=h2}:=
  ⟨k2,rfl,rfl,⟨_,CZ,rfl,λvs hv=>by cases hv⟩,(kP _ (#[]) 0 CZ rfl (by intro _ h;simp at h) (λ_=>rfl)),λx c hc=>(Gr.empty x c hc).1⟩
 refine ua (jK (env:=env) (s0:=s) (new:=new) f1 rfl nn Gr.apart nL nC _ (λ_ _ _=>rfl) binds F0 Bl (λx hx=>?_) λs1 m1 d7 F1 g1 g2=>ud ?_)
 ·refine ui (hp x.1 (vM.mpr (aj x hx rfl))) (λh=>?_) λh=>?_
  ·exact .inl h
  ·refine .inr ⟨h,?_⟩;refine ac (eI (n:=L+1) (mem_of_lookup h)) λc hc=>?_;exact⟨c,mem_of_lookup hc⟩
 ·let Z:List qq7:=L::new.map (·.2)
  have fz: ∀b∈Z,s.heap.get? b=none:=λb hb=>by
   refine ui (uY.mp hb) ?_ ?_;intro az;subst az;rotate_left;intro hb;rotate_right
   ·exact nL
   ·refine af (vM.mp hb) λaz hc ak=>?_;obtain⟨x,c⟩:=az;subst ak;exact(nC x c hc).1
  have By: ∀a,X.aH=some a->a∉Z:=λa e q=>by
   refine ac (B.live a (hH a e)) λo ho=>?_;replace ho:=eS (fz a q) ho;exact xNS ho
  have cin: ∀x c,(x,c)∈new->c∈Z:=λx c hc=>by
   have hm:c∈new.map (·.2):=vM.mpr (aj ((x,c)) hc rfl);simp only [Z,uY];exact .inr hm
  refine hQ env s1 (ins Av Z) m1 d7 (by exact aa hL rfl) ⟨⟨λb o e _ _=>F1.keep b o e,λb o e _ _=>⟨o.slots,F1.keep b o e⟩,F1.gens,F1.os⟩,?_,?_,λb q=>.inl q,λb q=>q.imp id (fz b),λx l e=>by subst EB;simp at e,λx c ks vs dx e=>by subst EB;simp at e⟩ F1.keep g1
  ·have B1:ao X s1.heap (ins Av Z) fr H:=B.keep F1.keep (λb q=>.inl q) (λb o e n q=>by
    refine ui q (λq=>?_) λq=>?_
    ·exact n q
    ·replace e:=eS (fz b q) e;exact xNS e) λb q=>by
     refine ui q (λq=>?_) λq=>?_
     ·refine ac (B.live b q) λo ho=>?_;exact⟨o,F1.keep b o ho⟩
     ·refine ui (uY.mp q) ?_ ?_;intro az;subst az;rotate_left;intro q;rotate_right
      ·refine af F1.frm λo ho ak=>?_;exact⟨o,ho⟩
      ·refine af (vM.mp q) λaz hc ak=>?_;obtain⟨x,c⟩:=az;subst ak;refine af (F1.cells x c hc) λo ho ak=>?_;exact⟨o,ho⟩
   refine⟨B1.base,B1.off,B1.live,B1.hand,λen he=>?_⟩;refine ui (uY.mp he) ?_ ?_;intro az;subst az;rotate_left;intro he;rotate_right
   ·refine af F1.frm λo ho fg=>?_;refine⟨?_,L,o,rfl,.inr (by exact .head _),λq=>By L q (by exact .head _),?_,ho,fg.1,fg.2⟩
    ·refine(?_:fd.scope.kind≠ .module);refine aa f1 ?_;simp
    ·cases q:X.h0.get? L with
     |none=>rfl|some o=>replace nL:=eS (B.base L o q) nL;exact oz nL
   ·exact B1.frok en he
  ·have kin: ∀x,Env.kindOf env x=fd.scope.names.lookup x:=λ_=>rfl;subst EB;refine{kind:=f1,glb:=U7,bi:=U8,dbg:=UA,cdt:=UB,kinds:=λx k e=>.inl e,ns:=F1.ns,cells:=λx c e=>F1.cells x c (mem_of_lookup e),hasc:=λx e=>?_,avL:= .inr (show L∈Z by exact .head _),avC:=λx c e=>.inr (cin x c (mem_of_lookup e)),apart:=λx y c e1 e2=>name_of_addr Gr.apart (mem_of_lookup e1) (mem_of_lookup e2),vals:=λx d e=>?_,owns:=λx ob e=>by simp at e,inj:=λx y ob ob' e=>by simp at e,solo:=λx y c ks vs ob e=>by simp at e,nL:=λq=>By L q (by exact .head _)}
   ·refine ui e (λe=>?_) λe=>?_
    ·refine ac (eI (n:=L+1) (mem_of_lookup (show fd.scope.names.lookup x=some .cell from e))) λc hc=>(?_:(new.lookup x).isSome=true);refine aa hc ?_;rfl
    ·exact absurd e (UC x)
   ·refine af (WV x d e) λv h1 h2=>?_;exact(aj v (g1 x v h1) (VR.chg (λb o e n=>⟨F1.keep b o e,λq=>by
     refine ui q (λq=>?_) λq=>?_
     ·exact n q
     ·replace e:=eS (fz b q) e;exact xNS e⟩) _ _ h2))
theorem ph {a:qq7}(h:(nB K pf names).func a=some fd): ∃c d sl,K.lookup a=some ⟨c,d,.func fd,sl⟩/\keepIn K (.ref a)=true/\eU K fd=true:=by
 refine af (aG h) λo h1 h=> af (aG h) λfd' h2 h=> ai (Dy h) λq h=>?_;have h2:=B6 h2;rw [Option.some.inj h] at h2 q;exact(iD o.cls o.dict o.slots (h1.trans (congrArg some (by exact bq h2 rfl))) (tt q).1 (tt q).2)
theorem codeRec_of (X:K.In h)(e:eU K fd=true):h.CodeRec fd.code fd.qualname:=by
 refine af (any_some e) λq h1 e=>?_;replace h1:=(of_decide_eq_true e)▸h1;exact af (aG h1) λc h2 h1=> af (aG h1) λo h3 h1=> af (aG h1) λvs h4 h1=> af (aG h1) λv h5 h1=> ac (DQ h1) λt h1=>(eN c o vs t (n9 h2) (X _ _ h3) (pe h4) (h5.trans (congrArg some h1)))
def Nj (X:Cx)(A:qqG)(ia:qq7)(fr:List Env)(s:qq1)(Av:qq7->Prop)(env:Env)(H:HS)(t:Sem Flow)(mm:M (Fl×Loc))(ae:Loc):Prop:=
 ∀s1 ix oa m cm,Run X ia fr s Av env ix oa m cm s1 H ae->bM X A ia fr s Av env s1 H t mm
def SI (X:Cx)(A:qqG)(fr:List Env)(Av:qq7->Prop)(s:qq1)(H:HS)(f:qq0)(vs:List qq0)(mm:M AV):Prop:=
 ∀r H',mm H=some (r,H')-> ∀(Q:qq0->qq1->Prop) (E:qq0->qq1->Prop),
  (∀d,r= .ok d-> ∀v s',Ex X (aO fr) s s'->au X s'.heap Av H'->VV X s'.heap Av d v->Q v s')->
  (∀p,r= .error p-> ∀e s',Ex X (aO fr) s s'->au X s'.heap Av H'->fH X s.heap s'.heap Av p e->E e s')->
  qzZ (qq5 X.P X.w) A (.call f ⟨vs,[]⟩) (λr s'=>match r with| .ok (.ret v)=>Q v s'| .ok _=>False| .error e=>E e s') s
theorem SI.at {mm:M AV}(h:SI X A fr Av s H f vs mm):bw X A fr Av s H (PySem.call f vs) mm:=λr H' e Q E hQ hE=>qzF (h r H' e Q E hQ hE)
theorem Gs {ps:List Str}{args:List AV}(hv:cu X h Av args vs){x:Str}{d:AV}(hx:(ps.zip args).reverse.lookup x=some d): ∃v,(x,v)∈ps.zip vs/\VV X h Av d v:=by
 refine ac (List.mem_iff_getElem.mp (List.mem_reverse.mp (mem_of_lookup hx))) λi aI=>ac aI λhi hq=>?_;replace hi:=vU▸hi;replace hq:=eS List.getElem_zip hq;injection hq with q1 q2
 have h2:=vm hi (qxF _ _);refine af (aF.get i hv (show args[i]? =some d from q2▸qqI h2)) ?_;intro v e1 e2;refine ac (List.getElem?_eq_some_iff.mp e1) ?_;intro h3 e3;refine⟨v,List.mem_iff_getElem.mpr ⟨i,?_,?_⟩,e2⟩
 ·rw [vU];exact Nat.lt_min.mpr ⟨vm hi (vI _ _),h3⟩
 ·rw [List.getElem_zip,e3,q1]
theorem pj {args:List AV}(h:ff fd args=some bs):fd.params.args.length=args.length/\bs=(fd.params.args.map (·.arg)).zip args:=by
 delta ff at h;by_cases q:fd.params.args.length=args.length
 ·replace h:=eS (if_pos q) h;exact⟨q,(ug h).symm⟩
 ·replace h:=eS (if_neg q) h;exact xNS h
set_option tactic.hygienic true in
theorem pn {C:kh}{call mk:qq7->List AV->M AV}{W:Nat}{args:List AV}{r:Except AV AV}(e:ew C call mk W fd args H=some (r,H')):
  eG fd=true/\ ∃bs,ff fd args=some bs/\M.bind (Internal.execs C call mk W (bI fd) ⟨fd.scope,bs.reverse,[]⟩) (λx=>match x.1 with
   | .next=>M.pure AV.none| .ret v=>M.pure v) H=some (r,H'):=by
 delta ew at e;refine cB (eG fd) (λfK=>⟨fK,?_⟩) λfK=>?_
 ·replace e:=fK▸e;have e:(match ff fd args with
    |some bs=>M.bind (Internal.execs C call mk W (bI fd) ⟨fd.scope,bs.reverse,[]⟩) (λx=>match x.1 with
     | .next=>M.pure AV.none| .ret v=>M.pure v)
    | .none=>Internal.stuck) H=some (r,H'):=e
  refine cO (ff fd args) (λhb=>?_) λbs hb=>?_
  ·replace e:=hb▸e;exact xNS e
  ·replace e:=hb▸e;exact(aj bs hb e)
 ·replace e:=fK▸e;exact xNS e
theorem Ja (O:cN X)(hd:A.depth<1000)(A8:A.frames=some fr)(B:ao X s.heap Av fr H){a:qq7}{args:List AV}(hf:X.C.func a=some fd)(hv:cu X s.heap Av args vs)
  {call mk:qq7->List AV->M AV} {W:Nat}
  (zJ: ∀env bs,env=newEnv fd.scope s.heap.objs.size fd.globals (qq6 (s.heap.objs.size+1) fd.scope.names []) (fd.qualname++ ".<locals>.") (some a) fd.code none fd.builtins->ff fd args=some bs->
   Nj X (A.deeper env) ia fr s Av env H (PySem.execs (bI fd) env) (Internal.execs X.C call mk W (bI fd) ⟨fd.scope,bs.reverse,[]⟩) ⟨fd.scope,bs.reverse,[]⟩):
  SI X A fr Av s H (.ref a) vs (ew X.C call mk W fd args):=by
 intro r H' e Q E hQ hE;refine ai (pn e) λfK aI=>af aI λbs hb e=> oy (fu fK) λf1 f2 f3 f4 f5 f6 f7 f8 f9 U7 U8 U9 aI=>yH aI λUA UB IZ Oe UC yW=> ac yW λbody I_=> ai (pj hb) λEA LG=>?_;have lv:=aF.length hv;refine aX O.cfg λpf names gA=>?_;have KI:=Gp O.toCxOk B;have eV:=hf;replace eV:=gA▸eV;refine bT (ph eV) λc dd sl hl hkp WW=>?_;have SJ:bI fd=body:=by delta bI;exact aa I_ rfl
 refine codeAny_call_function (o:=⟨c,dd,.func fd,sl⟩) hd (KI _ _ hl) rfl f2 f3 I_ (codeRec_of KI WW) (aa (eD (vs:=vs) f6 f7 f8 f9 f5 (EA.trans lv.symm) IZ) ?_);have zl:((fd.params.args.map (·.arg)).zip vs).map (·.1)=fd.params.args.map (·.arg):=vo (by rewrite [uQ];refine aa EA (aa lv ?_);exact ur _);refine ud (hX (ia:=ia) fK B.hand.av B (binds:=(fd.params.args.map (·.arg)).zip vs) (rho:=bs.reverse) (om:= []) (oa:=λ_=>0) (by exact aa zl IZ) (by exact aa zl Oe) (λx d hx=>Gs hv (LG▸hx)) rfl λenv s1 ix m cm he R hk _=>⟨(O.nolim.keeps λb o q=>hk b o (B.base b o q)),codeAny_func ?_⟩);have hL:env.frame=some s.heap.objs.size:=by refine aa he ?_;rfl
 have Gu:(A.deeper env).frames=some (env::fr):=by refine(?_:A.frames.map _=_);refine aa A8 ?_;rfl
 have UD: ∀b∈aO (env::fr),b∈aO fr\/s.heap.get? b=none:=λb F4=>by
  refine af (dH F4) λen pr eV=> ui (uY.mp pr) ?_ ?_;intro az;subst az;rotate_left;intro pr;rotate_right
  ·replace eV:=eS hL eV;refine al eV λah=>?_;clear eV;subst ah;exact .inr (aW (s2:=s) (λ_ _ e=>e) (ur _))
  ·exact .inl (List.mem_filterMap.mpr (aj en pr eV))
 have SK:=zJ env bs he hb s1 ix _ m cm R;rw [SJ] at SK e;refine SK.use e (λa6 H2 e2 s2 yX Nk m2 zx R2=>?_) (λd a6 H2 e2 v s2 yX Nk m2 zx R2 w=>?_) λp q ex s2 h2=>jJ Gu B UD h2 λs3 h3=>aU (de.out B h3) λx y z=>hE p q _ _ x y z
 ·refine aN e2 λah ak=>?_;clear e2;subst ah;subst ak;exact hQ _ rfl _ _ R2.ex (R2.base.hand.out R2.sub B.hand.av) rfl
 ·refine aN e2 λah ak=>?_;clear e2;subst ah;subst ak;exact hQ _ rfl _ _ R2.ex (R2.base.hand.out R2.sub B.hand.av) w
structure iR (X:Cx)(A:qqG)(fr:List Env)(call mk:qq7->List AV->M AV):Prop where
 fn: ∀Av s H a args vs,ao X s.heap Av fr H->cu X s.heap Av args vs->SI X A fr Av s H (.ref a) vs (call a args)
 fnp: ∀a args H r,call a args H=some r->(X.C.func a).isSome=true
 cls: ∀Av s H c args vs,ao X s.heap Av fr H->cu X s.heap Av args vs->bw X A fr Av s H (PySem.call (.ref c) vs) (mk c args)
 clsp: ∀c args H r,mk c args H=some r->keepIn X.K (.ref c)=true
variable {cl mk:qq7->List AV->M AV}
theorem eW {k:Keeper}(h:Looks (qq5 X.P X.w) s.heap (keeperOf f) k):fU X A f s:=λQ E q=>h.here (q k)
theorem C_ (O:cN X){a:qq7}(h:(X.C.func a).isSome=true):keepIn X.K (.ref a)=true/\fnIn X.K a=true:=by
 refine ac (Option.isSome_iff_exists.mp h) λfd hf=> aX O.cfg λpf names gA=>?_;replace hf:=gA▸hf;refine bT (ph hf) λc d sl h1 h2 h3=>?_;exact⟨h2,by delta fnIn;refine aa h1 ?_;rfl⟩
theorem Gv (O:cN X)(hA:A.handled=none)(K:iR X A fr cl mk)(B:ao X s.heap Av fr H){fv:AV}{args:List AV}(hf:VV X s.heap Av fv f)(hv:cu X s.heap Av args vs):
  bw X A fr Av s H (PySem.call f vs) (mF X.C cl mk fv args)/\ ∀r,mF X.C cl mk fv args H=some r->fU X A f s:=by
 have KI:=Gp O.toCxOk B
 induction fv using AV.casesOn with
 |glob v=>
  refine aa (show f=v from hf) ?_
  induction v using PySem.Value.casesOn with
  |ref a=>
   refine(?_:bw X A fr Av s H _ (if(X.C.func a).isSome then cl a args else mk a args)/\ ∀r,(if(X.C.func a).isSome then cl a args else mk a args) H=some r->_);cases q:(X.C.func a).isSome with
   |true=>
    refine⟨(K.fn Av s H a _ vs B hv).at,λr hr=>?_⟩;exact af (keeps_K (M:=qq5 X.P X.w) (C_ O q).1 s.heap KI) λk ah hk=> eW hk
   |false=>
    refine⟨K.cls Av s H a _ vs B hv,λr hr=>?_⟩;exact af (keeps_K (M:=qq5 X.P X.w) (K.clsp a args H r hr) s.heap KI) λk ah hk=> eW hk
  |_=>exact⟨FP O.toCxOk hA B hv,λr hr=>bX λa q=>by cases q⟩
 |meth g self=>
  refine cn hf λa u ak n h1 h2=>?_;clear hf;subst ak;refine⟨λr H' e Q E hQ hE=>qzF (method_call h1 (K.fn Av s H g (self::args) (u::vs) B (.cons h2 hv) r H' e Q E hQ hE)),λr hr=>?_⟩;exact af (keeps_M (M:=qq5 X.P X.w) (C_ O (K.fnp g _ H r hr)).2 s.heap ⟨h1,KI⟩) λk ah hk=> eW hk
 |_=>exact⟨.stuck,λr hr=>by exact xNS hr⟩
theorem Db (O:cN X)(hA:A.handled=none)(K:iR X A fr cl mk)(B:ao X s.heap Av fr H){f:Expr}{args:List Expr}{pos:Pos}{mf:M AV}{ms:M (List AV)}(hf: ∀o a p,f≠ .Attribute o a p)(ha:args.all aZ=true)
  (h1:bw X A fr Av s H (eval f env) mf) (h2:Later X fr Av s λs1 H1=>Ic X A fr Av s1 H1 (qzP (backTo pos (qqO args env))) ms):
  bw X A fr Av s H (eval (.Call f args [] pos) env) (M.bind mf λfv=>M.bind ms λvs=>mF X.C cl mk fv vs):=by
 refine aa (eT hf) (.bind B h1 λfv f s1 H1 x1 B1 v1=>?_);intro r H' e Q E hQ hE;refine bG (cf ha) (b7 e ?_ ?_);intro p e1 ak;subst ak;rotate_left;intro as H2 e1 e2;rotate_right
 ·exact h2 s1 H1 x1 B1 _ _ e1 _ _ (λd q=>xE q) λp' q e' s' x y z=>hE p' (by refine jE q λah=>?_;clear q;subst ah;rfl) e' s' x y z
 ·refine h2 s1 H1 x1 B1 _ _ e1 _ _ (λd q vs s2 x2 y2 z2=>?_) (λp q=>xO q);refine jO q λah=>?_;clear q;subst ah;have B2:=B1.ex x2 y2;refine ai (Gv O hA K B2 (VR.chg (B1.chg x2) _ _ v1) z2) λc1 c2=>?_;exact⟨c2 _ e2,c1 r H' e2 Q E (λd hd v s' x y z=>hQ d hd v s' (x2.trans x) y z) λp hp e' s' x y z=>hE p hp e' s' (x2.trans x) y (z.back B1.hand.av B2 x2)⟩
theorem BB {C:kh}{cl:qq7->List AV->M AV}{c:qq7}{ks:List Str}{us:List AV}{mn:Str}{ms:M (List AV)}:kJ C cl (.inst c ks us) mn ms=stuck\/ ∃f,bK mn ks us=none/\C.meth c mn=some f/\kJ C cl (.inst c ks us) mn ms=M.bind ms λvs=>cl f (.inst c ks us::vs):=by
 have e:kJ C cl (.inst c ks us) mn ms=(match bK mn ks us,C.meth c mn with| .none,some f=>M.bind ms λvs=>cl f (.inst c ks us::vs)|_,_=>stuck):=rfl;refine aa e (cO (bK mn ks us) (λha=>?_) λ_ ha=>?_)
 ·refine cO (C.meth c mn) (λhf=>?_) λf hf=>?_
  ·exact aa ha (aa hf (.inl rfl))
  ·exact aa ha (aa hf (.inr (aV f rfl rfl rfl)))
 ·exact aa ha (.inl rfl)
theorem BC {C:kh}{cl:qq7->List AV->M AV}{ks:List Str}{us:List AV}{mn:Str}{ms:M (List AV)}:kJ C cl (.dict ks us) mn ms=stuck\/(mn=ag "items"\/mn=ag "get")/\kJ C cl (.dict ks us) mn ms=M.bind ms λvs=>lift (kF (.dict ks us) mn vs):=by
 by_cases q:mn=ag "items"\/mn=ag "get"
 ·exact .inr ⟨q,if_pos q⟩
 ·exact .inl (if_neg q)
theorem zK (O:cN X)(K:iR X A fr cl mk)(B:ao X s.heap Av fr H){mo:M AV}{ms:M (List AV)}(fK:Ib o args ap pos=true)
  (h1:bw X A fr Av s H (eval o env) mo) (h2:Later X fr Av s λs1 H1=>Ic X A fr Av s1 H1 (qzP (backTo pos (qqO args env))) ms):
  bw X A fr Av s H (eval (.Call (.Attribute o mn ap) args [] pos) env) (M.bind mo λov=>kJ X.C cl ov mn ms):=by
 unfold Ib fe at fK;simp only [uv,decide_eq_true_eq,beq_iff_eq] at fK;refine ai fK λaz k5=>ai az λAB k4=> ai AB λIM k3=>ai IM λk1 k2=>?_;rewrite [arm_eval_Call];refine aa (l5 k5) (.bind B h1 λov u s1 H1 x1 B1 v1=>.stand ?_);have jn:=cf k1 (pos:=pos) (env:=env);have zM:methodCallForm (args.length+([]:List Keyword).length) (backTo pos (qqO args env)) (backToKw pos (keywordEach [] env))=true:=by
  delta methodCallForm;have h1:(backTo pos (qqO args env)).all (λx=>!x.1)=true:=by
   refine aa List.all_eq_not_any_not ?_;simpa using jn
  have h2:(backToKw pos (keywordEach [] env))= []:=rfl;refine aa h1 (aa h2 ?_);simp;exact OU k3
 have ke:methodCallPos true o env ap pos=pure pos:=by delta methodCallPos;simp [k4]
 delta methodCall;refine aa zM (aa ke ?_);have KI:=Gp O.toCxOk B1;have fin: ∀(f:qq0) (first:List qq0) (g:List AV->M AV),(∀as vs s2 H2,Ex X (aO fr) s1 s2->ao X s2.heap Av fr H2->cu X s2.heap Av as vs->bw X A fr Av s2 H2 (PySem.call f (first++vs)) (g as)/\ ∀r,g as H2=some r->fU X A f s2)->
   bw X A fr Av s1 H1 (callWith pos f first (backTo pos (qqO args env)) []) (M.bind ms g):=by
  intro f first g hg r H' e Q E hQ hE
  refine bG jn (b7 e ?_ ?_);intro p e1 ak;subst ak;rotate_left;intro as H2 e1 e2;rotate_right
  ·exact h2 s1 H1 x1 B1 _ _ e1 _ _ (λd q=>xE q) λp' q e' s' x y z=>hE p' (by refine jE q λah=>?_;clear q;subst ah;rfl) e' s' x y z
  ·refine h2 s1 H1 x1 B1 _ _ e1 _ _ (λd q vs s2 x2 y2 z2=>?_) (λp q=>xO q);refine jO q λah=>?_;clear q;subst ah;have B2:=B1.ex x2 y2;refine ai (hg _ vs s2 _ x2 B2 z2) λc1 c2=>?_;exact⟨c2 _ e2,c1 r H' e2 Q E (λd hd v s' x y z=>hQ d hd v s' (x2.trans x) y z) λp hp e' s' x y z=>hE p hp e' s' (x2.trans x) y (z.back B1.hand.av B2 x2)⟩
 induction ov using AV.casesOn with
 |inst c ks us=>
  refine ui (BB (C:=X.C) (cl:=cl) (c:=c) (ks:=ks) (us:=us) (mn:=mn) (ms:=ms)) ?_ ?_;intro q;rotate_left;intro az;refine aC az λf ha hf q=>?_;rotate_right
  ·exact aa q .stuck
  ·refine aa q (kN v1 λi dx es k be n1 n2 g1 g2 Ni r1=>af Ni λts hl he=>?_);clear Ni;subst be;have I:=pg g1 g2;have gl:=B7 (a:=mn) hl he r1;replace gl:=ha▸gl;refine aX O.cfg λpf names gA=>?_;have eV:=hf;replace eV:=gA▸eV;refine Ke (CY eV) λm1 m2 m3 m4 m5 m6 m7 m8 m9=>?_;intro r H' e Q E hQ hE;refine ua (qq8 (method_fn KI I (plainGet_of m2).1 (plainGet_of m2).2 m1 (beq_iff_eq.mp m4) (by refine(?_:(lookIn mn (dictOf es k)).map _=_);rewrite [lookIn_dict];refine aa gl ?_;rfl) ?_));refine bp (fin (.ref f) [.ref i] (λvs=>cl f (.inst c ks us::vs)) (λas vs s2 H2 x2 B2 z2=>?_) r H' e Q E hQ hE);have vi:VV X s1.heap Av (.inst c ks us) (.ref i):=⟨i,dx,es,k,rfl,n1,n2,g1,g2,(aj ts hl he),r1⟩;refine⟨(K.fn Av s2 H2 f _ _ B2 (.cons (VR.chg (B1.chg x2) _ _ vi) z2)).at,λr hr=>?_⟩;exact af (keeps_K (M:=qq5 X.P X.w) m9 s2.heap (Gp O.toCxOk B2)) λkk ah hk=> eW hk
 |dict ks us=>
  refine ui (BC (C:=X.C) (cl:=cl) (ks:=ks) (us:=us) (mn:=mn) (ms:=ms)) ?_ ?_;intro q;rotate_left;intro az;refine ai az λhm q=>?_;rotate_right
  ·exact aa q .stuck
  ·refine aa q ?_;have vd:=v1;refine aP v1 λa ws ak n1 hd hz r1=>?_;clear v1;subst ak;have Bl: ∀b,qq0.ref a= .ref b-> ∃o,s1.heap.get? b=some o/\o.dict=none:=λb e=>by
    cases e;exact bT hd λo es ep ho hx dX=>(aj o ho hx.2.1)
   have mc: ∀as vs s2 H2,Ex X (aO fr) s1 s2->ao X s2.heap Av fr H2->cu X s2.heap Av as vs-> ∀id,((mn=ag "items"/\id= "dict.items")\/(mn=ag "get"/\id= "dict.get"))->bw X A fr Av s2 H2 (PySem.call (.builtin id) ([qq0.ref a]++vs)) (lift (kF (.dict ks us) mn as))/\ ∀r,lift (kF (.dict ks us) mn as) H2=some r->fU X A (.builtin id) s2:=by
    intro as vs s2 H2 x2 B2 z2 id MW;refine⟨.lift λr hr=>?_,λr _=>bX λa q=>by cases q⟩;have vd2:=VR.chg (B1.chg x2) _ _ vd;refine ac (FQ (A:=A) B2 vd2 z2 hr) λid' h=> ui h ?_ ?_;(all_goals clear h);intro az;refine aU az λq1 q2 q3=>?_;rotate_left;intro az;refine aC az λaa6 q1 q2 q3=>?_;rotate_right
    ·refine ui MW ?_ ?_;(all_goals clear MW);intro az;refine ai az λg1 g2=>?_;rotate_left;intro az;refine ai az λg1 g2=>?_;rotate_right
     ·exact aa g2 (bq q2 q3)
     ·replace g1:=eS q1 g1;exact absurd g1 (by decide)
    ·refine ui MW ?_ ?_;(all_goals clear MW);intro az;refine ai az λg1 g2=>?_;rotate_left;intro az;refine ai az λg1 g2=>?_;rotate_right
     ·replace g1:=eS q1 g1;exact absurd g1 (by decide)
     ·exact aa g2 (bq q2 q3)
   intro r H' e Q E hQ hE;refine ui hm (λhm=>?_) λhm=>?_
   ·subst hm;refine ua (qq8 (getMethod_builtin hd.typeIs PySem.F.plainAttrs_dict PySem.F.slot_dict_items PySem.F.type_dict_items Bl ?_));exact bp (fin _ _ (λvs=>lift (kF (.dict ks us) (ag "items") vs)) (λas vs s2 H2 x2 B2 z2=>mc as vs s2 H2 x2 B2 z2 _ (.inl ⟨rfl,rfl⟩)) r H' e Q E hQ hE)
   ·subst hm;refine ua (qq8 (getMethod_builtin hd.typeIs PySem.F.plainAttrs_dict PySem.F.slot_dict_get PySem.F.type_dict_get Bl ?_));exact bp (fin _ _ (λvs=>lift (kF (.dict ks us) (ag "get") vs)) (λas vs s2 H2 x2 B2 z2=>mc as vs s2 H2 x2 B2 z2 _ (.inr ⟨rfl,rfl⟩)) r H' e Q E hQ hE)
 |_=>exact .stuck
theorem hY (L:aJ X s.heap env Av oa ae m cm){x:Str}{p:Pos}(h:ae.om.lookup x=some ob)(hQ:Q (.ref (oa x)) s):qq3 (qq5 X.P X.w) A (eval (.Name x p) env) Q E s:=by
 exact ai (L.owns x _ h) λa1 ah=> af (jg a1) λk hk ak=> wpAny_Name (kY L a1 hQ) (gn L hk)
set_option tactic.hygienic true in
theorem BD (B:ao X s.heap Av fr H)(L:aJ X s.heap env Av oa ae m cm){o i:Expr}{mi:M AV}(ho:b9 ae o=some l)(h2:bw X A fr Av s H (eval i env) mi):
  bw X A fr Av s H (eval (.Subscript o i pos) env) (M.bind mi λiv=>match iv with
    | .int k=>lift (gS l k)|_=>stuck):=by
 refine aY (kW ho) λx p ak hl=>?_;subst ak;refine(?_:At _ _ _ _ _ _ _ (eval (.Name x p) env>>=λov=>holding [ov] (eval i env)>>=λiv=>qqU pos>>=λ_=>qqW (.Name x p) i ov iv) _);refine .det (λQ E hq=>hY L hl hq) (.bind B (.holding h2) λa v s1 H1 x1 B1 v1=>.stand ?_);have L1:=L.ex B x1;refine bb (L1.owns x _ hl) λa1 a2 a3 a4 aI=>aC aI λvs pt z r=>?_;cases a<;>try exact .stuck
 rename_i k
 refine .lift λd e=>.of λQ E hQ=> ac v1 λt ah=>?_;clear v1;subst ah;exact aU (hU e) λi0 i1 e=> af (aF.getA _ r e) λv e1 e2=> dk pt.isList.typeIs PySem.slot_list_getitem.lookup (wpAny_getItem_list pt.isList i0 (OM i1) e1 (hQ _ _ (.refl _ _) B1.hand e2))
theorem zN {x:AV}{p:List Int}(e:cY (x::l)=some p): ∃i q,x= .int i/\cY l=some q/\i::q=p:=by
 induction x using AV.casesOn with
 |int i=>
  exact af (d5 (show(cY l).map (i:: ·)=some p from e)) λq h1 h2=>(cq i q rfl h1 h2)
 |_=>exact xNS e
theorem BE: ∀{p:List Int} {vs:List qq0},cY l=some p->cu X h Av l vs->ItemsAre (intKind X.P X.w) p vs:=by
 induction l with
 |nil=>
  intro p vs e r;exact aa (show vs= [] from r) (bq (ug (show some []=some p from e)) .nil)
 |cons x l ih=>
  intro p vs e r;refine a8 (zN e) λi q e1 e2 e3=> a8 r λv r' e4 h1 h2=>?_;replace h1:=e1▸h1;refine ac h1 ?_;clear h1;intro t h1;refine aa e4 (bq e3 ?_);exact aa h1 (.cons (by simp [intKind,qq0.isInt]) (ih e2 h2))
theorem zO {x:AV}{p:List Int}(e:d4 x=some p)(r:VV X h Av x v): ∃a,v= .ref a/\ ¬Av a/\(tupleKind (intKind X.P X.w)).is h p a:=by
 induction x using AV.casesOn with
 |tup l=>
  refine aP r λa vs q na be z rr=>ac be λn ho=>?_;exact⟨a,q,na,_,vs,n,ho,rfl,rfl,BE e rr⟩
 |_=>exact xNS e
theorem Gw {p:List Int}: ∀{l:List (List Int×AV)} {xs:List (List Int×qq7×qq0)},xs.map (·.1)=l.map (·.1)->cu X h Av (l.map (·.2)) (xs.map (·.2.2))->List.lookup p l=some dv-> ∃q,atKey xs p=some q/\VV X h Av dv q.2
 | [],xs,e,r,hl=>by simp at hl
 |y::l,[],e,r,hl=>by simp at e
 |y::l,x::xs,e,r,hl=>by
  simp only [ut,List.cons.injEq] at e;refine a8 r λv r' e3 h1 h2=>?_;simp only [ut,List.cons.injEq] at e3;refine ai e3 λe4 e5=>?_;obtain⟨yk,yv⟩:=y;replace hl:=eS um hl;delta atKey;refine aa qxM ?_;dsimp only at e h1;refine cB (p==yk) (λq=>?_) λq=>?_
  ·replace hl:=q▸hl;refine al hl λah=>?_;clear hl;subst ah;have:x.1=p:=e.1.trans (beq_iff_eq.mp q).symm;simp only [this,decide_true,vS];exact(aj _ rfl (by exact aa e4 h1))
  ·replace hl:=q▸hl;have: ¬x.1=p:=λz=>by replace q:=Eq.symm e.1▸q;replace q:=z▸q;simp at q
   simp only [this,decide_false];exact Gw e.2 (by exact aa e5 h2) hl
theorem LP (O:E8 A fr n d):(tupleKind (intKind X.P X.w)).room A.in1:=by
 have:=O.units;refine(?_:A.units+1<9900);exact V_ this
theorem DT (OA:E8 A fr n d)(B:ao X s.heap Av fr H)(L:aJ X s.heap env Av oa ae m cm){o i:Expr}{l:List (List Int×AV)}{mi:M AV}(ho:Cn ae o=some l)(h2:bw X A fr Av s H (eval i env) mi):
  bw X A fr Av s H (eval (.Subscript o i pos) env) (M.bind mi λiv=>lift ((d4 iv).bind λp=>List.lookup p l)):=by
 refine aY (RE ho) λx p ak hl=>?_;subst ak;refine(?_:At _ _ _ _ _ _ _ (eval (.Name x p) env>>=λov=>holding [ov] (eval i env)>>=λiv=>qqU pos>>=λ_=>qqW (.Name x p) i ov iv) _);refine .det (λQ E hq=>hY L hl hq) (.bind B (.holding h2) λa v s1 H1 x1 B1 v1=>.stand ?_);have L1:=L.ex B x1;refine bb (L1.owns x _ hl) λa1 a2 a3 a4 aI=>c7 aI λxs hd e1 r av=> .lift λd e=>.of λQ E hQ=>?_;simp only [qqQ] at e;refine af e λk e2 e3=> aC (zO e2 v1) λb ah nb hk=>?_;subst ah;exact af (Gw e1 r e3) λq g1 g2=> dk hd.typeIs PySem.slot_dict_getitem.lookup (wpAny_getItem_heap (LP OA) hk hd g1 (hQ _ _ .tok (au.tok B1) g2))
theorem zP {d:AV}{g:qq0}(h:ou d=some g):d= .glob g:=by
 induction d using AV.casesOn with
 |glob u=>exact congrArg AV.glob (ug h)|_=>exact xNS h
theorem DU {g:qq0}(h:O5 l g=some r):(g= .builtin "len"/\some (aE l.length)=some r)\/g= .type "tuple"/\some (.tup l)=some r:=by
 induction g using PySem.Value.casesOn with
 |builtin b=>exact .inl ((NW h).imp (congrArg _) id)|type t=>exact .inr ((NW h).imp (congrArg _) id)|_=>exact xNS h
theorem BF (B:ao X s.heap Av fr H)(L:aJ X s.heap env Av oa ae m cm){f x:Expr}{mf:M AV}(ho:b9 ae x=some l)(hf: ∀o a p,f≠ .Attribute o a p)(h1:bw X A fr Av s H (eval f env) mf):
  bw X A fr Av s H (eval (.Call f [x] [] pos) env) (M.bind mf λfv=>lift (ownCall fv l)):=by
 refine aY (kW ho) λy p ak hl=>?_;subst ak;refine aa (eT hf) (.bind B h1 λfv f s1 H1 x1 B1 v1=>.lift λdd e=>.of λQ E hQ=>?_);have L1:=L.ex B x1;refine bb (L1.owns y _ hl) λa1 a2 a3 a4 aI=>aC aI λvs pt z r=>?_;have lv:=aF.length r;replace lv:=eS ux lv;refine bG rfl (?_:qq3 _ _ (eval (.Name y p) env>>=λv=>pure [v]>>=λvs=>holding vs (qzP [])>>=λr=>pure (vs++r)) _ _ _);refine ua (hY L1 hl ?_);refine bp (ua (qq8 (ud (ud ?_))));refine af (aG e) λg q e=>?_;have q:=zP q;subst q;have v1:f=g:=v1;subst v1;refine ui (DU e) ?_ ?_;intro az;refine ai az λq e=>?_;rotate_left;intro az;refine ai az λq e=>?_;rotate_right
 ·refine al e λah=>?_;clear e;subst ah;refine aa q ?_;refine⟨bX (λa q=>by cases q),PyProof.Rows.len_list pt.isList (Mz z lv) ?_⟩;exact aa lv (j7 B1 hQ)
 ·refine al e λah=>?_;clear e;subst ah;refine aa q ?_;refine⟨bX (λa q=>by cases q),call_tuple_list pt.isList (λh' hk=>?_) (by exact aa sizeLine_eq (yL z lv))⟩;have x1:Ex X (aO fr) s1 {s1 with heap:=h'}:= .of_keeps (tk:=s1.toks) hk;have H1:au X h' Av _:=au.ex (s':={s1 with heap:=h'}) B1 hk;have Zg:ao X h' Av fr _:=B1.ex x1 H1;refine hQ _ _ (x1.trans .push) (au.push (s:={s1 with heap:=h'}) Zg) ⟨_,vs,rfl,ao.size (s:={s1 with heap:=h'}) Zg,⟨_,ue _ rfl⟩,z,?_⟩;exact aF.chg (λb o e n=>⟨uc _ (hk b o e),n⟩) _ _ r
theorem DV (B:ao X s.heap Av fr H):g_ X A fr Av s H (dS [] env) (M.pure true):= .pure B rfl
theorem jM (B:ao X s.heap Av fr H): ∀(gi:List Expr),g_ X A fr Av s H (forIn gi false λc r=>if r=true then do let ok<-isTrue c env (eval c env);pure (ForInStep.yield ok) else pure (ForInStep.yield r)) (M.pure false)
 | []=>.pure B rfl|c::r=>by
  rw [vN];exact .bind_pure rfl (jM B r)
theorem BG (B:ao X s.heap Av fr H){x:Expr}{r:List Expr}{mx mr:M Bool}(h:g_ X A fr Av s H (isTrue x env (eval x env)) mx)(h2:Later X fr Av s λs1 H1=>g_ X A fr Av s1 H1 (dS r env) mr):
  g_ X A fr Av s H (dS (x::r) env) (M.bind mx λb=>if b then mr else M.pure false):=by
 delta dS;rw [vN];intro rr H' e Q E hQ hE;refine ua ?_;simp only [if_true];refine ua (b7 e ?_ ?_);intro p e1 ak;subst ak;rotate_left;intro a H1 e1 e2;rotate_right
 ·exact h _ _ e1 _ _ (λd q=>xE q) λp' q e' s' x y z=>hE p' (by refine jE q λah=>?_;clear q;subst ah;rfl) e' s' x y z
 ·refine h _ _ e1 _ _ (λdd q v s1 x1 y1 z1=>?_) (λp q=>xO q);refine jO q λah=>?_;clear q;subst ah;subst z1;have B1:=B.ex x1 y1;refine ud ?_
  induction a using Bool.casesOn with
  |true=>exact h2 s1 H1 x1 B1 _ _ e2 _ _ (λd q v' s' x y z=>hQ d q v' s' (x1.trans x) y z) λp q e' s' x y z=>hE p q e' s' (x1.trans x) y (z.back B.hand.av B1 x1)
  |false=>exact jM B1 r _ _ e2 _ _ (λd q v' s' x y z=>hQ d q v' s' (x1.trans x) y z) λp q e' s' x y z=>hE p q e' s' (x1.trans x) y (z.back B.hand.av B1 x1)
variable {d0:Nat}
theorem dg {C:kh}: ∀{es:List Expr} {H H':HS} {vs:List AV},l_ C cl mk d es ae H=some (.ok vs,H')->vs.length=es.length
 | [],H,H',vs,h=>by
  refine Mx (show M.pure [] H=some (.ok vs,H') from h) λah ak=>?_;subst ah;subst ak;rfl
 |e::r,H,H',vs,h=>by
  refine b7 (show M.bind _ _ H=_ from h) ?_ ?_;intro p ah q;rotate_left;intro a H1 e1 e2;rotate_right
  ·exact xO q
  ·refine b7 e2 ?_ ?_;intro p ah q;rotate_left;intro as H2 g1 g2;rotate_right
   ·exact xO q
   ·refine Mx g2 λah ak=>?_;clear g2;subst ah;subst ak;exact aa uT (aa (dg g1) (aa uT rfl))
theorem iS {es:List Expr}(h:fe es=true):es.all aZ=true/\es.length<=1000:=by
 delta fe at h;simp only [uv,decide_eq_true_eq] at h;exact h
theorem BH {e:Expr}(h:aZ e=true): ∀a p,e≠ .Starred a p:=λa p q=>by subst q;exact di h
theorem eX {e:Expr}(h:aZ e=true): ∀a b c,e≠ .Set a b c:=λa b c q=>by subst q;exact di h
structure Nl (X:Cx)(A:qqG)(fr:List Env)(n d0:Nat)(cl mk:qq7->List AV->M AV):Prop where
 O:cN X
 hA:A.handled=none
 OA:E8 A fr n d0
 K:iR X A fr cl mk
theorem Dc (O:cN X){Av s H env}(B:ao X s.heap Av fr H){a:Str}{mo:M AV}(hn:iA o=true)(h:bw X A fr Av s H (eval o env) mo):
  bw X A fr Av s H (eval (.Attribute o a pos) env) (M.bind mo λv=>lift (gW X.C v a)):=by
 refine(?_:At _ _ _ _ _ _ _ (attributeBase o a env (eval o env)>>=λov=>qqU pos.atName>>=λ_=>holding [ov] (getAttr ov a true)>>=λr=>letTemporaryGo o ov r>>=λ_=>pure r) _);refine aa (l5 hn) (.bind B h λx v s1 H1 x1 B1 v1=>.stand ?_);intro r H' e Q E hQ hE;exact ua (qq8 (IY (A:=A) O B1 v1 r H' e _ _ (λd hd u s' x y z=>ua (wpAny_letTemporaryGo (ud (hQ d hd u s' x y z)))) hE))
theorem At.eqv {R:qqK->α->β->Prop}{m1 m2:M α}(h:At X A fr Av R s H t m1)(e: ∀H,m2 H=m1 H):At X A fr Av R s H t m2:=λr H' q Q E hQ hE=>h r H' (by rw [<-e];exact q) Q E hQ hE
theorem bind_congr {m:M α}{f g:α->M β}(h: ∀a H,f a H=g a H):M.bind m f H=M.bind m g H:=by
 delta M.bind;split<;>first|rfl|exact h _ _
theorem Jb {m:M AV}{f:List AV->M AV}:M.bind m (λv=>f [v]) H=M.bind (M.bind m λv=>M.bind (M.pure []) λvs=>M.pure (v::vs)) f H:=by
 delta M.bind;cases m H with
 |none=>rfl|some r=>
  obtain⟨r,H'⟩:=r;cases r<;>rfl
theorem SM (B:ao X s.heap Av fr H): ∀b,¬Av b->X.aH≠some b/\b∉aO fr:=λb n=>⟨λq=>n (B.hand.av b q),λq=>n (B.frok.av q)⟩
theorem SN {R:qqK->α->β->Prop}{c:Prop} [Decidable c]{mm:M α}(h:c->At X A fr Av R s H t mm):At X A fr Av R s H t (if c then mm else stuck):=by
 by_cases q:c
 ·exact aa (if_pos q) (h q)
 ·exact aa (if_neg q) .stuck
theorem nG {R:qqK->α->β->Prop}{c:Bool}{mm:M α}(h:c=true->At X A fr Av R s H t mm):At X A fr Av R s H t (if c then mm else stuck):=by
 induction c using Bool.casesOn with
 |true=>exact h rfl|false=>exact .stuck
theorem pu {t:Sem qq0}{es:List Expr}{mm:M AV}(h:es.all aZ=true/\es.length<=1000->bw X A fr Av s H t mm):bw X A fr Av s H t (if fe es then mm else stuck):=nG λc=>h (iS c)
theorem l6 {R:qqK->α->β->Prop}{e:Expr}{mm:M α}(h:aZ e=true->At X A fr Av R s H t mm):At X A fr Av R s H t (if aZ e then mm else stuck):=nG h
theorem Gx (G:Nl X A fr n d0 cl mk){env:Env}{p:Pos}{values:List Expr}{ms:M (List AV)}(B:ao X s.heap Av fr H)
  (h: ∀{ks},keysOf keys=some ks->ks.length=values.length-> ∀s',ao X s'.heap (ins Av [s.heap.objs.size]) fr H->s'={s with heap:=s.heap.push {cls:= .type "dict",data:= .dict #[]}}->At X A fr (ins Av [s.heap.objs.size]) (hV X (ins Av [s.heap.objs.size]) ks) s' H (evalPairs (FR env p keys values)) ms):
  bw X A fr Av s H (eval (.Dict keys values p) env) (EL keys values.length ms):=by
 delta EL;refine cO (keysOf keys) (λhk=>?_) λks hk=>?_
 ·exact aa hk .stuck
 ·exact aa hk (SN λc=> gD c λc1 c2 c3 c4=> IG G.O.toCxOk B hk c1 c2 c3 c4 (h hk c1))
theorem Jc (G:Nl X A fr n d0 cl mk)(B:ao X s.heap Av fr H)(L:aJ X s.heap env Av oa ae m cm){o i:Expr}{p:Pos}{mo mi:M AV}(ho:bw X A fr Av s H (eval o env) mo)(hi:Later X fr Av s λs1 H1=>bw X A fr Av s1 H1 (eval i env) mi):
  bw X A fr Av s H (eval (.Subscript o i p) env) (Mt ae o i mo mi):=by
 delta Mt;have Sa:=hi s H (.refl _ _) B;refine cO (Cn ae o) (λh1=>?_) λkd h1=>?_
 ·refine aa h1 (cO (b9 ae o) (λh2=>?_) λl h2=>?_)
  ·refine aa h2 (cO (jy i) (λh3=>?_) λc h3=>?_)
   ·exact aa h3 (MJ B h3 ho hi)
   ·exact aa h3 (MK B h3 ho)
  ·refine aa h2 (cB (jy i).isSome (λh3=>?_) λh3=>?_)
   ·exact aa h3 .stuck
   ·exact aa h3 (BD B L h2 Sa)
 ·exact aa h1 (DT G.OA B L h1 Sa)
theorem Gy (G:Nl X A fr n d0 cl mk)(B:ao X s.heap Av fr H)(L:aJ X s.heap env Av oa ae m cm){f:Expr}{Ia:List Keyword}{p:Pos}{mO mf:M AV}
  (hO: ∀q,fL f=some q->bw X A fr Av s H (eval q.1 env) mO) (hf:bw X A fr Av s H (eval f env) mf)
  (h2: ∀s1 H1,Ex X (aO fr) s s1->ao X s1.heap Av fr H1->args.all aZ=true->Ic X A fr Av s1 H1 (qzP (backTo p (qqO args env))) (l_ X.C cl mk d args ae)):
  bw X A fr Av s H (eval (.Call f args Ia p) env) (if Ia.isEmpty then EM X.C cl mk f args p ae mO mf (Mv X.C cl mk d args ae) (l_ X.C cl mk d args ae) else stuck):=by
 refine nG λc=> aa (qqM.mp c) ?_;delta EM;refine cO (fL f) (λh=>?_) λq h=>?_
 ·refine aa h ?_;have hn: ∀o a q,f≠ .Attribute o a q:=λo a q e=>by replace h:=e▸h;exact oz h
  refine cO (oneOf args) (λho=>?_) λx ho=>?_
  ·exact aa ho (pu λc=>Db G.O G.hA G.K B hn c.1 hf λs1 H1 x1 B1=>h2 s1 H1 x1 B1 c.1)
  ·have d6:=bW ho;rw [d6] at h2 ho⊢;refine l6 λhx=>?_;have ha: [x].all aZ=true:=by refine(?_:(aZ x && true)=true);refine aa hx ?_;rfl
   refine cO (b9 ae x) (λho=>?_) λl ho=>?_
   ·exact aa ho ((Db (args:= [x]) (pos:=p) G.O G.hA G.K B hn ha hf λs1 H1 x1 B1=>h2 s1 H1 x1 B1 ha).eqv λH0=>bind_congr λfv H1=>Jb (f:=λvs=>mF X.C cl mk fv vs))
   ·exact aa ho (BF B L ho hn hf)
 ·refine aa h ?_;have ho:=hO q h;exact aa (ey h) (nG λh=>zK G.O G.K B h ho λs1 H1 x1 B1=>h2 s1 H1 x1 B1 (iS (tt (tt (tt h).1).1).1).1)
theorem Gz (G:Nl X A fr n d0 cl mk)(B:ao X s.heap Av fr H)(L:aJ X s.heap env Av oa ae m cm){whole a1:M AV}(h:bw X A fr Av s H (eval it env) whole)
  (ha: ∀f x p,it= .Call f [x] [] p->Later X fr Av s λs1 H1=>bw X A fr Av s1 H1 (eval x env) a1):oZ X A fr Av tgt (λb=>X.aH≠some b/\b∉aO fr) s H (eval it env) (iB X.C tgt it ae whole a1):=by
 refine cO (b9 ae it) (λho=>(n4 G.O.toCxOk G.hA B L ho h ha).weak B (SM B)) λl ho=> aY (kW ho) λx p e c8=>?_;have q:iB X.C tgt it ae whole a1=match b9 ae it with
  |some l=>M.pure l| .none=>M.bind whole λv=>lift (fN v):=by refine aa e ?_;rfl
 refine aa q (aa ho ?_);exact oZ.of_own B L ho
theorem G3 (G:Nl X A fr n d0 cl mk)(B:ao X s.heap Av fr H)(L:aJ X s.heap env Av oa ae m cm){eF tgt:Expr}{gi:List Expr}{p:Pos}{whole a1:M AV}{mt:List (Str×AV)->M Bool}{me:List (Str×AV)->M AV}
  (ha: ∀f x p,it= .Call f [x] [] p->Later X fr Av s λs1 H1=>bw X A fr Av s1 H1 (eval x env) a1) (h:bw X A fr Av s H (eval it env) whole)
  (fW: ∀s' H' Av' nn C bs m1 d7,ao X s'.heap Av' fr H'->aJ X s'.heap (cy sc nn C env) Av' oa {aA sc ae with rho:=bs++(aA sc ae).rho} m1 d7->g_ X A fr Av' s' H' (dS gi (cy sc nn C env)) (mt bs))
  (lu: ∀s' H' Av' nn C bs m1 d7,ao X s'.heap Av' fr H'->aJ X s'.heap (cy sc nn C env) Av' oa {aA sc ae with rho:=bs++(aA sc ae).rho} m1 d7->bw X A fr Av' s' H' (eval eF (cy sc nn C env)) (me bs)):
  bw X A fr Av s H (eval (.ListComp eF [⟨tgt,it,gi,0⟩] sc p) env) (Co sc tgt it ae (iB X.C tgt it ae whole a1) mt me):=
 nG λc=>Gd G.hA B L (tt (tt c).1).1 (tt (tt c).1).2 (eX (tt c).2) (Gz G B L h ha) fW lu
section
noncomputable def WX (e:Expr):Option Expr:=(view e).2.1.bind λc=>oneOf c.2.1
def PE (X:Cx)(A:qqG)(fr:List Env)(cl mk:qq7->List AV->M AV)(oa:Str->qq7)(e:Expr):Prop:= ∀(d:Nat) {s:qq1} {H:HS} {Av:qq7->Prop} {env:Env} {ae:Loc} {m cm:Str->Option qq0},ao X s.heap Av fr H->aJ X s.heap env Av oa ae m cm->bw X A fr Av s H (eval e env) (ev X.C cl mk d e ae)
def PEs (X:Cx)(A:qqG)(fr:List Env)(cl mk:qq7->List AV->M AV)(oa:Str->qq7)(es:List Expr):Prop:= ∀(d:Nat) {s:qq1} {H:HS} {Av:qq7->Prop} {env:Env} {ae:Loc} {m cm:Str->Option qq0} {pos:Pos},ao X s.heap Av fr H->aJ X s.heap env Av oa ae m cm->es.all aZ=true->Ic X A fr Av s H (qzP (backTo pos (qqO es env))) (l_ X.C cl mk d es ae)
def PEp (X:Cx)(A:qqG)(fr:List Env)(cl mk:qq7->List AV->M AV)(oa:Str->qq7)(es:List Expr):Prop:= ∀(d:Nat) {s:qq1} {H:HS} {Av:qq7->Prop} {env:Env} {ae:Loc} {m cm:Str->Option qq0} {pos:Pos} {keys:List (Option Expr)} {ks:List Str},ao X s.heap Av fr H->aJ X s.heap env Av oa ae m cm->keysOf keys=some ks->ks.length=es.length->
  At X A fr Av (hV X Av ks) s H (evalPairs (FR env pos keys es)) (l_ X.C cl mk d es ae)
def SO (X:Cx)(A:qqG)(fr:List Env)(cl mk:qq7->List AV->M AV)(oa:Str->qq7)(es:List Expr):Prop:= ∀(d:Nat) {s:qq1} {H:HS} {Av:qq7->Prop} {env:Env} {ae:Loc} {m cm:Str->Option qq0} {pos:Pos},ao X s.heap Av fr H->aJ X s.heap env Av oa ae m cm->bw X A fr Av s H (boolOp pos .And (evalEach es env)) (EN X.C cl mk d es ae)
def WY (X:Cx)(A:qqG)(fr:List Env)(cl mk:qq7->List AV->M AV)(oa:Str->qq7)(es:List Expr):Prop:= ∀(d:Nat) {s:qq1} {H:HS} {Av:qq7->Prop} {env:Env} {ae:Loc} {m cm:Str->Option qq0} {pos:Pos},ao X s.heap Av fr H->aJ X s.heap env Av oa ae m cm->bw X A fr Av s H (boolOp pos .Or (evalEach es env)) (Mu X.C cl mk d es ae)
def PEb (X:Cx)(A:qqG)(fr:List Env)(cl mk:qq7->List AV->M AV)(oa:Str->qq7)(e:Expr):Prop:= ∀(d:Nat) {s:qq1} {H:HS} {Av:qq7->Prop} {env:Env} {ae:Loc} {m cm:Str->Option qq0} {whole:M AV},whole=ev X.C cl mk d e ae->bw X A fr Av s H (eval e env) whole->ao X s.heap Av fr H->aJ X s.heap env Av oa ae m cm->g_ X A fr Av s H (isTrue e env (eval e env)) (EO X.C cl mk d e ae whole)
def SP (X:Cx)(A:qqG)(fr:List Env)(cl mk:qq7->List AV->M AV)(oa:Str->qq7)(es:List Expr):Prop:= ∀(d:Nat) {s:qq1} {H:HS} {Av:qq7->Prop} {env:Env} {ae:Loc} {m cm:Str->Option qq0},ao X s.heap Av fr H->aJ X s.heap env Av oa ae m cm->g_ X A fr Av s H (allTrue .And es env) (mG X.C cl mk d es ae)
def SQ (X:Cx)(A:qqG)(fr:List Env)(cl mk:qq7->List AV->M AV)(oa:Str->qq7)(es:List Expr):Prop:= ∀(d:Nat) {s:qq1} {H:HS} {Av:qq7->Prop} {env:Env} {ae:Loc} {m cm:Str->Option qq0},ao X s.heap Av fr H->aJ X s.heap env Av oa ae m cm->g_ X A fr Av s H (allTrue .Or es env) (EP X.C cl mk d es ae)
def PEt (X:Cx)(A:qqG)(fr:List Env)(cl mk:qq7->List AV->M AV)(oa:Str->qq7)(es:List Expr):Prop:= ∀(d:Nat) {s:qq1} {H:HS} {Av:qq7->Prop} {env:Env} {ae:Loc} {m cm:Str->Option qq0},ao X s.heap Av fr H->aJ X s.heap env Av oa ae m cm->g_ X A fr Av s H (dS es env) (mG X.C cl mk d es ae)
variable (G:Nl X A fr n d0 cl mk)
include G
mutual
theorem bc: ∀(e:Expr),PE X A fr cl mk oa e:=λe=>by
 intro d s H Av env ae m cm B L
 induction e using PySem.Expr.casesOn with
 |Constant c k p=>exact y_ B|Name x p=>exact gp G.O.toCxOk B L|Tuple es k p=>exact pu λh=>kZ B (λvs H' e=>by exact aa (dg e) h.2) (fy es d B L h.1)
 |List es p=>exact pu λh=>I2 B (λvs H' e=>by exact aa (dg e) h.2) (fy es d B L h.1)
 |Dict keys values p=>exact Gx G B λhk h s' B' e=>G4 values d B' (by subst e;exact L.hide) hk h
 |BinOp a op b p=>exact F9 B (bc a d B L) λs1 H1 x1 B1=>bc b d B1 (L.ex B x1)
 |Compare a ops cs p=>
  rcases ops with _|⟨op,_|⟨_,_⟩⟩
  ·exact .stuck
  ·rcases cs with _|⟨b,_|⟨_,_⟩⟩
   ·exact .stuck
   ·exact l6 λh=>MG G.OA B (eX h) (bc a d B L) λs1 H1 x1 B1=>bc b d B1 (L.ex B x1)
   ·exact .stuck
  ·exact .stuck
 |UnaryOp op x p=>
  cases op with
  |Not=>exact MF B (bc x d B L)|_=>exact .stuck
 |BoolOp op vs p=>
  cases op with
  |And=>exact CG (zQ vs d B L)|Or=>exact CG (Dd vs d B L)
 |IfExp t a b p=>exact FA B (h_ t d rfl (bc t d B L) B L) (λs1 H1 x1 B1=>bc a d B1 (L.ex B x1)) λs1 H1 x1 B1=>bc b d B1 (L.ex B x1)
 |Subscript o i p=>exact Jc G B L (bc o d B L) λs1 H1 x1 B1=>bc i d B1 (L.ex B x1)
 |Attribute o a p=>exact nG λh=>Dc G.O B h (bc o d B L)
 |Call f args Ia p=>
  refine Gy G B L ?_ (bc f d B L) λs1 H1 x1 B1 h=>fy args d B1 (L.ex B x1) h
  induction f using PySem.Expr.casesOn with
  |Attribute o a p=>exact λq h=>ug h▸bc o d B L
  |_=>exact λq h=>xNS h
 |ListComp eF gens sc p=>
  rcases gens with _|⟨⟨tgt,it,gi,k|k⟩,_|⟨_,_⟩⟩
  ·exact .stuck
  ·cases k with
   |zero=>
    cases d with
    |zero=>exact .stuck|succ d=>
     refine G3 G B L ?_ (bc it (d+1) B L) (λs' H' Av' nn C bs m1 d7 B' L'=>BI gi d B' L') λs' H' Av' nn C bs m1 d7 B' L'=>bc eF d B' L';intro f x p e s1 H1 x1 B1;have e:=congrArg WX e
     induction it using PySem.Expr.casesOn with
     |Call f args Ia p=>
      induction args using List.casesOn with
      |nil=>exact xNS e|cons y r=>
       induction r using List.casesOn with
       |nil=>exact al e λe=>e▸bc y (d+1) B1 (L.ex B x1)
       |cons _ _=>exact xNS e
     |_=>exact xNS e
   |succ k=>exact .stuck
  ·cases k<;>exact .stuck
  ·exact .stuck
  ·exact .stuck
 |_=>exact .stuck
theorem fy: ∀(es:List Expr),PEs X A fr cl mk oa es
 | []=>by
  intro d s H Av env ae m cm pos B L h;exact dP B
 |e::r=>by
  intro d s H Av env ae m cm pos B L h;simp only [List.all_cons,uv] at h;exact cA B (BH h.1) (bc e d B L) λs1 H1 B1 x1=>fy r d B1 (L.ex B x1) h.2
theorem G4: ∀(es:List Expr),PEp X A fr cl mk oa es
 | []=>by
  intro d s H Av env ae m cm pos keys ks B L hk hl
  induction ks using List.casesOn with
  |cons _ _=>simp at hl|nil=>
   induction keys using List.casesOn with
   |nil=>exact Bs B|cons k r=>refine jz (fS hk) λaz ah ak c8 be dX q=>?_;cases q
 |e::r=>by
  intro d s H Av env ae m cm pos keys ks B L hk hl
  induction keys using List.casesOn with
  |nil=>dsimp only [keysOf] at hk;refine al hk λah=>?_;clear hk;subst ah;simp at hl
  |cons k kr=>
   refine jz (fS hk) λsk a p ks' be h2 D5=>?_;subst be;subst D5;exact zt B (λs1 H1 x1 B1=>bc e d B1 (L.ex B x1)) λs1 H1 x1 B1=>G4 r d B1 (L.ex B x1) h2 (by simpa using hl)
theorem zQ: ∀(es:List Expr),SO X A fr cl mk oa es
 | []=>by
  intro d s H Av env ae m cm pos B L;exact .stuck
 | [e]=>by
  intro d s H Av env ae m cm pos B L;exact bc e d B L
 |e::e2::r=>by
  intro d s H Av env ae m cm pos B L;exact zh B (by simp) (bc e d B L) λs1 H1 x1 B1=>zQ (e2::r) d B1 (L.ex B x1)
theorem Dd: ∀(es:List Expr),WY X A fr cl mk oa es
 | []=>by
  intro d s H Av env ae m cm pos B L;exact .stuck
 | [e]=>by
  intro d s H Av env ae m cm pos B L;exact bc e d B L
 |e::e2::r=>by
  intro d s H Av env ae m cm pos B L;exact Bg B (by simp) (bc e d B L) λs1 H1 x1 B1=>Dd (e2::r) d B1 (L.ex B x1)
theorem h_: ∀(e:Expr),PEb X A fr cl mk oa e:=λe=>by
 intro d s H Av env ae m cm whole hw h B L
 induction e using PySem.Expr.casesOn with
 |UnaryOp op x p=>
  cases op with
  |Not=>exact MI B (h_ x d rfl (bc x d B L) B L)|_=>exact ze B rfl h
 |BoolOp op vs p=>
  cases op with
  |And=>exact CF (zR vs d B L)|Or=>exact CF (zS vs d B L)
 |Compare a ops cs p=>
  rcases ops with _|⟨op,_|⟨_,_⟩⟩
  ·subst hw;exact .stuck
  ·rcases cs with _|⟨b,_|⟨_,_⟩⟩
   ·subst hw;exact .stuck
   ·exact l6 λh=>MH G.OA B (eX h) (bc a d B L) λs1 H1 x1 B1=>bc b d B1 (L.ex B x1)
   ·subst hw;exact .stuck
  ·subst hw;exact .stuck
 |IfExp t a b p=>exact .stuck|_=>exact ze B rfl h
theorem zR: ∀(es:List Expr),SP X A fr cl mk oa es
 | []=>by
  intro d s H Av env ae m cm B L;exact Be B
 |e::r=>by
  intro d s H Av env ae m cm B L;exact zf B (h_ e d rfl (bc e d B L) B L) λs1 H1 x1 B1=>zR r d B1 (L.ex B x1)
theorem zS: ∀(es:List Expr),SQ X A fr cl mk oa es
 | []=>by
  intro d s H Av env ae m cm B L;exact Bf B
 |e::r=>by
  intro d s H Av env ae m cm B L;exact zg B (h_ e d rfl (bc e d B L) B L) λs1 H1 x1 B1=>zS r d B1 (L.ex B x1)
theorem BI: ∀(es:List Expr),PEt X A fr cl mk oa es
 | []=>by
  intro d s H Av env ae m cm B L;exact DV B
 |e::r=>by
  intro d s H Av env ae m cm B L;exact BG B (h_ e d rfl (bc e d B L) B L) λs1 H1 x1 B1=>BI r d B1 (L.ex B x1)
end
theorem G5 (B:ao X s.heap Av fr H)(L:aJ X s.heap env Av oa ae m cm): ∀f x p,it= .Call f [x] [] p->Later X fr Av s λs1 H1=>bw X A fr Av s1 H1 (eval x env) (NU X.C cl mk d it ae):=λf x p e s1 H1 x1 B1=>by
 subst e;exact bc G x d B1 (L.ex B x1)
end
def WF (env:Env)(b:qq7):Prop:=b=env.locals\/ ∃x,env.cells.lookup x=some b
structure c5 (X:Cx)(A:qqG)(aq:List Env)(s0:qq1)(aw:qq7->Prop)(env:Env)(n d0:Nat)(cl mk:qq7->List AV->M AV):Prop where
 ev:Nl X A (env::aq) n d0 cl mk
 frames:A.frames=some (env::aq)
 base: ∃H0,ao X s0.heap aw aq H0
 fresh: ∀b∈aO (env::aq),b∈aO aq\/s0.heap.get? b=none
 wfresh: ∀b,WF env b->s0.heap.get? b=none
def fX (X:Cx)(A:qqG)(ia:qq7)(aq:List Env)(s0:qq1)(aw:qq7->Prop)(env:Env)(s:qq1)(H:HS){β:Type}(t:Sem β)(mm:M Loc):Prop:=
 ∀r H',mm H=some (r,H')-> ∀(Q:β->qq1->Prop) (E:qq0->qq1->Prop),
  (∀a6,r= .ok a6-> ∀u s' Av oa m cm,Run X ia aq s0 aw env Av oa m cm s' H' a6->Q u s')->
  (∀p,r= .error p-> ∀e s',de X s0 aq aw (env::aq) p H' e s'->E e s')->
  qq3 (qq5 X.P X.w) A t Q E s
variable {aq:List Env}{aw:qq7->Prop}
theorem kz (h:b∈aO aq):b∈aO (env::aq):=by
 exact af (dH h) λe he hf=> List.mem_filterMap.mpr (aj e (uz _ he) hf)
theorem Ex.frame (x:Ex X (aO aq) s0 s)(y:Ex X (aO (env::aq)) s s')(hf: ∀b∈aO (env::aq),b∈aO aq\/s0.heap.get? b=none):Ex X (aO aq) s0 s' where
 keep:=λb o e n nf=>y.keep b o (x.keep b o e n nf) n λq=>by
  refine ui (hf b q) (λq=>?_) λq=>?_
  ·exact nf q
  ·replace e:=eS q e;exact xNS e
 slots:=λb o e n nf=>by
  refine ac (x.slots b o e n nf) λsl h=> ac (y.slots b _ h n (kz nf)) λM6 h'=>?_;exact⟨M6,h'⟩
 gens:=y.gens.trans x.gens
 os:=y.os.trans x.os
theorem Run.step (G:c5 X A aq s0 aw env n d0 cl mk)(R:Run X ia aq s0 aw env Av oa m cm s H ae)(y:Ex X (aO (env::aq)) s s')(hH:au X s'.heap Av H'):Run X ia aq s0 aw env Av oa m cm s' H' ae:=
 ⟨R.ex.frame y G.fresh,R.base.ex y hH,R.loc.ex R.base y,R.sub,R.fresh,R.own,λx c ks vs dx e h=>by
  refine bb (R.loc.owns x _ e) λaz a2 ak a4 aI=>cG aI λEC es k FD A6 yW g1 S9=>?_;have:=y.keep _ _ g1 a4 λq=>by
   have:=R.base.frs_live q g1;simp [qz1] at this
  replace this:=eS h this;refine al this λah=>?_;clear this;cases ah;exact R.ownD x c ks vs dx e g1⟩
theorem Run.err (G:c5 X A aq s0 aw env n d0 cl mk)(R:Run X ia aq s0 aw env Av oa m cm s H ae)(y:Ex X (aO (env::aq)) s s')(hH:au X s'.heap Av H'){p:AV}{e:qq0}(F:fH X s.heap s'.heap Av p e):de X s0 aq aw (env::aq) p H' e s':=
 (j1 Av (R.ex.frame y G.fresh) (R.base.ex y hH) R.sub R.fresh (F.back R.base.hand.av R.base (R.ex.mono λb h=>kz h)))
theorem Run.val (R:Run X ia aq s0 aw env Av oa m cm s H ae){d:AV}(h:VV X s.heap Av d v):VV X s.heap aw d v:=VR.chg (λb o e n=>⟨e,λq=>n (R.sub b q)⟩) _ _ h
theorem bM.bind (G:c5 X A aq s0 aw env n d0 cl mk)(R:Run X ia aq s0 aw env Av oa m cm s H ae){SR:qqK->α->β->Prop}{k:β->Sem Flow}{mm:M α}{f:α->M (Fl×Loc)}(h1:At X A (env::aq) Av SR s H t mm)
  (h2: ∀a v s1 H1,Ex X (aO (env::aq)) s s1->Run X ia aq s0 aw env Av oa m cm s1 H1 ae->SR s1.heap a v->bM X A ia aq s0 aw env s1 H1 (k v) (f a)):bM X A ia aq s0 aw env s H (t>>=k) (M.bind mm f):=by
 intro r H' e Q E hQ hE;refine ua (b7 e ?_ ?_);intro p e1 ak;subst ak;rotate_left;intro a H1 e1 e2;rotate_right
 ·exact h1 _ _ e1 _ _ (λd q=>xE q) λp' q e' s' x y z=>hE p' (by refine jE q λah=>?_;clear q;subst ah;rfl) e' s' (R.err G x y z)
 ·refine h1 _ _ e1 _ _ (λd q v s1 x1 y1 z1=>?_) (λp q=>xO q);refine jO q λah=>?_;clear q;subst ah;exact h2 a v s1 H1 x1 (R.step G x1 y1) z1 _ _ e2 Q E hQ hE
theorem fX.bind (G:c5 X A aq s0 aw env n d0 cl mk)(R:Run X ia aq s0 aw env Av oa m cm s H ae){SR:qqK->α->β->Prop}{k:β->Sem γ}{mm:M α}{f:α->M Loc}(h1:At X A (env::aq) Av SR s H t mm)
  (h2: ∀a v s1 H1,Ex X (aO (env::aq)) s s1->Run X ia aq s0 aw env Av oa m cm s1 H1 ae->SR s1.heap a v->fX X A ia aq s0 aw env s1 H1 (k v) (f a)):fX X A ia aq s0 aw env s H (t>>=k) (M.bind mm f):=by
 intro r H' e Q E hQ hE;refine ua (b7 e ?_ ?_);intro p e1 ak;subst ak;rotate_left;intro a H1 e1 e2;rotate_right
 ·exact h1 _ _ e1 _ _ (λd q=>xE q) λp' q e' s' x y z=>hE p' (by refine jE q λah=>?_;clear q;subst ah;rfl) e' s' (R.err G x y z)
 ·refine h1 _ _ e1 _ _ (λd q v s1 x1 y1 z1=>?_) (λp q=>xO q);refine jO q λah=>?_;clear q;subst ah;exact h2 a v s1 H1 x1 (R.step G x1 y1) z1 _ _ e2 Q E hQ hE
theorem fX.stuck {t:Sem γ}:fX X A ia aq s0 aw env s H t (stuck:M Loc):=λ_ _ e=>by exact xNS e
theorem bM.stuck {t:Sem Flow}:bM X A ia aq s0 aw env s H t (stuck:M (Fl×Loc)):=λ_ _ e=>by exact xNS e
theorem bM.seq {t:Sem γ}{k:γ->Sem Flow}{mm:M (Fl×Loc)}(ht: ∀(Q:γ->qq1->Prop) E,(∀u,Q u s)->qq3 (qq5 X.P X.w) A t Q E s)(h: ∀u,bM X A ia aq s0 aw env s H (k u) mm):bM X A ia aq s0 aw env s H (t>>=k) mm:=λr H' e Q E hQ hE=>
 ua (ht _ _ λu=>h u r H' e Q E hQ hE)
theorem fX.seq {t:Sem γ}{k:γ->Sem δ}{mm:M Loc}(ht: ∀(Q:γ->qq1->Prop) E,(∀u,Q u s)->qq3 (qq5 X.P X.w) A t Q E s)(h: ∀u,fX X A ia aq s0 aw env s H (k u) mm):fX X A ia aq s0 aw env s H (t>>=k) mm:=λr H' e Q E hQ hE=>
 ua (ht _ _ λu=>h u r H' e Q E hQ hE)
theorem bM.stand {k:Unit->Sem Flow}{mm:M (Fl×Loc)}(h:bM X A ia aq s0 aw env s H (k ()) mm):bM X A ia aq s0 aw env s H (qqU pos>>=k) mm:= .seq (λ_ _ q=>qqF (q ())) λ_=>h
theorem fX.stand {k:Unit->Sem γ}{mm:M Loc}(h:fX X A ia aq s0 aw env s H (k ()) mm):fX X A ia aq s0 aw env s H (qqU pos>>=k) mm:= .seq (λ_ _ q=>qqF (q ())) λ_=>h
theorem bM.det {t:Sem γ}{k:γ->Sem Flow}{mm:M (Fl×Loc)}{c:γ}(ht: ∀(Q:γ->qq1->Prop) E,Q c s->qq3 (qq5 X.P X.w) A t Q E s)(h:bM X A ia aq s0 aw env s H (k c) mm):bM X A ia aq s0 aw env s H (t>>=k) mm:=λr H' e Q E hQ hE=>
 ua (ht _ _ (h r H' e Q E hQ hE))
theorem bM.guardX {t:Sem Flow}{c:Bool}{mm:M (Fl×Loc)}(h:c=true->bM X A ia aq s0 aw env s H t mm):bM X A ia aq s0 aw env s H t (if c then mm else Internal.stuck):=by
 induction c using Bool.casesOn with
 |true=>exact h rfl|false=>exact .stuck
theorem bM.guard {t:Sem Flow}{c:Bool}{mm:M Loc}(h:c=true->bM X A ia aq s0 aw env s H t (M.bind mm Internal.next)):bM X A ia aq s0 aw env s H t (M.bind (if c then mm else Internal.stuck) Internal.next):=by
 induction c using Bool.casesOn with
 |true=>exact h rfl|false=>exact .stuck
set_option tactic.hygienic true in
theorem bM.next (R:Run X ia aq s0 aw env Av oa m cm s H ae):bM X A ia aq s0 aw env s H (pure .next) (Internal.next ae):=λr H' e Q E hQ hE=>by
 refine aN e λah ak=>?_;clear e;subst ah;subst ak;exact ud (hQ _ _ rfl _ _ _ _ _ _ R trivial)
theorem bM.ret (R:Run X ia aq s0 aw env Av oa m cm s H ae){d:AV}(h:VV X s.heap aw d v):bM X A ia aq s0 aw env s H (pure (.ret v)) (M.pure (.ret d,ae)):=λr H' e Q E hQ hE=>by
 refine aN e λah ak=>?_;clear e;subst ah;subst ak;exact ud (hQ _ _ rfl _ _ _ _ _ _ R h)
theorem Nm (R:Run X ia aq s0 aw env Av oa m cm s H ae):bM X A ia aq s0 aw env s H (PySem.exec (.Pass pos) env) (Internal.next ae):=by
 refine(?_:bM _ _ _ _ _ _ _ _ _ (qqU pos>>=λ_=>pure .next) _);exact .stand (.next R)
theorem DW (R:Run X ia aq s0 aw env Av oa m cm s H ae):bM X A ia aq s0 aw env s H (PySem.exec (.Return none pos) env) (M.pure (.ret .none,ae)):=by
 refine(?_:bM _ _ _ _ _ _ _ _ _ (qqU pos>>=λ_=>pure (.ret .none)) _);exact .stand (.ret R rfl)
theorem SS (G:c5 X A aq s0 aw env n d0 cl mk)(R:Run X ia aq s0 aw env Av oa m cm s H ae){e:Expr}:bM X A ia aq s0 aw env s H (PySem.exec (.Return (some e) pos) env) (match b9 ae e with
  |some l=>M.pure (.ret (.list l),ae)| .none=>M.bind (ev X.C cl mk 3 e ae) λv=>M.pure (.ret v,ae)):=by
 refine(?_:bM _ _ _ _ _ _ _ _ _ (qqU pos>>=λ_=>eval e env>>=λv=>pure (.ret v)) _);refine .stand ?_;cases ho:b9 ae e with
 |some l=>
  refine aY (kW ho) λx p ak hl=>?_;subst ak;refine .det (λQ E hq=>hY R.loc hl hq) (.ret R ?_);refine bb (R.loc.owns x _ hl) λaz ah ak c8 aI=>aC aI λvs pt z r=>?_;exact⟨_,vs,rfl,R.own x _ hl,pt,z,aF.chg (λb o e n=>⟨e,λq=>n (R.sub b q)⟩) _ _ r⟩
 |none=>
  exact .bind G R (bc G.ev e 3 R.base R.loc) λa v s1 H1 x1 R1 v1=>.ret R1 (R1.val v1)
theorem WZ (G:c5 X A aq s0 aw env n d0 cl mk)(R:Run X ia aq s0 aw env Av oa m cm s H ae){t:Expr}{b o:List Stmt}{mb mo:M (Fl×Loc)}(hb: ∀s1 H1,Run X ia aq s0 aw env Av oa m cm s1 H1 ae->bM X A ia aq s0 aw env s1 H1 (PySem.execs b env) mb)
  (ho: ∀s1 H1,Run X ia aq s0 aw env Av oa m cm s1 H1 ae->bM X A ia aq s0 aw env s1 H1 (PySem.execs o env) mo):
  bM X A ia aq s0 aw env s H (PySem.exec (.If t b o pos) env) (M.bind (EO X.C cl mk 3 t ae (ev X.C cl mk 3 t ae)) λc=>if c then mb else mo):=by
 refine(?_:bM _ _ _ _ _ _ _ _ _ (qqU pos>>=λ_=>isTrue t env (eval t env)>>=λc=>if c=true then PySem.execs b env else PySem.execs o env) _);refine .stand (.bind G R (h_ G.ev t 3 rfl (bc G.ev t 3 R.base R.loc) R.base R.loc) λc c' s1 H1 x1 R1 e=>?_);subst e
 induction c using Bool.casesOn with
 |true=>exact hb s1 H1 R1|false=>exact ho s1 H1 R1
theorem SU (R:Run X ia aq s0 aw env Av oa m cm s H ae):bM X A ia aq s0 aw env s H (PySem.execs [] env) (Internal.next ae):= .next R
set_option tactic.hygienic true in
theorem Nn {st:Stmt}{r:List Stmt}{m1:M (Fl×Loc)}{m2:Loc->M (Fl×Loc)}(h1:bM X A ia aq s0 aw env s H (PySem.exec st env) m1)
  (h2: ∀a6 s1 H1 Av oa m cm,Run X ia aq s0 aw env Av oa m cm s1 H1 a6->bM X A ia aq s0 aw env s1 H1 (PySem.execs r env) (m2 a6)):
  bM X A ia aq s0 aw env s H (PySem.execs (st::r) env) (M.bind m1 λ(f,a6)=>match f with
   | .next=>m2 a6| .ret v=>M.pure (.ret v,a6)):=by
 intro rr H' e Q E hQ hE;refine(?_:qq3 _ _ (PySem.exec st env>>=λf=>match f with| .next=>PySem.execs r env|f=>pure f) Q E s);refine ua (b7 e ?_ ?_);intro p e1 ak;subst ak;rotate_left;intro az H1 e1 e2;obtain⟨f,a6⟩:=az;rotate_right
 ·exact h1 _ _ e1 _ _ (λf a6 q=>xE q) λp' q e' s' x=>hE p' (by refine jE q λah=>?_;clear q;subst ah;rfl) e' s' x
 ·refine h1 _ _ e1 _ _ (λf' mS q fl s1 Av oa m cm R1 Ie=>?_) (λp q=>xO q);refine jO q λah=>?_;clear q;refine yJ ah ?_;clear ah;intro ah ak;subst ah;subst ak;cases f with
  |next=>
   cases fl<;>first|exact Ie.elim|skip
   exact h2 _ _ _ _ _ _ _ R1 _ _ e2 Q E hQ hE
  |ret v=>
   cases fl<;>first|exact Ie.elim|skip
   refine aN e2 λah ak=>?_;clear e2;subst ah;subst ak;exact ud (hQ _ _ rfl _ _ _ _ _ _ R1 Ie)
theorem cP {x y:Str}{v:α}{l:List (Str×α)}:((x,v)::l).lookup y=if y=x then some v else l.lookup y:=by
 refine aa um ?_;by_cases q:y=x
 ·exact aa (if_pos q) (aa (beq_iff_eq.mpr q) rfl)
 ·exact aa (if_neg q) (aa (beq_eq_false_iff_ne.mpr q) rfl)
theorem dI {x y:Str}: ∀{l:List (Str×α)},(dN x l).lookup y=if y=x then none else l.lookup y
 | []=>(ite_self _).symm|(z,u)::r=>by
  have ih:=dI (x:=x) (y:=y) (l:=r);by_cases q:z=x
  ·have e:dN x ((z,u)::r)=dN x r:=List.filter_cons_of_neg (by refine aa q ?_;rewrite [beq_self_eq_true];decide);refine aa e (aa ih ?_);refine aa cP ?_;by_cases h:y=x
   ·exact aa (if_pos h) (aa (if_pos h) rfl)
   ·refine aa (if_neg h) (aa (if_neg h) ?_);exact aa (if_neg (λz'=>h (z'.trans q))) rfl
  ·have e:dN x ((z,u)::r)=(z,u)::dN x r:=List.filter_cons_of_pos (by refine aa (beq_eq_false_iff_ne.mpr q) ?_;rfl);refine aa e (aa cP ?_);refine aa cP (aa ih ?_);by_cases h:y=z
   ·refine aa (if_pos h) (aa (if_pos h) ?_);exact aa (if_neg (λz'=>q (h.symm.trans z'))) rfl
   ·exact aa (if_neg h) (aa (if_neg h) rfl)
theorem aT {x y:Str}{v:α}{l:List (Str×α)}:(bH x v l).lookup y=if y=x then some v else l.lookup y:=by
 refine(cP (l:=dN x l)).trans ?_;by_cases q:y=x
 ·exact aa (if_pos q) (aa (if_pos q) rfl)
 ·refine aa (if_neg q) (aa (if_neg q) ?_);exact aa dI (aa (if_neg q) rfl)
variable {Of:Str->qq7}{a6:Loc}{m' dc:Str->Option qq0}
theorem Run.gone (R:Run X ia aq s0 aw env Av oa m cm s H ae)(h:s.heap.get? b=none):s0.heap.get? b=none:=by
 cases q:s0.heap.get? b with
 |none=>rfl|some o=>
  by_cases z:X.aH=some b
  ·refine aB (R.base.hand.dict z) λo' ah ak h' be=>?_;replace h':=eS h h';exact xNS h'
  ·refine ac (R.ex.live q z) λsl h'=>?_;replace h':=eS h h';exact xNS h'
theorem iT (L:aJ X s.heap env Av oa ae m cm){x:Str}(h:eu ae x=true):env.kindOf x=some .local\/env.kindOf x=some .cell:=by
 delta eu at h;simp only [qxR,beq_iff_eq] at h;refine ui h (λh=>?_) λh=>?_
 ·refine ui (L.kinds x _ h) ?_ ?_;intro e;rotate_left;intro az;refine ai az λe gm=>?_;rotate_right
  ·exact .inl e
  ·cases e
 ·refine ui (L.kinds x _ h) ?_ ?_;intro e;rotate_left;intro az;refine ai az λe gm=>?_;rotate_right
  ·exact .inr e
  ·cases e
theorem eE (L:aJ X s.heap env Av oa ae m cm)(h:WF env b):Av b:=by
 refine ui h ?_ ?_;(all_goals clear h);intro az;subst az;rotate_left;intro az;refine ac az λx h=>?_;rotate_right
 ·exact L.avL
 ·exact L.avC x b h
theorem ao.wrote (B0:ao X s0.heap aw aq H0)(B:ao X s.heap Av fr H)(st:dY W s s')(hW: ∀b,W b->Av b/\s0.heap.get? b=none)(fm:lW s s'):ao X s'.heap Av fr H where
 base:=λb o e=>st.keep b o (λq=>by have:=(hW b q).2;replace this:=eS (B0.base b o e) this;exact oz this) (B.base b o e)
 off:=B.off
 live:=λb av=>ac (B.live b av) λo h=>st.live b o h
 hand:=B.hand.move (st.chg λb q=>(hW b q).1) λa e=>⟨B.hand.av a e,λo h=>st.keep a o (λq=>by
  refine ac (B0.live a (B0.hand.av a e)) λo' h'=>?_;replace h':=eS (hW a q).2 h';exact xNS h') h⟩
 frok:=λen he=>by
  refine ai (B.frok en he) λk aI=>eg aI λL o hL av nH nb ho hc hn=> af (fm L o ho ⟨hc,hn⟩) λo' d6 hf=>?_;exact⟨k,L,o',hL,av,nH,nb,d6,hf.1,hf.2⟩
theorem Run.wrote (G:c5 X A aq s0 aw env n d0 cl mk)(R:Run X ia aq s0 aw env Av oa m cm s H ae)(st:dY W s s')(hW: ∀b,W b->Av b/\s0.heap.get? b=none)(fm:lW s s')(L':aJ X s'.heap env Av Of a6 m' dc)
  (own: ∀x ob,a6.om.lookup x=some ob-> ¬aw (Of x)) (ownD: ∀x c ks vs dx,a6.om.lookup x=some (.inst c ks vs)->s'.heap.get? (Of x)=some (qz1 c dx)-> ¬aw dx/\Of x=ia):Run X ia aq s0 aw env Av Of m' dc s' H a6:=by
 refine ac G.base λH0 B0=>?_;exact⟨R.ex.then_ (λb o o' e e'=>st.keep b o' (λq=>by replace e:=eS (hW b q).2 e;exact xNS e) e') st.gens st.os,ao.wrote B0 R.base st hW fm,L',R.sub,R.fresh,own,ownD⟩
theorem k8 (L:aJ X s.heap env Av oa ae m cm){x:Str}(h:ae.om.lookup x=some ob): ¬WF env (oa x):=by
 refine bb (L.owns x ob h) λa1 a2 a3 a4 a5=>?_;intro q;refine ui q ?_ ?_;(all_goals clear q);intro q;rotate_left;intro az;refine ac az λy q=>?_;rotate_right
 ·exact a3 q
 ·refine af (L.cells y _ q) λo ho hd=>?_
  induction ob using OB.casesOn with
  |list l=>
   refine af a5 λvs ah ak=>ac ah λn hp=>?_;replace ho:=eS hp ho;refine al ho λah=>?_;clear ho;subst ah;cases hd
  |kd l=>
   refine af a5 λxs ah ak=>gE ah λo' es ep d6 r1 r2 zy6=>?_;replace ho:=eS d6 ho;refine al ho λah=>?_;clear ho;subst ah;replace hd:=eS r2 hd;cases hd
  |inst c ks vs=>
   refine cG a5 λdx es n c8 be dX g1 mY=>?_;replace ho:=eS g1 ho;refine al ho λah=>?_;clear ho;subst ah;cases hd
theorem gv (L:aJ X s.heap env Av oa ae m cm){x:Str}{vs:List AV}(h:ae.om.lookup x=some (.inst c ks vs)): ∃dx,s.heap.get? (oa x)=some (qz1 c dx)/\Av dx/\dx≠env.locals:=by
 exact bb (L.owns x _ h) λa1 a2 a3 a4 aI=>cG aI λdx es n av nl nh g1 S9=>(aV dx g1 av nl)
theorem Run.named (G:c5 X A aq s0 aw env n d0 cl mk)(R:Run X ia aq s0 aw env Av oa m cm s H ae){rho':List (Str×AV)}(st:dY W s s')(hW: ∀b,W b->WF env b)(fm:lW s s')(L':aJ X s'.heap env Av oa {ae with rho:=rho'} m' dc):
  Run X ia aq s0 aw env Av oa m' dc s' H {ae with rho:=rho'}:=
 R.wrote G st (λb q=>⟨eE R.loc (hW b q),G.wfresh b (hW b q)⟩) fm L' R.own λx c ks vs dx e h=>by
  refine af (gv R.loc e) λEC g ak=>?_;have:=st.keep _ _ (λq=>k8 R.loc e (hW _ q)) g;replace this:=eS h this;refine al this λah=>?_;clear this;cases ah;exact R.ownD x c ks vs dx e g
theorem bE {x:Str}{d:AV}{r:Except AV Loc}(e:bB x d ae H=some (r,H')):H'=H/\r= .ok {ae with rho:=bH x d ae.rho}/\eu ae x=true/\ae.om.lookup x=none:=by
 have e:(if(eu ae x && (ae.om.lookup x).isNone)=true then M.pure {ae with rho:=bH x d ae.rho} else stuck) H=some (r,H'):=e;refine cB (eu ae x && (ae.om.lookup x).isNone) (λc=>?_) λc=>?_
 ·replace e:=(if_pos c)▸e;refine aN e λah ak=>?_;clear e;subst ah;subst ak;exact(gF rfl rfl (tt c).1 (vB.mp (tt c).2))
 ·replace e:=c▸e;exact xNS e
theorem eY (G:c5 X A aq s0 aw env n d0 cl mk)(R:Run X ia aq s0 aw env Av oa m cm s H ae){x:Str}{d:AV}(hv:VV X s.heap Av d v){r:Except AV Loc}(e:bB x d ae H=some (r,H')):
  H'=H/\r= .ok {ae with rho:=bH x d ae.rho}/\eu ae x=true/\ae.om.lookup x=none/\ ∀{A':qqG} {Q:Unit->qq1->Prop} {E:qq0->qq1->Prop},(∀s' m' dc,dY (WF env) s s'->Run X ia aq s0 aw env Av oa m' dc s' H {ae with rho:=bH x d ae.rho}->Q () s')->qq3 (qq5 X.P X.w) A' (qx2 env x v) Q E s:=by
 refine gD (bE e) λq1 q2 c1 c2=>(cV q1 q2 c1 c2 (λ{A' Q E} hQ=>dR R.base R.loc (iT R.loc c1) c2 hv λh' tk m' dc a ha k lv fm L'=>?_));have hW: ∀b,b=a->WF env b:=λb q=>q▸ha.imp id λha=>⟨x,ha⟩;have st:dY (WF env) s {s with heap:=h',toks:=tk}:=⟨λb o n e=>k b o (λq=>n (hW b q)) e,λb o e=>(Classical.em (b=a)).elim (λq=>q▸lv) λq=>⟨o,k b o q e⟩,rfl,rfl⟩;refine hQ _ m' dc st (R.named G st (λ_ q=>q) fm (aJ.rho (ae:={ae with rho:=(x,d)::ae.rho}) L' λy dd h=>?_));replace h:=eS aT h;exact aa cP h
theorem No (G:c5 X A aq s0 aw env n d0 cl mk)(R:Run X ia aq s0 aw env Av oa m cm s H ae){x:Str}{d:AV}(hv:VV X s.heap Av d v):
  fX X A ia aq s0 aw env s H (qx2 env x v) (bB x d ae):=λr H' e Q E hQ hE=>by
 refine bb (eY G R hv e) λaz e1 ak c8 h=>?_
 subst_vars
 exact h λs' m' dc _ R'=>hQ _ rfl _ _ Av oa m' dc R'
theorem nI (G:c5 X A aq s0 aw env n d0 cl mk)(R:Run X ia aq s0 aw env Av oa m cm s H ae){x:Str}{p:Pos}{d:AV}(hv:VV X s.heap Av d v):
  fX X A ia aq s0 aw env s H (assign (.Name x p) env v) (bB x d ae):=λr H' e Q E hQ hE=>qzW (No G R hv r H' e Q E hQ hE)
set_option tactic.hygienic true in
theorem ic: ∀{bs:List (Str×AV)} {ae:Loc} {H H':HS} {r:Except AV Loc},Fh bs ae H=some (r,H')->H'=H/\ ∃rho',r= .ok {ae with rho:=rho'}/\(∀x∈bs.map (·.1),eu ae x=true/\ae.om.lookup x=none)/\ ∀x d,rho'.lookup x=some d->(bs.reverse++ae.rho).lookup x=some d
 | [],ae,H,H',r,h=>by
  refine aN h λah ak=>?_;clear h;subst ah;subst ak;exact⟨rfl,ae.rho,rfl,by simp,λx d e=>e⟩
 |(x,v)::bs,ae,H,H',r,h=>by
  refine b7 h ?_ ?_;intro p e1 ak;rotate_left;intro aK H1 e1 e2;rotate_right
  ·unfold bB at e1;split at e1<;>(first|(exact Yy e1)|(exact xNS e1))
  ·unfold bB at e1;split at e1
   ·rename_i c
    refine Mx e1 λah ak=>?_;clear e1;subst ah;subst ak;simp only [uv,vB] at c;refine ai (ic e2) λh1 aI=>aC aI λrho' h2 h3 h4=>?_;refine⟨h1,rho',h2,λy hy=>?_,λy d e=>?_⟩
    ·refine ui (uY.mp hy) ?_ ?_;intro az;subst az;rotate_left;intro hy;rotate_right
     ·exact c
     ·exact h3 y hy
    ·have:=h4 y d e;refine aa vw ?_;rewrite [up];rw [vO] at this⊢;cases q:bs.reverse.lookup y with
     |some z=>replace this:=q▸this;exact this|none=>
      replace this:=q▸this;have t:(bH x v ae.rho).lookup y=some d:=this;replace t:=eS aT t;refine(?_:List.lookup y ((x,v)::ae.rho)=some d);refine aa um ?_;by_cases z:y=x
      ·subst z;simpa using t
      ·have zz:(y==x)=false:=by exact Iff.mpr beq_eq_false_iff_ne z
       refine aa zz ?_;replace t:=eS (if_neg z) t;exact t
   ·exact xNS e1
theorem De (L:aJ X s.heap env Av oa ae m cm){x:Str}(h:eu ae x=true)(h2:ae.om.lookup x=none):DL env (WF env) ae.om x:=(gF (iT L h) h2 (.inl rfl) (λc hc=>.inr ⟨x,hc⟩))
theorem nJ (G:c5 X A aq s0 aw env n d0 cl mk)(R:Run X ia aq s0 aw env Av oa m cm s H ae){t:Expr}{d:AV}(hv:VV X s.heap Av d v):
  fX X A ia aq s0 aw env s H (assign t env v) (aR t d ae):=by
 intro r H' e Q E hQ hE;delta aR at e;refine cO (fC t d) (λhb=>?_) λbs hb=>?_
 ·rw [hb] at e;exact xNS e
 ·replace e:=hb▸e;refine ai (ic e) λaz aI=>aC aI λrho' gm h3 h4=>?_;clear aI;subst gm;subst az;exact ac G.base λH0 B0=> jo G.ev.hA R.base R.loc (λb q=>eE R.loc q) hb (λx hx=>De R.loc (h3 x hx).1 (h3 x hx).2) hv (λs' st fm=>ao.wrote B0 R.base st (λb q=>⟨eE R.loc q,G.wfresh b q⟩) fm) λs' m' dc st fm L'=>hQ _ rfl _ _ Av oa m' dc (R.named G st (λb q=>q) fm (aJ.rho (ae:={ae with rho:=bs.reverse++ae.rho}) L' λx dd h=>h4 x dd h))
theorem Run.hide (R:Run X ia aq s0 aw env Av oa m cm s H ae){h':qqK}{tk:Nat}{Z:List qq7}(k: ∀b o,s.heap.get? b=some o->h'.get? b=some o)(hz: ∀b∈Z,s.heap.get? b=none/\ ∃o,h'.get? b=some o):
  Run X ia aq s0 aw env (ins Av Z) oa m cm {s with heap:=h',toks:=tk} H ae:=by
 have h2: ∀b o,s.heap.get? b=some o-> ¬Av b-> ¬ins Av Z b:=λb o e n q=>by
  refine ui q (λq=>?_) λq=>?_
  ·exact n q
  ·replace e:=eS (hz b q).1 e;exact xNS e
 exact⟨R.ex.then_ (λb o o' _ e'=>k b o' e') rfl rfl,R.base.keep k (λb q=>.inl q) h2 (λb q=>by
   refine ui q (λq=>?_) λq=>?_
   ·refine ac (R.base.live b q) λo h=>?_;exact⟨o,k b o h⟩
   ·exact(hz b q).2),R.loc.keep k (λb q=>.inl q) h2,λb q=>.inl (R.sub b q),λb q=>by
   refine ui q (λq=>?_) λq=>?_
   ·exact R.fresh b q
   ·exact .inr (R.gone (hz b q).1),R.own,λx c ks vs dx e h=>by
   refine af (gv R.loc e) λEC g ak=>?_;have:=k _ _ g;have h:h'.get? (oa x)=some (qz1 c dx):=h;replace this:=eS h this;refine al this λah=>?_;clear this;cases ah;exact R.ownD x c ks vs dx e g⟩
theorem zT (G:c5 X A aq s0 aw env n d0 cl mk)(R:Run X ia aq s0 aw env Av oa m cm s H ae){x:Str}{a:qq7}(ha:Av a)(W_: ¬aw a)(hl:a≠env.locals)(hH:X.aH≠some a)(hc: ∀y,env.cells.lookup y≠some a)
  (ho:oH X s.heap Av ob a env.locals) (hn: ∀y ob,ae.om.lookup y=some ob->oa y≠a) (c1:eu ae x=true) (c2:ae.om.lookup x=none) (c3: ∀y∈ae.om,gj y.2=true) (c4:gj ob=true)
  {Q:Unit->qq1->Prop} {E:qq0->qq1->Prop}
  (hQ: ∀h' tk m' dc b,WF env b->(b=env.locals\/ ∃o v,s.heap.get? b=some o/\o.data= .cell v)->(∀z o,z≠b->s.heap.get? z=some o->h'.get? z=some o)->Run X ia aq s0 aw env Av (λy=>if y=x then a else oa y) m' dc {s with heap:=h',toks:=tk} H {ae with rho:=dN x ae.rho,om:=bH x ob ae.om}->Q () {s with heap:=h',toks:=tk}):
  qq3 (qq5 X.P X.w) A (qx2 env x (.ref a)) Q E s:=by
 refine dR R.base R.loc (iT R.loc c1) c2 (d:= .glob (.ref a)) rfl λh' tk m' dc b hb k lv fm L'=>?_
 ·
  have Og:WF env b:=by
   refine ui hb ?_ ?_;(all_goals clear hb);intro az;subst az;rotate_left;intro hb;rotate_right
   ·exact .inl rfl
   ·exact .inr ⟨x,hb⟩
  have st:dY (· =b) s {s with heap:=h',toks:=tk}:=⟨λb o n e=>k b o n e,λz o e=>by
   by_cases q:z=b
   ·subst q;exact lv
   ·exact⟨o,k z o q e⟩,rfl,rfl⟩
  refine af (L'.vals x (.glob (.ref a)) (by simp)) λu hu SV=>?_;have SV:u= .ref a:=SV;subst SV;have Zh: ∀y cc ks vs,ae.om.lookup y≠some (.inst cc ks vs):=λy cc ks vs q=>by
   have:=c3 _ (mem_of_lookup q);exact di this
  have eA:b=env.locals\/ ∃o v,s.heap.get? b=some o/\o.data= .cell v:=by
   refine ui hb ?_ ?_;(all_goals clear hb);intro az;subst az;rotate_left;intro hb;rotate_right
   ·exact .inl rfl
   ·exact af (R.loc.cells x b hb) λo h1 h2=> .inr (ei o _ h1 h2)
  have Xa: ∀y z gw Jd,(bH x ob ae.om).lookup y=some gw->(bH x ob ae.om).lookup z=some Jd->(if y=x then a else oa y)=(if z=x then a else oa z)->y=z:=λy z gw Jd e1 e2 q=>by
   rw [aT] at e1 e2;by_cases q1:y=x
   ·by_cases q2:z=x
    ·exact aa q1 (aa q2 rfl)
    ·replace q:=eS (if_pos q1) q;replace q:=Eq.trans q (if_neg q2);replace e2:=eS (if_neg q2) e2;exact absurd q.symm (hn z _ e2)
   ·by_cases q2:z=x
    ·replace q:=eS (if_neg q1) q;replace q:=Eq.trans q (if_pos q2);replace e1:=eS (if_neg q1) e1;exact absurd q (hn y _ e1)
    ·rw [if_neg q1] at q e1;rw [if_neg q2] at q e2;exact R.loc.inj y z _ _ e1 e2 q
  refine hQ h' tk m' dc b Og eA k (R.wrote G st (λz q=>by refine aa q ?_;exact⟨eE R.loc Og,G.wfresh _ Og⟩) fm
   {kind:=L'.kind,glb:=L'.glb,bi:=L'.bi,dbg:=L'.dbg,cdt:=L'.cdt,kinds:=L'.kinds,ns:=L'.ns,cells:=L'.cells,hasc:=L'.hasc,avL:=L'.avL,avC:=L'.avC,apart:=L'.apart,vals:=λy d e=>?_,owns:=λy ob' e=>?_,inj:=Xa,solo:=λy z cc ks vs ob' e e'=>?_,nL:=L'.nL} (λy ob' e=>?_) λy cc ks vs dx e=>?_)
  ·have e:(dN x ae.rho).lookup y=some d:=e;replace e:=eS dI e;by_cases q:y=x
   ·replace e:=eS (if_pos q) e;exact xNS e
   ·replace e:=eS (if_neg q) e;refine L'.vals y d ?_;have zz:(y==x)=false:=by exact Iff.mpr beq_eq_false_iff_ne q
    exact aa um (aa zz e)
  ·have e:(bH x ob ae.om).lookup y=some ob':=e;replace e:=eS aT e;by_cases q:y=x
   ·replace e:=eS (if_pos q) e;refine al e λah=>?_;clear e;subst ah;subst q;simp only [if_true];exact(cV hu ha hl hH (oH.keep ho hl (eE R.loc Og) eA k))
   ·replace e:=eS (if_neg q) e;simp only [if_neg q];exact L'.owns y ob' e
  ·exfalso;have e:(bH x ob ae.om).lookup y=some (.inst cc ks vs):=e;replace e:=eS aT e;by_cases q:y=x
   ·replace e:=eS (if_pos q) e;refine al e λah=>?_;clear e;subst ah;exact di c4
   ·replace e:=eS (if_neg q) e;exact Zh y cc ks vs e
  ·have e:(bH x ob ae.om).lookup y=some ob':=e;replace e:=eS aT e;by_cases q:y=x
   ·simp only [if_pos q];exact W_
   ·replace e:=eS (if_neg q) e;simp only [if_neg q];exact R.own y ob' e
  ·exfalso;have e:(bH x ob ae.om).lookup y=some (.inst cc ks vs):=e;replace e:=eS aT e;by_cases q:y=x
   ·replace e:=eS (if_pos q) e;refine al e λah=>?_;clear e;subst ah;exact di c4
   ·replace e:=eS (if_neg q) e;exact Zh y cc ks vs e
set_option tactic.hygienic true in
theorem G6 (G:c5 X A aq s0 aw env n d0 cl mk)(R:Run X ia aq s0 aw env Av oa m cm s H ae){x:Str}{a:qq7}(ha:Av a)(W_: ¬aw a)(hl:a≠env.locals)(hH:X.aH≠some a)(hc: ∀y,env.cells.lookup y≠some a)
  (ho:oH X s.heap Av ob a env.locals) (hn: ∀y ob,ae.om.lookup y=some ob->oa y≠a):
  fX X A ia aq s0 aw env s H (qx2 env x (.ref a)) (jV x ob ae):=by
 intro r H' e Q E hQ hE;delta jV at e;split at e
 ·rename_i c
  refine aN e λah ak=>?_;clear e;subst ah;subst ak;simp only [uv,vB,qqJ] at c;exact ai c λaz c4=>ai az λAB c3=> ai AB λc1 c2=> zT G R ha W_ hl hH hc ho hn c1 c2 c3 c4 λh' tk m' dc b _ _ _ R'=>hQ _ rfl _ _ _ _ _ _ R'
 ·exact xNS e
theorem G7 (G:c5 X A aq s0 aw env n d0 cl mk)(R:Run X ia aq s0 aw env Av oa m cm s H ae){x:Str}{ob ob':OB}(hl:ae.om.lookup x=some ob)(n1:gj ob=true)(n2:gj ob'=true)(st:dY (· =oa x) s s')(ho:oH X s'.heap Av ob' (oa x) env.locals):
  ∃a6,cw x ob' ae H=some (.ok a6,H)/\Run X ia aq s0 aw env Av oa m cm s' H a6:=by
 refine bb (R.loc.owns x ob hl) λa1 a2 a3 a4 a5=>?_;have nw:=k8 R.loc hl;refine(aj ({ae with om:=bH x ob' ae.om}) (by delta cw;refine aa hl ?_;rfl) ?_);refine af (by
  induction ob using OB.casesOn with
  |list l=>exact af a5 λvs ah ak=>ac ah λn hp=>(aj _ hp (by simp))
  |kd l=>exact af a5 λxs ah ak=>bT ah λo' es ep d6 r1 yW=>(aj o' d6 (by refine aa r1.1 ?_;simp))
  |inst c ks vs=>exact di n1: ∃o,s.heap.get? (oa x)=some o/\o.cls≠ .type "frame") ?_;intro ox hox hnf
 have c:dB s.heap Av s'.heap Av:=st.chg λb q=>by exact aa q a2
 have fm:lW s s':=λb o e hf=>by
  by_cases q:b=oa x
  ·subst q;replace e:=eS hox e;refine al e λah=>?_;clear e;subst ah;exact absurd hf.1 hnf
  ·exact(aj o (st.keep b o q e) hf)
 have L:=R.loc;have a0:s0.heap.get? (oa x)=none:=by
  refine ui (R.fresh _ a2) (λq=>?_) λq=>?_
  ·exact absurd q (R.own x ob hl)
  ·exact q
 refine R.wrote G st (λb q=>by refine aa q ?_;exact⟨a2,a0⟩) fm
  {kind:=L.kind,glb:=L.glb,bi:=L.bi,dbg:=L.dbg,cdt:=L.cdt,kinds:=L.kinds,ns:= ?_,cells:=λy cc e=>?_,hasc:=L.hasc,avL:=L.avL,avC:=L.avC,apart:=L.apart,vals:=λy d e=>af (L.vals y d e) λv h1 h2=>(aj v h1 (VR.chg c _ _ h2)),owns:=λy gw e=>?_,inj:=λy z gw Jd e1 e2 q=>?_,solo:=λy z cc ks vs gw e1 e2=>?_,nL:=L.nL} (λy gw e=>?_) λy cc ks vs dx e h=>?_
 ·exact aB L.ns λo es ep ho r=>(ct o es ep (st.keep _ _ (λq=>a3 q.symm) ho) r)
 ·exact af (L.cells y cc e) λo ho hd=>(aj o (st.keep _ _ (λq=>nw (.inr ⟨y,q▸e⟩)) ho) hd)
 ·have e:(bH x ob' ae.om).lookup y=some gw:=e;replace e:=eS aT e;by_cases q:y=x
  ·replace e:=eS (if_pos q) e;refine al e λah=>?_;clear e;subst ah;subst q;exact(cV a1 a2 a3 a4 ho)
  ·replace e:=eS (if_neg q) e;refine bb (L.owns y gw e) λb1 b2 b3 b4 b5=>?_;have ne:oa y≠oa x:=λz=>q (L.inj y x _ _ e hl z);refine(cV b1 b2 b3 b4 ?_)
   induction gw using OB.casesOn with
   |list l=>
    exact aC b5 λvs ah z r=>ac ah λn h1=>(aV vs ⟨n,st.keep _ _ ne h1⟩ z (aF.chg c _ _ r))
   |kd l=>
    refine c7 b5 λxs ah e1 r av=>eh ah λo es ep ho r1 r2 r3 r4 r5=>(cW xs (gG o es ep (st.keep _ _ ne ho) r1 r2 r3 (λz hz=>?_) r5) e1 (aF.chg c _ _ r) av);refine aB (r4 z hz) λo1 i1 n1 g1 g2=>?_;exact⟨o1,i1,n1,(c _ _ g1 (av z hz)).1,g2⟩
   |inst cc ks vs=>exact absurd (L.solo y x cc ks vs ob e hl) q
 ·have e1:(bH x ob' ae.om).lookup y=some gw:=e1;have e2:(bH x ob' ae.om).lookup z=some Jd:=e2;rw [aT] at e1 e2;have g: ∀w Zi,(if w=x then some ob' else ae.om.lookup w)=some Zi-> ∃Xb,ae.om.lookup w=some Xb:=λw Zi h=>by
   by_cases q:w=x
   ·exact⟨ob,by exact aa q hl⟩
   ·replace h:=eS (if_neg q) h;exact⟨_,h⟩
  exact ac (g y _ e1) λo1 h1=> ac (g z _ e2) λo2 h2=> L.inj y z _ _ h1 h2 q
 ·exfalso;have e1:(bH x ob' ae.om).lookup y=some (.inst cc ks vs):=e1;replace e1:=eS aT e1;by_cases q:y=x
  ·replace e1:=eS (if_pos q) e1;refine al e1 λah=>?_;clear e1;subst ah;exact di n2
  ·replace e1:=eS (if_neg q) e1;exact q (L.solo y x cc ks vs ob e1 hl)
 ·have e:(bH x ob' ae.om).lookup y=some gw:=e;replace e:=eS aT e;by_cases q:y=x
  ·exact aa q (R.own x ob hl)
  ·replace e:=eS (if_neg q) e;exact R.own y gw e
 ·exfalso;have e:(bH x ob' ae.om).lookup y=some (.inst cc ks vs):=e;replace e:=eS aT e;by_cases q:y=x
  ·replace e:=eS (if_pos q) e;refine al e λah=>?_;clear e;subst ah;exact di n2
  ·replace e:=eS (if_neg q) e;exact q (L.solo y x cc ks vs ob e hl)
theorem l7 (R:Run X ia aq s0 aw env Av oa m cm s H ae){x mn:Str}{xp ap pos:Pos}{id:String}(hl:ae.om.lookup x=some (.list l))(fK:Ib (.Name x xp) args ap pos=true)
  (slot:Slot "list" mn id) (Oh:typeOf (.builtin id)=pure (.type "method_descriptor")) {Q E:qq0->qq1->Prop}
  (h:qq3 (qq5 X.P X.w) A (qzP (backTo pos (qqO args env))) (λvs s1=>qq3 (qq5 X.P X.w) A (PySem.call (.builtin id) (.ref (oa x)::vs)) Q E s1) E s):
  qq3 (qq5 X.P X.w) A (eval (.Call (.Attribute (.Name x xp) mn ap) args [] pos) env) Q E s:=by
 unfold Ib fe at fK;simp only [uv,decide_eq_true_eq,beq_iff_eq] at fK;refine ai fK λaz k5=>ai az λAB k4=> ai AB λIM k3=>ai IM λk1 k2=>?_;rewrite [arm_eval_Call];refine aa (l5 k5) (ua (hY R.loc hl (ua (qqF ?_))));have jn:=cf k1 (pos:=pos) (env:=env);have zM:methodCallForm (args.length+([]:List Keyword).length) (backTo pos (qqO args env)) (backToKw pos (keywordEach [] env))=true:=by
  delta methodCallForm;have h1:(backTo pos (qqO args env)).all (λx=>!x.1)=true:=by
   refine aa List.all_eq_not_any_not ?_;simpa using jn
  have h2:(backToKw pos (keywordEach [] env))= []:=rfl;refine aa h1 (aa h2 ?_);simp;exact OU k3
 have ke:methodCallPos true (.Name x xp) env ap pos=pure pos:=by delta methodCallPos;simp [k4]
 delta methodCall;refine aa zM (aa ke ?_);refine bb (R.loc.owns x _ hl) λa1 a2 a3 a4 aI=>aC aI λvs gm z r=> ac gm λnn hp=> ua (qq8 (getMethod_builtin (T:= "list") (aj _ hp rfl) PySem.F.plainAttrs_list slot Oh (λb e=>by cases e;exact(aj _ hp rfl)) ?_));exact bp (bG jn (qqV h (λvs s1 h1=>And.intro (bX (λb (q:qq0.builtin id= .ref b)=>by cases q)) h1) λ_ _ e=>e))
theorem pw {a:qq7}{tk:Nat}(hs:qqC a s.heap h')(hl: ∃o,h'.get? a=some o):dY (· =a) s {s with heap:=h',toks:=tk}:=
 ⟨λb o n e=>by refine(?_:h'.get? b=_);exact aa (hs.2 b n) e,λb o e=>by
  by_cases q:b=a
  ·subst q;exact hl
  ·exact⟨o,by refine(?_:h'.get? b=_);exact aa (hs.2 b q) e⟩,rfl,rfl⟩
theorem iU {a:qq7}(hs:qqC a h h')(ha:Av a):dB h Av h' Av:=λb o e n=>⟨by exact aa (hs.2 b λq=>n (q▸ha)) e,n⟩
theorem G8 {a:qq7}{vs:Array qq0}(hp:h.PlainList a vs)(f:Array qq0->Array qq0):(h.update a (Obj.mapSeq f)).PlainList a (f vs)/\qqC a h (h.update a (Obj.mapSeq f)):=by
 refine ac hp λn ho=>?_;exact⟨⟨_,IsL.update ho f⟩,qqC.update ..⟩
theorem jv (L:aJ X s.heap env Av oa ae m cm){x:Str}(hl:ae.om.lookup x=some (.list l)): ∃vs,s.heap.PlainList (oa x) vs/\l.length<=1000/\cu X s.heap Av l vs.toList/\vs.size=l.length/\Av (oa x):=by
 refine bb (L.owns x _ hl) λa1 a2 a3 a4 aI=>aC aI λvs hp z r=>?_;have lv:=aF.length r;replace lv:=eS ux lv;exact(j1 vs hp z r lv a2)
theorem dJ (G:c5 X A aq s0 aw env n d0 cl mk)(R:Run X ia aq s0 aw env Av oa m cm s H ae){x:Str}{l l':List AV}(hl:ae.om.lookup x=some (.list l))(hz:l'.length<=1000){f:Array qq0->Array qq0}
  (hf: ∀vs,s.heap.PlainList (oa x) vs-> ∀h',dB s.heap Av h' Av->cu X h' Av l vs.toList->cu X h' Av l' (f vs).toList):
  ∃a6,cw x (.list l') ae H=some (.ok a6,H)/\Run X ia aq s0 aw env Av oa m cm {s with heap:=s.heap.update (oa x) (Obj.mapSeq f)} H a6:=by
 refine ef (jv R.loc hl) λvs hp z r lv av=> ai (G8 hp f) λp1 p2=>?_;have c:=iU p2 av;refine G7 G R hl rfl rfl (s':={s with heap:=s.heap.update (oa x) (Obj.mapSeq f)}) (pw (tk:=s.toks) p2 (ac p1 λn h=>⟨_,h⟩)) (aV _ p1 hz (hf vs hp _ c (aF.chg c _ _ r)))
set_option tactic.hygienic true in
theorem BJ (G:c5 X A aq s0 aw env n d0 cl mk)(R:Run X ia aq s0 aw env Av oa m cm s H ae){x mn:Str}{xp ap pos:Pos}(hl:ae.om.lookup x=some (.list l))(fK:Ib (.Name x xp) args ap pos=true):
  fX X A ia aq s0 aw env s H (eval (.Call (.Attribute (.Name x xp) mn ap) args [] pos) env) (Fs X.C cl mk x l mn args ae):=by
 delta Fs;have CJ:args.all aZ=true:=by
  unfold Ib fe at fK;simp only [uv] at fK;exact fK.1.1.1.1
 match args with
 | []=>
  dsimp only;split
  ·rename_i hm
   subst hm;intro r H' e Q E hQ hE;refine l7 R hl fK PySem.F.slot_list_reverse PySem.F.type_list_reverse (ud ?_);refine ef (jv R.loc hl) λvs ah z rr lv av=>ac ah λk hp=> call_meets PySem.F.slot_list_reverse (aj _ hp rfl) PySem.F.entry_list_reverse (PySem.F.args_list_reverse_1 _) (AutoSeq1.list_reverse_list_0 (oa x) vs k (by exact aa sizeLine_eq (yL z lv))) ⟨hp,?_⟩;refine af (dJ G R hl (l':=l.reverse) (by simpa using z) (f:=λx=>x.reverse) (λvs _ h' _ q=>by exact aa Array.toList_reverse (aF.reverse q))) ?_;intro a6 e1 R';replace e:=eS e1 e;refine aN e λah ak=>?_;clear e;subst ah;subst ak;exact hQ _ rfl _ _ _ _ _ _ R'
  ·exact .stuck
 | [a]=>
  simp only [List.all_cons,List.all_nil,Bool.and_true] at CJ;have iV:=fy G.ev [a] 3 (pos:=pos) R.base R.loc (by simpa using CJ);intro r H' e Q E hQ hE;have go: ∀{id:String} (slot:Slot "list" mn id) (Oh:typeOf (.builtin id)=pure (.type "method_descriptor")) (f:AV->M Loc),(M.bind (ev X.C cl mk 3 a ae) f) H=some (r,H')->
    (∀v u s1 H1,Ex X (aO (env::aq)) s s1->Run X ia aq s0 aw env Av oa m cm s1 H1 ae->VV X s1.heap Av v u->f v H1=some (r,H')->qq3 (qq5 X.P X.w) A (PySem.call (.builtin id) [.ref (oa x),u]) Q E s1)->
    qq3 (qq5 X.P X.w) A (eval (.Call (.Attribute (.Name x xp) mn ap) [a] [] pos) env) Q E s:=by
   intro id slot Oh f e hc;refine l7 R hl fK slot Oh (b7 e ?_ ?_);intro p e1 ak;subst ak;rotate_left;intro v H1 e1 e2;rotate_right
   ·refine iV (.error p) H' (by refine(?_:M.bind _ _ H=_);delta M.bind;exact aa e1 rfl) _ _ (λd q=>xE q) λp' q e' s' x y z=>?_;refine jE q λah=>?_;clear q;subst ah;exact hE _ rfl e' s' (R.err G x y z)
   ·refine iV (.ok [v]) H1 (by refine(?_:M.bind _ _ H=_);delta M.bind;refine aa e1 ?_;rfl) _ _ (λd q vs s1 x1 y1 z1=>?_) λp q=>by exact xO q
    refine jO q λah=>?_;clear q;subst ah;refine af (aF.one z1) λu ah hu=>?_;subst ah;exact hc v u s1 H1 x1 (R.step G x1 y1) hu e2
  dsimp only at e;by_cases hm:mn=ag "append"
  ·subst hm;replace e:=(if_pos rfl)▸e;refine go PySem.F.slot_list_append PySem.F.type_list_append _ e λv u s1 H1 x1 R1 hu e2=>?_;split at e2
   ·rename_i hz
    refine ef (jv R1.loc hl) λvs ah z rr lv av=>ac ah λk hp=> call_meets PySem.F.slot_list_append (aj _ hp rfl) PySem.F.entry_list_append (PySem.F.args_list_append_2 _ _) (list_append (oa x) vs k u (by exact aa sizeLine_eq (yL z lv))) ⟨hp,?_⟩;refine af (dJ G R1 hl (l':=l++ [v]) (by simp;exact Wa hz) (f:=λx=>x.push u) (λvs _ h' c q=>by exact aa qx9 (aF.append q (.single (VR.chg c _ _ hu))))) ?_;intro a6 e1 R';replace e2:=eS e1 e2;refine aN e2 λah ak=>?_;clear e2;subst ah;subst ak;exact hQ _ rfl _ _ _ _ _ _ R'
   ·exact xNS e2
  ·by_cases NX:mn=ag "extend"
   ·subst NX;replace e:=(if_neg hm)▸e;replace e:=(if_pos rfl)▸e;refine go PySem.F.slot_list_extend PySem.F.type_list_extend _ e λv u s1 H1 x1 R1 hu e2=> ef (jv R1.loc hl) λvs ah z rr lv av=>ac ah λk hp=>?_;have fits: ∀{b:Nat},l.length+b<=1000-> ¬(!vs.isEmpty && qx5 (vs.size+b))=true:=λ{b} hb=>by
     have:qx5 (vs.size+b)=false:=by
      delta qx5;simp only [decide_eq_false_iff_not,qxA,Nat.not_le];exact aa sizeLine_eq (Wb lv hb)
     refine aa this ?_;simp
    induction v using AV.casesOn with
    |list r2=>
     dsimp only at e2;split at e2
     ·rename_i hz
      refine aP hu λb ws ak nb be z2 SX=>ac be λk2 hb=>?_;clear be;subst ak;have lw:=aF.length SX;replace lw:=eS ux lw;refine call_meets PySem.F.slot_list_extend (aj _ hp rfl) PySem.F.entry_list_extend (PySem.F.args_list_extend_2 _ _) (AutoSeq1.list_extend_list_list_0 (oa x) vs k b ws k2 (by exact aa lw (fits hz)) (by exact aa sizeLine_eq (OV lv hz)) (by exact aa sizeLine_eq (OW lv hz lw))) (aQ hp hb ?_);refine af (dJ G R1 hl (l':=l++r2) (by simp;exact OX hz) (f:=λx=>x++ws) (λvs _ h' c q=>by exact aa Array.toList_append (aF.append q (aF.chg c _ _ SX)))) ?_;intro a6 e1 R';replace e2:=eS e1 e2;refine aN e2 λah ak=>?_;clear e2;subst ah;subst ak;exact hQ _ rfl _ _ _ _ _ _ R'
     ·exact xNS e2
    |tup r2=>
     dsimp only at e2;split at e2
     ·rename_i hz
      refine aP hu λb ws ak nb be z2 SX=>ac be λk2 hb=>?_;clear be;subst ak;have lw:=aF.length SX;replace lw:=eS ux lw;refine call_meets PySem.F.slot_list_extend (aj _ hp rfl) PySem.F.entry_list_extend (PySem.F.args_list_extend_2 _ _) (AutoSeq1.list_extend_list_tuple_0 (oa x) vs k b ws k2 (by exact aa lw (fits hz)) (by exact aa sizeLine_eq (OV lv hz)) (by exact aa sizeLine_eq (OW lv hz lw))) (aQ hp hb ?_);refine af (dJ G R1 hl (l':=l++r2) (by simp;exact OX hz) (f:=λx=>x++ws) (λvs _ h' c q=>by exact aa Array.toList_append (aF.append q (aF.chg c _ _ SX)))) ?_;intro a6 e1 R';replace e2:=eS e1 e2;refine aN e2 λah ak=>?_;clear e2;subst ah;subst ak;exact hQ _ rfl _ _ _ _ _ _ R'
     ·exact xNS e2
    |_=>exact xNS e2
   ·rw [if_neg hm,if_neg NX] at e;exact xNS e
 |a::b::r=>exact .stuck
theorem G9 {e:Expr}(h:j4 ae e=some (y,l)): ∃p ap pos,e= .Call (.Attribute (.Name y p) (ag "pop") ap) [] [] pos/\ae.om.lookup y=some (.list l)/\Ib (.Name y p) [] ap pos=true:=by
 refine af (aG h) λx h1 h=> ai (Dy h) λc h=> ai (tt c) λc c3=> ai (tt c) λc1 c2=> af (mX h) λp h2 h3=>?_;have h1:=j5 h1;rw [h2] at h1 c3;replace h1:=(qqM.mp c1)▸h1;replace h1:=(beq_iff_eq.mp c2)▸h1;exact(iD p _ _ h1 h3 c3)
theorem SY (G:c5 X A aq s0 aw env n d0 cl mk)(R:Run X ia aq s0 aw env Av oa m cm s H ae){e:Expr}{v:AV}(h:j4 ae e=some (y,l))(hv:l.getLast?=some v)
  (hQ: ∀u s1 aK,cw y (.list l.dropLast) ae H=some (.ok aK,H)->Run X ia aq s0 aw env Av oa m cm s1 H aK->VV X s1.heap Av v u->Q u s1):qq3 (qq5 X.P X.w) A (eval e env) Q E s:=by
 refine bT (G9 h) λp ap pos c8 hl fK=>?_;subst c8;refine l7 R hl fK PySem.F.slot_list_pop PySem.F.type_list_pop (ud ?_);refine ef (jv R.loc hl) λvs ah z rr lv av=>ac ah λk hp=>?_;have CL:l≠ []:=λq=>by replace hv:=q▸hv;exact xNS hv
 have ke:0<l.length:=List.length_pos_iff.mpr CL;have S_:l[l.length-1]? =some v:=by exact bq List.getLast?_eq_getElem? hv
 refine af (aF.getA _ rr S_) λu e1 e2=>?_;replace e1:=Eq.symm lv▸e1;refine call_meets PySem.F.slot_list_pop (aj _ hp rfl) PySem.F.entry_list_pop (PySem.F.args_list_pop_1 _) (MeetsSeq.list_pop_last (oa y) vs k u e1 (by exact aa sizeLine_eq (yL z lv))) ⟨hp,?_⟩;have hsz: ∀ws:Array qq0,s.heap.PlainList (oa y) ws->ws.size=vs.size:=λws hw=>by refine ac hw ?_;clear hw;intro k' hw;replace hw:=eS hp hw;refine al hw λah=>?_;clear hw;cases ah;rfl
 refine af (dJ G R hl (l':=l.dropLast) (by simp;exact Wc z) (f:=λxs=>xs.eraseIdxIfInBounds (vs.size-1)) (λws hw h' c q=>by
  have hs:=hsz ws hw;have lw:=aF.length q;have:(ws.eraseIdxIfInBounds (vs.size-1)).toList=ws.toList.take (l.length-1):=by
   refine bq hs ?_;delta Array.eraseIdxIfInBounds;refine aa (dif_pos (Wd lv ke hs)) (aa Array.toList_eraseIdx ?_);rewrite [List.eraseIdx_eq_take_drop_succ];have:ws.toList.drop (ws.size-1+1)= []:=by
    refine Iff.mpr List.drop_eq_nil_iff ?_;dsimp;exact We
   refine aa this ?_;rewrite [uN];exact aa hs (aa lv rfl)
  refine aa this (aa List.dropLast_eq_take ?_);exact aF.take _ q)) ?_;intro a6 g1 R'
 have c:dB s.heap Av (s.heap.update (oa y) (Obj.mapSeq λxs=>xs.eraseIdxIfInBounds (vs.size-1))) Av:=iU (qqC.update ..) av;exact hQ _ _ a6 g1 R' (VR.chg c _ _ e2)
theorem Run.size (s:qq1):s.heap.get? s.heap.objs.size=none:=aW (s2:=s) (λ_ _ e=>e) (ur _)
theorem Ta (G:c5 X A aq s0 aw env n d0 cl mk)(R:Run X ia aq s0 aw env Av oa m cm s H ae){h2:qqK}{tk:Nat}{x:Str}{a:qq7}(k: ∀b o,s.heap.get? b=some o->h2.get? b=some o)(na:s.heap.get? a=none)(lv: ∃o,h2.get? a=some o)
  (ho:oH X h2 (ins Av [a]) ob a env.locals):fX X A ia aq s0 aw env {s with heap:=h2,toks:=tk} H (qx2 env x (.ref a)) (jV x ob ae):=by
 have Rh:=R.hide (h':=h2) (tk:=tk) (Z:= [a]) k λb hb=>by exact aa (qq2.mp hb) (⟨na,lv⟩)
 have live: ∀b o,s.heap.get? b=some o->b≠a:=λb o e q=>by replace e:=q▸e;replace e:=eS na e;exact xNS e
 refine G6 G Rh (.inr (by exact .head _)) (λq=>?_) (λq=>?_) (λq=>?_) (λy q=>?_) ho λy ob' e q=>?_
 ·refine ac G.base λH0 B0=> ac (B0.live a q) λo h=>?_;replace h:=eS (R.gone na) h;exact xNS h
 ·exact aB R.loc.ns λo ah ak h be=> live _ _ h q.symm
 ·exact aB (R.base.hand.dict q) λo ah ak h be=> live _ _ h rfl
 ·exact af (R.loc.cells y a q) λo h ak=> live _ _ h rfl
 ·exact aU (R.loc.owns y ob' e) λaz av ak=> ac (R.base.live _ av) λo h=> live _ _ h q
def Tb (X:Cx)(A:qqG)(ia:qq7)(aq:List Env)(s0:qq1)(aw:qq7->Prop)(env:Env)(Av:qq7->Prop)(oa:Str->qq7)(m cm:Str->Option qq0)(ae:Loc)(s:qq1)(H:HS)(t:Sem qq0)(mm:M OB):Prop:=
 ∀r H',mm H=some (r,H')-> ∀(Q:qq0->qq1->Prop) (E:qq0->qq1->Prop),
  (∀ob,r= .ok ob-> ∀a s1 h2 tk,Ex X (aO (env::aq)) s s1->Run X ia aq s0 aw env Av oa m cm s1 H' ae->(∀b o,s1.heap.get? b=some o->h2.get? b=some o)->s1.heap.get? a=none->(∃o,h2.get? a=some o)->oH X h2 (ins Av [a]) ob a env.locals->Q (.ref a) {s1 with heap:=h2,toks:=tk})->
  (∀p,r= .error p-> ∀e s',de X s0 aq aw (env::aq) p H' e s'->E e s')->
  qq3 (qq5 X.P X.w) A t Q E s
set_option tactic.hygienic true in
theorem BK (G:c5 X A aq s0 aw env n d0 cl mk)(R:Run X ia aq s0 aw env Av oa m cm s H ae){es:List Expr}{p:Pos}:
  Tb X A ia aq s0 aw env Av oa m cm ae s H (eval (.List es p) env) (if fe es then M.bind (l_ X.C cl mk 3 es ae) λvs=>M.pure (.list vs) else stuck):=by
 intro r H' e Q E hQ hE;split at e
 ·rename_i Tc
  refine ai (iS Tc) λh1 h2=>(?_:qq3 _ _ (qqU p>>=λ_=>qzP (backTo p (qqO es env))>>=λvs=>newList vs) _ _ _);refine ua (qqF (ua ?_));have iV:=fy G.ev es 3 (pos:=p) R.base R.loc h1;refine b7 e ?_ ?_;intro q e1 ak;subst ak;rotate_left;intro vs H1 e1 e2;rotate_right
  ·exact iV _ _ e1 _ _ (λd q=>xE q) λp' q e' s' x y z=>hE p' (by refine jE q λah=>?_;clear q;subst ah;rfl) e' s' (R.err G x y z)
  ·refine aN e2 λah ak=>?_;clear e2;subst ah;subst ak;refine iV _ _ e1 _ _ (λd q us s1 x1 y1 z1=>?_) (λp q=>xO q);refine jO q λah=>?_;clear q;subst ah;have R1:=R.step G x1 y1;have lv:=aF.length z1;have le:=dg e1;refine wpAny_newList ?_ (by exact aa sizeLine_eq (Wf h2 lv le));have hs:=Run.size s1;refine hQ _ rfl _ s1 _ s1.toks x1 R1 (λb o e=>uc _ e) hs ⟨_,ue _ rfl⟩ (aV us.toArray ⟨0,ue _ rfl⟩ (My h2 le) ?_);exact aF.chg (λb o e n=>⟨uc _ e,λq=>by
    refine ui q (λq=>?_) λq=>?_
    ·exact n q
    ·replace e:=(qq2.mp q)▸e;replace e:=eS hs e;exact xNS e⟩) _ _ (by simpa using z1)
 ·exact xNS e
theorem Np (G:c5 X A aq s0 aw env n d0 cl mk)(R:Run X ia aq s0 aw env Av oa m cm s H ae){p:Pos}:
  Tb X A ia aq s0 aw env Av oa m cm ae s H (eval (.Dict [] [] p) env) (M.pure (.kd [])):=by
 intro r H' e Q E hQ hE;refine aN e λah ak=>?_;clear e;subst ah;subst ak;rw [eval_Dict_empty];refine ua (qqF ?_);delta newDict;refine qqA ?_ (by size_fits);exact hQ _ rfl _ s _ s.toks (.refl _ _) R (λb o e=>uc _ e) (Run.size s) ⟨_,ue _ rfl⟩ (cW ([]) (gG _ (#[]) 0 (ue _ rfl) (aQ rfl rfl rfl) rfl rfl (by simp) (by simp)) rfl .nil (by simp))
theorem Nq (G:c5 X A aq s0 aw env n d0 cl mk)(R:Run X ia aq s0 aw env Av oa m cm s H ae){f:Str}{x:Expr}{p pos:Pos}(hf:ec X.C ae f=some (.glob (.type "list")))(hx:aZ x=true):
  Tb X A ia aq s0 aw env Av oa m cm ae s H (eval (.Call (.Name f p) [x] [] pos) env) (M.bind (ev X.C cl mk 3 x ae) λv=>match v with
   | .tup l=>M.pure (.list l)|_=>stuck):=by
 intro r H' e Q E hQ hE;refine aa (eT (λo a p=>(λe=>by cases e))) ?_;have hn:=gp (A:=A) G.ev.O.toCxOk R.base R.loc (x:=f) (pos:=p);replace hn:=hf▸hn;refine ua (hn _ _ rfl _ _ (λd q u s1 x1 y1 z1=>?_) λp q=>xO q);refine jO q λah=>?_;clear q;subst ah;have z1:u= .type "list":=z1;subst z1;have R1:=R.step G x1 y1;have iV:=fy G.ev [x] 3 (pos:=pos) R1.base R1.loc (by simpa using hx);refine bG (cf (by simpa using hx)) (b7 e ?_ ?_);intro q e1 ak;subst ak;rotate_left;intro v H1 e1 e2;rotate_right
 ·refine iV (.error q) H' (by refine(?_:M.bind _ _ H=_);delta M.bind;exact aa e1 rfl) _ _ (λd q=>xE q) λp' q e' s' x y z=>?_;refine jE q λah=>?_;clear q;subst ah;exact hE _ rfl e' s' (R1.err G x y z)
 ·refine iV (.ok [v]) H1 (by refine(?_:M.bind _ _ H=_);delta M.bind;refine aa e1 ?_;rfl) _ _ (λd q vs s2 x2 y2 z2=>And.intro (bX λa q=>by cases q) ?_) λp q=>by exact xO q
  refine jO q λah=>?_;clear q;subst ah;refine af (aF.one z2) λu ah hu=>?_;subst ah;have R2:=R1.step G x2 y2
  induction v using AV.casesOn with
  |tup l=>
   refine aN e2 λah ak=>?_;clear e2;subst ah;subst ak;refine aP hu λa vs ak na be z rr=>ac be λk ho=>?_;clear be;subst ak;have lv:=aF.length rr;replace lv:=eS ux lv;refine call_list_seq a (.inr rfl) ho rfl rfl (λh' c' hk hg=>?_) (by exact aa sizeLine_eq (yL z lv));have hs:=Run.size s2;refine hQ _ rfl _ s2 _ s2.toks (x1.trans x2) R2 hk hs ⟨_,hg⟩ (aV vs ⟨_,hg⟩ z ?_);exact aF.chg (λb o e n=>⟨hk b o e,λq=>by
    refine ui q (λq=>?_) λq=>?_
    ·exact n q
    ·replace e:=(qq2.mp q)▸e;replace e:=eS hs e;exact xNS e⟩) _ _ rr
  |_=>exact xNS e2
theorem zU {p:List Int}{v:AV}: ∀{l:List (List Int×AV)},p∉l.map (·.1)->c_ p v l=l++ [(p,v)]
 | [],_=>rfl|(q,u)::r,h=>by
  simp only [ut,uY,not_or] at h;refine aa eQ (aa (if_neg (λe=>h.1 e.symm)) (aa (zU h.2) ?_));rfl
theorem nK {xs:List (List Int×qq7×qq0)}{p:List Int}:(atKey xs p).isSome=true↔p∈xs.map (·.1):=by
 delta atKey;refine aa vP (aa (propext List.find?_isSome) ?_);constructor
 ·rintro ⟨x,hx,e⟩;exact vM.mpr (aj x hx (of_decide_eq_true e))
 ·intro h;exact af (vM.mp h) λx hx e=>(aj x hx (decide_eq_true e))
theorem DX {p:List Int}{xs:List (List Int×qq7×qq0)}(h:p∉xs.map (·.1)):xs.map (putAt p v)=xs:=by
 induction xs with
 |nil=>rfl|cons x r ih=>
  simp only [ut,uY,not_or] at h;refine aa ut (aa (ih h.2) ?_);delta putAt;exact aa (if_neg (λe=>h.1 e.symm)) rfl
theorem zV {p:List Int}(hv:VV X h Av dv v): ∀{l:List (List Int×AV)} {xs:List (List Int×qq7×qq0)},xs.map (·.1)=l.map (·.1)->(xs.map (·.1)).Nodup->cu X h Av (l.map (·.2)) (xs.map (·.2.2))->p∈xs.map (·.1)->
  (xs.map (putAt p v)).map (·.1)=(c_ p dv l).map (·.1)/\cu X h Av ((c_ p dv l).map (·.2)) ((xs.map (putAt p v)).map (·.2.2))
 | [],[],_,_,_,hm=>by simp at hm
 | [],_::_,e,_,_,_=>by simp at e
 |_::_,[],e,_,_,_=>by simp at e
 |(q,u)::l,(k,a,w)::xs,e,nd,r,hm=>by
  simp only [ut,List.cons.injEq,vC] at e nd;refine a8 r λw' r' e3 h1 h2=>?_;simp only [ut,List.cons.injEq] at e3;refine ai e3 λaz ah=>?_;clear e3;subst az;subst ah;refine ai e ?_;clear e;intro az e;subst az;refine aa eQ ?_;by_cases hq:k=p
  ·subst hq;refine aa (if_pos rfl) ?_;rewrite [ut];refine aa (DX nd.1) ?_;delta putAt;refine aa (if_pos rfl) ?_;exact⟨by simp [e],.cons hv h2⟩
  ·refine aa (if_neg hq) ?_;rewrite [ut];have hm':p∈xs.map (·.1):=by
    simp only [ut,uY] at hm;refine ui hm (λhm=>?_) λhm=>?_
    ·exact absurd hm.symm hq
    ·exact hm
   refine ai (zV hv e nd.2 h2 hm') λi1 i2=>?_;have hp:putAt p v (k,a,w)=(k,a,w):=by delta putAt;exact aa (if_neg hq) rfl
   refine aa hp ?_;exact⟨by simp only [ut];refine aa i1 ?_;rfl,.cons h1 i2⟩
theorem Je {p:List Int}{a:qq7}(hv:VV X h Av dv v){l:List (List Int×AV)}{xs:List (List Int×qq7×qq0)}(e:xs.map (·.1)=l.map (·.1))(nd:(xs.map (·.1)).Nodup)(r:cu X h Av (l.map (·.2)) (xs.map (·.2.2)))(na: ¬Av a)(MZ: ∀x∈xs,¬Av x.2.1):
  (storedH xs p a v).map (·.1)=(c_ p dv l).map (·.1)/\cu X h Av ((c_ p dv l).map (·.2)) ((storedH xs p a v).map (·.2.2))/\ ∀x∈storedH xs p a v,¬Av x.2.1:=by
 by_cases hm:p∈xs.map (·.1)
 ·refine ac (Option.isSome_iff_exists.mp (nK.mpr hm)) λq hq=>?_;rw [storedH_old hq];refine ai (zV hv e nd r hm) λi1 i2=>(aQ i1 i2 (λx hx=>?_));refine af (vM.mp hx) λy hy ak=>?_;subst ak;have:=MZ y hy;delta putAt;split<;>exact this
 ·have hn:atKey xs p=none:=by
   cases q:atKey xs p with
   |none=>rfl|some z=>exact absurd (nK.mp (by refine aa q ?_;rfl)) hm
  rewrite [storedH_new hn];refine aa (zU (by exact bq e hm)) ?_;refine(aQ (by simp [e]) (by simpa using aF.append r (.single hv)) (λx hx=>?_));refine ui (vT.mp hx) (λhx=>?_) λhx=>?_
  ·exact MZ x hx
  ·exact aa (qq2.mp hx) na
theorem Df {k:Str}(hv:VV X h Av dv v): ∀{H:HS} {ws:List qq0},(H.map (·.1)).Nodup->ws.length=H.length->cu X h Av (H.map (·.2)) ws->
  (kQ k dv H).map (·.1)=H.map (·.1)/\((H.map (·.1)).zip ws).map (λkv=>if kv.1=k then(kv.1,v) else kv)=(H.map (·.1)).zip (((H.map (·.1)).zip ws).map (λkv=>if kv.1=k then v else kv.2))/\
  cu X h Av ((kQ k dv H).map (·.2)) (((H.map (·.1)).zip ws).map (λkv=>if kv.1=k then v else kv.2))/\(((H.map (·.1)).zip ws).map (λkv=>if kv.1=k then v else kv.2)).length=(kQ k dv H).length
 | [],ws,_,hl,r=>by
  have:ws= []:=List.eq_nil_of_length_eq_zero (by simpa using hl);subst this;exact(gF rfl rfl rfl rfl)
 |(q,u)::H,[],_,hl,_=>by simp at hl
 |(q,u)::H,w::ws,nd,hl,r=>by
  simp only [ut,vC] at nd;refine a8 r λw' r' e3 h1 h2=>?_;cases e3;refine gD (Df (k:=k) hv nd.2 (by simpa using hl) h2) λi1 i2 i3 i4=> aa mU ?_;by_cases hq:q=k
  ·subst hq;refine aa (if_pos rfl) ?_;have off: ∀{H:HS} {ws:List qq0},q∉H.map (·.1)->((H.map (·.1)).zip ws).map (λkv=>if kv.1=q then v else kv.2)=((H.map (·.1)).zip ws).map (·.2):=by
    intro H ws hn;refine List.map_congr_left λkv MP=>?_;have:kv.1∈H.map (·.1):=(List.of_mem_zip (a:=kv.1) (b:=kv.2) MP).1;exact aa (if_neg (λ(z:kv.1=q)=>hn (z▸this))) rfl
   refine(gF rfl ?_ ?_ ?_)
   ·simp only [ut,uU,if_true];exact aa i2 rfl
   ·simp only [ut,uU,if_true];refine aa (off nd.1) (aa (List.map_snd_zip (by simp;simp at hl;exact Io hl)) ?_);exact .cons hv h2
   ·simp only [ut,uU,if_true,uT,uQ,vU];simp at hl;exact Wg hl
  ·refine aa (if_neg hq) (gF (by simp only [ut];exact aa i1 rfl) ?_ ?_ ?_)
   ·simp only [ut,uU,if_neg hq];exact aa i2 rfl
   ·simp only [ut,uU,if_neg hq];exact .cons h1 i3
   ·simp only [ut,uU,uT] at i4⊢;exact aa i4 rfl
theorem nM {k:Str}(hd:(jc dv).isSome=true): ∀{H:HS},(∀x∈H,(jc x.2).isSome=true)-> ∀x∈kQ k dv H,(jc x.2).isSome=true
 | [],_,x,hx=>OC hx|(q,u)::H,h,x,hx=>by
  replace hx:=mU▸hx;by_cases q0:q=k
  ·replace hx:=(if_pos q0)▸hx;refine ui (uY.mp hx) ?_ ?_;intro az;subst az;rotate_left;intro hx;rotate_right
   ·exact hd
   ·exact h x (uz _ hx)
  ·replace hx:=(if_neg q0)▸hx;refine ui (uY.mp hx) ?_ ?_;intro az;subst az;rotate_left;intro hx;rotate_right
   ·exact h (q,u) uE
   ·exact nM hd (λy hy=>h y (uz _ hy)) x hx
theorem mw {P:qzJ}{w:World}{E:qq0->qq1->Prop}{l:qq7}{items:Array qq0}{k:Int}{t:Tok}{v:qq0}{Q:Unit->qq1->Prop}(hp:s.heap.PlainList l items)
  (h0:0<=k) (Xc:k<2^63) (hn:k.toNat<items.size)
  (hQ:Q () {s with heap:=s.heap.update l (Obj.mapSeq (·.setIfInBounds k.toNat v))}):
  qq3 (qq5 P w) A (setItem (.ref l) (.int k t) v) Q E s:=by
 refine ac hp λne ho=>?_;have hl:s.heap.IsList l items:=⟨_,ho,rfl,ne,rfl⟩;delta setItem
 try with_reducible refine qq8 ?_
 first|refine bp ?_|skip
 refine ua (wpAny_sequenceKey hl.typeIs (by rfl) ?_);refine ua (wpAny_callSpecial?_slot (name:=qqH "__setitem__") hl.typeIs slot_list_setitem
  (qqD slot_list_setitem hl.typeIs entry_list_setitem ?_ (args_list_setitem _ _ _)))
 refine(?_:qq3 _ _ (Builtin.List.listSubscript? (.int k t)>>=_) _ _ s);refine ua (wpAny_listSubscript_int (fitsIndex_of h0 Xc) ?_);refine ac (Int.eq_ofNat_of_zero_le h0) λj ah=>?_;subst ah;have hj:j<items.size:=by simpa using hn
 have iz:items[j]? =some items[j]:=Array.getElem?_eq_getElem hj;refine(?_:qq3 _ _ ((seqItemAt l j>>=λr=>pure (r.map (j,·)))>>=_) _ _ s);refine ua (ua (wpAny_seqItemAt ho rfl (ud ?_)));refine aa iz (?_:qq3 _ _ (setSeqItemAt l j v>>=_) _ _ s);refine ua (wpAny_setSeqItemAt ho rfl ?_)
 first
  |exact bp (ud (aj .none rfl (ud hQ)))
  |exact ud ⟨.none,rfl,ud hQ⟩
theorem fX.bind_own (G:c5 X A aq s0 aw env n d0 cl mk)(R:Run X ia aq s0 aw env Av oa m cm s H ae){o i:Expr}{x:Str}{f:AV->M Loc}(ho:ownOf ae o=some (x,ob))
  (h: ∀iv u s1 H1,Ex X (aO (env::aq)) s s1->Run X ia aq s0 aw env Av oa m cm s1 H1 ae->VV X s1.heap Av iv u->fX X A ia aq s0 aw env s1 H1 (setItem (.ref (oa x)) u v) (f iv)):
  fX X A ia aq s0 aw env s H (assign (.Subscript o i pos) env v) (M.bind (ev X.C cl mk 3 i ae) f):=by
 refine af (da ho) λp ah hl=>?_;subst ah;intro r H' e Q E hQ hE;refine(?_:qq3 _ _ (holding [v] (eval (.Name x p) env)>>=λov=>holding [v,ov] (eval i env)>>=λiv=>qqU pos>>=λ_=>holding [v,ov,iv] (setItem ov iv v)>>=λ_=>release _ []) Q E s);refine ua (qq8 (hY R.loc hl (ua (qq8 ?_))));have iV:=bc G.ev i 3 R.base R.loc;refine b7 e ?_ ?_;intro q e1 ak;subst ak;rotate_left;intro iv H1 e1 e2;rotate_right
 ·exact iV _ _ e1 _ _ (λd q=>xE q) λp' q e' s' x y z=>hE p' (by refine jE q λah=>?_;clear q;subst ah;rfl) e' s' (R.err G x y z)
 ·refine iV _ _ e1 _ _ (λd q u s1 x1 y1 z1=>?_) (λp q=>xO q);refine jO q λah=>?_;clear q;subst ah;have R1:=R.step G x1 y1;refine ua (qqF (ua (qq8 ?_)));exact h iv u s1 H1 x1 R1 z1 r H' e2 _ _ (λa6 q u' s2 Av oa m cm R2=>wpAny_release' (hQ a6 q () s2 Av oa m cm R2)) hE
theorem fX.guard {t:Sem γ}{c:Prop} [Decidable c]{mm:M Loc}(h:c->fX X A ia aq s0 aw env s H t mm):fX X A ia aq s0 aw env s H t (if c then mm else Internal.stuck):=by
 by_cases q:c
 ·exact aa (if_pos q) (h q)
 ·exact aa (if_neg q) .stuck
theorem Nr (G:c5 X A aq s0 aw env n d0 cl mk)(R1:Run X ia aq s0 aw env Av oa m cm s H ae){x:Str}{l:List (List Int×AV)}{iv dv:AV}(hl:ae.om.lookup x=some (.kd l))(hu:VV X s.heap Av iv u)(hv:VV X s.heap Av dv v):
  fX X A ia aq s0 aw env s H (setItem (.ref (oa x)) u v) (match d4 iv with
   |some p=>if l.length<1000 then cw x (.kd (c_ p dv l)) ae else stuck
   | .none=>stuck):=by
 refine cO (d4 iv) (λhp=>?_) λq hp=>?_
 ·exact aa hp (λr H' e=>xNS e)
 refine aa hp (fX.guard (c:=l.length<1000) λhz r H' e Q E hQ hE=> aC (zO hp hu) λb hb nb hk=> bb (R1.loc.owns x _ hl) λa1 a2 a3 a4 aI=>c7 aI λxs hd e1 rr av=>?_);have eJ:xs.length=l.length:=by have:=congrArg List.length e1;simpa using this
 have nd:(xs.map (·.1)).Nodup:=by exact eh hd λaz ah ak c8 be dX D5 mY h=> h
 refine aa hb (wpAny_setItem_heap (LP G.ev.OA) hk hd (λh' fF hs=>?_) (by exact aa sizeLine_eq (Wh hz eJ)));have c:dB s.heap Av h' Av:=iU hs a2;have hv':VV X h' Av dv v:=VR.chg c _ _ hv;obtain⟨k1,k2,k3⟩:=Je (a:=b) hv' e1 nd (aF.chg c _ _ rr) nb av;refine af (G7 G R1 hl (ob':= .kd (c_ q dv l)) rfl rfl (s':={s with heap:=h',toks:=s.toks+(tupleKind (intKind X.P X.w)).draws q}) (pw hs (aB fF λo _ _ ho _=>⟨o,ho⟩)) (cW _ fF k1 k2 k3)) λa6 g1 R'=> aN (g1.symm.trans e) λah ak=>?_;subst ah;subst ak;exact hQ _ rfl _ _ _ _ _ _ R'
theorem GA (G:c5 X A aq s0 aw env n d0 cl mk)(R1:Run X ia aq s0 aw env Av oa m cm s H ae){x:Str}{k:Int}(hl:ae.om.lookup x=some (.list l))(hu:VV X s.heap Av (.int k) u)(hv:VV X s.heap Av dv v):
  fX X A ia aq s0 aw env s H (setItem (.ref (oa x)) u v) (if 0<=k/\k.toNat<l.length then cw x (.list (l.set k.toNat dv)) ae else stuck):=by
 refine fX.guard (c:=0<=k/\k.toNat<l.length) λhk r H' e Q E hQ hE=> ac hu ?_;clear hu;intro t hu;refine ef (jv R1.loc hl) λvs hp z rr lv av=> aa hu (mw hp hk.1 (Wi hk z) (by exact aa lv hk.2) ?_);refine af (dJ G R1 hl (l':=l.set k.toNat dv) (by simpa using z) (f:=λxs=>xs.setIfInBounds k.toNat v) (λws hw h' c q=>by
  exact aa Array.toList_setIfInBounds (aF.set _ q (VR.chg c _ _ hv)))) ?_;intro a6 g1 R'
 refine aN (g1.symm.trans e) λah ak=>?_;subst ah;subst ak;exact hQ _ rfl _ _ _ _ _ _ R'
theorem GB (G:c5 X A aq s0 aw env n d0 cl mk)(R2:Run X ia aq s0 aw env Av oa m cm s H ae){k:Str}{u w v:qq0}{vs rv:List qq0}(hu:VV X s.heap Av .hand u)(hw:VV X s.heap Av (.str k) w)(hv:VV X s.heap Av dv v):
  fX X A ia aq s0 aw env s H (holding vs (setItem u w v)>>=λ_=>release rv []) (M.bind Dx λH=>if(H.lookup k).isSome && (jc dv).isSome && decide (H.length<=1000) then M.bind (Mp (kQ k dv H)) λ_=>M.pure ae else stuck):=by
 intro r H' e Q E hQ hE;refine af hu ?_;clear hu;intro a ha hu;refine ac hw ?_;clear hw;intro t hw;have e:(if(H.lookup k).isSome && (jc dv).isSome && decide (H.length<=1000) then M.bind (Mp (kQ k dv H)) λ_=>M.pure ae else stuck) H=some (r,H'):=e;refine cB ((H.lookup k).isSome && (jc dv).isSome && decide (H.length<=1000)) (λhc=>?_) λhc=>?_
 ·replace e:=hc▸e;refine ai (tt hc) λhc hsz=> ai (tt hc) λW8 M8=>?_;have hsz:=of_decide_eq_true hsz;have hh:=R2.base.hand;unfold au at hh;replace hh:=ha▸hh;refine ai hh λav aI=>c7 aI λws hd eJ rr dt=>?_;have Dg:(H.map (·.1)).length=ws.length:=by rewrite [uQ];exact aa eJ rfl
  have hzl:((H.map (·.1)).zip ws).length=H.length:=by refine aa vU (bq Dg ?_);rewrite [Nat.min_self,uQ];rfl
  have nd:(H.map (·.1)).Nodup:=by
   refine eh hd λaz ah ak c8 be dX D5 mY h=>?_
   rwa [vo (uC Dg)] at h
  refine aa hu (aa hw ?_);refine ua (qq8 (wpAny_setItem_pairs cb hd (λh' fF hs=>wpAny_release' ?_) (by refine aa sizeLine_eq (aa hzl ?_);exact o0 hsz)));have c:dB s.heap Av h' Av:=iU hs av;refine gD (Df (k:=k) (VR.chg c _ _ hv) nd eJ (aF.chg c _ _ rr)) λk1 k2 k3 k4=>?_;have any:((H.map (·.1)).zip ws).any (λkv=>kv.1=k)=true:=by
   refine ac (Option.isSome_iff_exists.mp W8) λd hd=> ac (List.getElem_of_mem (vM.mpr (aj ((k,d)) (mem_of_lookup hd) rfl):k∈H.map (·.1))) λj aI=>ac aI λhj ej=> Iff.mpr List.any_eq_true ?_;exact⟨((H.map (·.1))[j],ws[j]'(Dg▸hj)),List.mem_iff_getElem.mpr ⟨j,by rw [vU,<-Dg,Nat.min_self];exact hj,List.getElem_zip⟩,decide_eq_true ej⟩
  have kk: ∀b o,s.heap.get? b=some o->X.aH≠some b->h'.get? b=some o:=λb o e n1=>(hs.2 b λq=>n1 (by exact aa ha (aa q rfl))).trans e;have y:Ex X (aO (env::aq)) s {s with heap:=h',toks:=s.toks+1}:=⟨λb o e n1 _=>kk b o e n1,λb o e n1 _=>⟨o.slots,kk b o e n1⟩,rfl,rfl⟩;have hr:r= .ok ae/\H'=kQ k dv H:=by refine aN e λah ak=>?_;clear e;subst ah;subst ak;exact⟨rfl,rfl⟩
  refine hQ ae hr.1 () _ Av oa m cm (R2.step G y ?_);delta au;refine aa ha (aa hr.2 ?_);refine⟨av,_,?_,k4,k3,nM M8 dt⟩;refine aa k1 (bq k2 ?_);unfold stored at fF;replace fF:=(if_pos any)▸fF;exact fF
 ·replace e:=hc▸e;exact xNS e
theorem Td (G:c5 X A aq s0 aw env n d0 cl mk)(R:Run X ia aq s0 aw env Av oa m cm s H ae){o i:Expr}(hv:VV X s.heap Av dv v):
  fX X A ia aq s0 aw env s H (assign (.Subscript o i pos) env v) (eP X.C cl mk o i dv ae):=by
 delta eP;cases ho:ownOf ae o with
 |some xo=>
  obtain⟨x,ob⟩:=xo;refine af (da ho) λp hop hl=>?_
  induction ob using OB.casesOn with
  |kd l=>exact .bind_own G R ho λiv u s1 H1 x1 R1 hu=>Nr G R1 hl hu (VR.chg (R.base.chg x1) _ _ hv)
  |list l=>
   refine .bind_own G R ho λiv u s1 H1 x1 R1 hu=>?_
   induction iv using AV.casesOn with
   |int k=>exact GA G R1 hl hu (VR.chg (R.base.chg x1) _ _ hv)|_=>exact λr H' e=>xNS e
  |inst c ks vs=>exact .stuck
 |none=>
  refine(?_:fX X A ia aq s0 aw env s H (holding [v] (eval o env)>>=λov=>holding [v,ov] (eval i env)>>=λiv=>qqU pos>>=λ_=>holding [v,ov,iv] (setItem ov iv v)>>=λ_=>release _ []) _);refine .bind G R (.holding (bc G.ev o 3 R.base R.loc)) λov u s1 H1 x1 R1 hu=> .bind G R1 (.holding (bc G.ev i 3 R1.base R1.loc)) λiv w s2 H2 x2 R2 hw=>.stand ?_
  induction ov using AV.casesOn with
  |hand=>
   induction iv using AV.casesOn with
   |str k=>exact GB G R2 (VR.chg (R1.base.chg x2) _ _ hu) hw (VR.chg (R1.base.chg x2) _ _ (VR.chg (R.base.chg x1) _ _ hv))|_=>exact λr H' e=>xNS e
  |_=>exact λr H' e=>xNS e
theorem Jf {tk:Tok}{v:qq0}(KI:K.In s.heap)(I:InstAt s.heap x ox C (some (dictOf es n)))(hd:ox.dict=some dx)(D:s.heap.get? dx=some (dictOf es n))
  (hp:plainOver K C=true) (ht:takerIn K C name=some none) (hh:hasDictIn K C=true) (hr:es.any (·.refKey)=false) (hz:es.length<1000)
  (h:R (.ok (.ret .none)) {s with heap:=s.heap.update dx (Obj.putName name (PyData.keyHash w.params name) (.str name s.toks) v),toks:=s.toks+1}):
  qzZ (qq5 P w) A (.call (.builtin "object.__setattr__") ⟨[.ref x,.str name tk,v],[]⟩) R s:=by
 refine osa_open KI I hp ht λb=> af (any_some hh) λcd hc fF=>?_;have e:=putName_dict name (PyData.keyHash w.params name) (.str name s.toks) v es n;have D':=uw (Obj.putName name (PyData.keyHash w.params name) (.str name s.toks) v) D (by refine aa e ?_;rfl);replace D':=e▸D';obtain⟨hx,mZ,hn,-⟩:=I;obtain⟨oc,Zb,Zc,Gl⟩:=ox;dsimp only at mZ hd;subst mZ hd;refine bp (ua (ua (qzO hx (ua ((looks_clsIn KI hc).here ?_)))));refine aa fF (ud (a:=some dx) (bp (ua ?_)));delta nsSet;refine ua (ua (qz2 (ud (ua (wpAny_mkText (ua (qzO D ?_)))))));refine(?_:qq3 _ _ (match(dictOf es n).data with|_=>_) _ _ _);dsimp only [dictOf];have c:(!es.toArray.any (·.key.isStr name) && es.toArray.any (·.refKey))=false:=by
  refine aa qxH (aa qxH ?_);refine aa hr ?_;rewrite [qxB];rfl
 rewrite [aRefKeyMayBeTheName_at];refine aa c (wpAny_updatePart D ?_);refine ua (wpAny_lookBehind D' (by
  refine pastItsLine_dict (aa ve (aa sizeLine_eq ?_));have: ∀(l:List DictEntry),(putL name (PyData.keyHash w.params name) (.str name s.toks) v l).length<=l.length+1:=by
   intro l
   induction l with
   |nil=>exact ur _|cons a r ih=>unfold putL;split<;>simp at* <;>exact OY ih
  have:=this es;exact OT hz this) ?_)
 exact ud h
theorem nN {hsh:Int}{tk:Tok}(hv:VV X h Av dv v): ∀{ks:List Str} {vs:List AV} {ts:List Tok} {es:List DictEntry} {ks':List Str} {vs':List AV},ts.length=ks.length->es.map (·.key)=(ks.zip ts).map (λx=>qq0.str x.1 x.2)->cu X h Av vs (es.map (·.val))->Dz name dv ks vs=some (ks',vs')->
  (∃Oi:List Tok,Oi.length=ks'.length/\(putL name hsh (.str name tk) v es).map (·.key)=(ks'.zip Oi).map (λx=>qq0.str x.1 x.2))/\cu X h Av vs' ((putL name hsh (.str name tk) v es).map (·.val))
 | [],vs,ts,es,ks',vs',ht,he,r,e=>by
  have Tc:es= []:=by
   induction ts using List.casesOn with
   |nil=>simpa using he|cons _ _=>simp at ht
  subst Tc
  induction vs using List.casesOn with
  |nil=>
   refine aN (show some ([name],[dv])=some (ks',vs') from e) λah ak=>?_;subst ah;subst ak;exact⟨(aj ([tk]) rfl rfl),.single hv⟩
  |cons _ _=>exact xNS e
 |k::ks,vs,ts,es,ks',vs',ht,he,r,e=>by
  induction ts using List.casesOn with
  |nil=>simp at ht|cons t ts=>
   induction es using List.casesOn with
   |nil=>simp at he|cons en es=>
    induction vs using List.casesOn with
    |nil=>exact xNS e|cons u us=>
     refine a8 r λw r' e3 h1 h2=>?_;simp only [ut,List.cons.injEq] at e3;refine ai e3 λaz ah=>?_;clear e3;subst az;subst ah;simp only [ut,uU,List.cons.injEq] at he;refine ai he ?_;clear he;intro hk he;have e:(if k=name then some (k::ks,dv::us) else(Dz name dv ks us).map λp=>(k::p.1,u::p.2))=some (ks',vs'):=e;have hs:en.key.isStr name=decide (k=name):=by
      refine aa hk ?_;dsimp only [qq0.isStr];by_cases q:k=name
      ·subst q;rfl
      ·rfl
     unfold putL;by_cases q:k=name
     ·subst q;replace e:=eS (if_pos rfl) e;refine aN e λah ak=>?_;clear e;subst ah;subst ak;simp only [hs,decide_true,if_true];exact⟨(aj (t::ts) (by simpa using ht) (by simp [hk,he])),.cons hv h2⟩
     ·replace e:=eS (if_neg q) e;simp only [hs,q,decide_false,uX,if_false];refine af (d5 e) λaz e1 e2=>?_;obtain⟨a,b⟩:=az;refine yJ e2 λah ak=>?_;clear e2;subst ah;subst ak;obtain⟨⟨Oi,i1,i2⟩,i3⟩:=nN hv (ks:=ks) (ts:=ts) (es:=es) (by simpa using ht) he h2 e1;exact⟨(aj (t::Oi) (by simp [i1]) (by simp [hk,i2])),.cons h1 i3⟩
theorem Nt (G:c5 X A aq s0 aw env n d0 cl mk)(R:Run X ia aq s0 aw env Av oa m cm s H ae){x:Str}{ks ks':List Str}{vs vs':List AV}(hl:ae.om.lookup x=some (.inst c ks vs))(hd:s.heap.get? (oa x)=some (qz1 c dx))(hdx: ∃o,s.heap.get? dx=some o/\o.cls= .type "dict"/\ ∃es k,o.data= .dict es k)(st:dY (· =dx) s s')
  (ho:oH X s'.heap Av (.inst c ks' vs') (oa x) env.locals):
  ∃a6,cw x (.inst c ks' vs') ae H=some (.ok a6,H)/\Run X ia aq s0 aw env Av oa m cm s' H a6:=by
 refine bb (R.loc.owns x _ hl) λa1 a2 a3 a4 aI=>eh aI λEC es k av nl nh g1 g2 r=>?_;replace g1:=eS hd g1;refine al g1 λah=>?_;clear g1;cases ah;refine(aj ({ae with om:=bH x (.inst c ks' vs') ae.om}) (by delta cw;refine aa hl ?_;rfl) ?_);have cg:dB s.heap Av s'.heap Av:=st.chg λb q=>by exact aa q av
 refine aC hdx λodx Nu mZ aI=>aX aI λedx kdx Zj=>?_;have fm:lW s s':=λb o e hf=>by
  by_cases q:b=dx
  ·subst q;replace e:=eS Nu e;refine al e λah=>?_;clear e;subst ah;exact absurd hf.1 (by refine aa mZ ?_;simp)
  ·exact(aj o (st.keep b o q e) hf)
 have L:=R.loc;have a0:s0.heap.get? dx=none:=by
  refine ui (R.fresh _ av) (λq=>?_) λq=>?_
  ·exact absurd q (R.ownD x c ks vs dx hl hd).1
  ·exact q
 have only: ∀y gw,ae.om.lookup y=some gw->y=x:=λy gw e=>(L.solo x y c ks vs gw hl e).symm;have l8: ∀y gw,(bH x (OB.inst c ks' vs') ae.om).lookup y=some gw->y=x/\gw= .inst c ks' vs':=λy gw e=>by
  replace e:=eS aT e;by_cases q:y=x
  ·replace e:=eS (if_pos q) e;refine al e λah=>?_;clear e;subst ah;exact⟨q,rfl⟩
  ·replace e:=eS (if_neg q) e;exact absurd (only y _ e) q
 refine R.wrote G st (λb q=>by refine aa q ?_;exact⟨av,a0⟩) fm
  {kind:=L.kind,glb:=L.glb,bi:=L.bi,dbg:=L.dbg,cdt:=L.cdt,kinds:=L.kinds,ns:= ?_,cells:=λy cc e=>?_,hasc:=L.hasc,avL:=L.avL,avC:=L.avC,apart:=L.apart,vals:=λy d e=>af (L.vals y d e) λv h1 h2=>(aj v h1 (VR.chg cg _ _ h2)),owns:=λy gw e=>?_,inj:=λy z gw Jd e1 e2 q=>?_,solo:=λy z cc ks vs gw e1 e2=>?_,nL:=L.nL} (λy gw e=>?_) λy cc ks2 Xd dx2 e h=>?_
 ·exact aB L.ns λo es ep ho r=>(ct o es ep (st.keep _ _ (λq=>nl q.symm) ho) r)
 ·refine af (L.cells y cc e) λo ho hd=>(aj o (st.keep _ _ (λq=>?_) ho) hd);subst q;replace ho:=eS Nu ho;refine al ho λah=>?_;clear ho;subst ah;replace hd:=eS Zj hd;cases hd
 ·refine ai (l8 y gw e) λaz ah=>?_;subst az;subst ah;exact(cV a1 a2 a3 a4 ho)
 ·exact aa (l8 y gw e1).1 (aa (l8 z Jd e2).1 rfl)
 ·exact aa (l8 y _ e1).1 (aa (l8 z gw e2).1 rfl)
 ·exact aa (l8 y gw e).1 (R.own x _ hl)
 ·refine ai (l8 y _ e) λaz q=>?_;subst az;cases q;have:oa y≠dx:=λq=>by replace hd:=q▸hd;replace hd:=eS Nu hd;refine al hd λah=>?_;clear hd;subst ah;cases Zj
  have:=st.keep _ _ this hd;replace this:=eS h this;refine al this λah=>?_;clear this;cases ah;exact R.ownD y c ks vs _ hl hd
theorem Jg {a:Str}(h:(nB K pf names).seta c a=true):
  findIn K (.ref c) "__setattr__"=some (some (.builtin "object.__setattr__"))/\plainOver K c=true/\takerIn K c a=some none/\hasDictIn K c=true:=by
 exact(gF (beq_iff_eq.mp (tt (tt (tt h).1).1).1) (tt (tt (tt h).1).1).2 (beq_iff_eq.mp (tt (tt h).1).2) (tt h).2)
theorem BL {ts:List Tok}(hl:ts.length=ks.length)(he:es.map (·.key)=(ks.zip ts).map (λx=>qq0.str x.1 x.2)):es.any (·.refKey)=false/\es.length=ks.length:=by
 refine⟨?_,?_⟩
 ·refine Iff.mpr List.any_eq_false ?_;intro en hen;have:en.key∈(ks.zip ts).map (λx=>qq0.str x.1 x.2):=by exact bq he (vM.mpr (aj en hen rfl))
  refine af (vM.mp this) λy ah hy=>?_;delta DictEntry.refKey;refine bq hy ?_;simp
 ·have:=congrArg List.length he;simp [hl] at this;exact this
set_option tactic.hygienic true in
theorem DY (G:c5 X A aq s0 aw env n d0 cl mk)(R:Run X ia aq s0 aw env Av oa m cm s H ae){a:Str}(hv:VV X s.heap Av dv v):
  fX X A ia aq s0 aw env s H (assign (.Attribute o a pos) env v) (match ownOf ae o with
  |some (x,.inst c ks vs)=>if X.C.seta c a && decide (ks.length<1000) then(match Dz a dv ks vs with
   |some (ks',vs')=>cw x (.inst c ks' vs') ae| .none=>stuck) else stuck
  |_=>stuck):=by
 cases ho:ownOf ae o with
 |none=>exact .stuck|some xo=>
  obtain⟨x,ob⟩:=xo;refine af (da ho) λp ah hl=>?_;subst ah
  induction ob using OB.casesOn with
  |list _=>exact .stuck|kd _=>exact .stuck|inst c ks vs=>
   dsimp only;intro r H' e Q E hQ hE;split at e
   ·rename_i hc
    simp only [uv,decide_eq_true_eq] at hc;refine ai hc ?_;clear hc;intro hc eJ;refine cO (Dz a dv ks vs) (λhi=>?_) λkv hi=>?_
    ·replace e:=hi▸e;exact xNS e
    ·obtain⟨ks',vs'⟩:=kv;replace e:=hi▸e;dsimp only at e;refine bb (R.loc.owns x _ hl) λa1 a2 a3 a4 aI=>d9 aI λdx es k av nl nh g1 g2 Y4 rr=> af Y4 λts t1 t2=> aX G.ev.O.cfg λpf names gA=>?_;replace hc:=gA▸hc;refine gD (Jg hc) λc1 c2 c3 c4=>?_;have KI:=Gp G.ev.O.toCxOk R.base;have I:=pg g1 g2;refine ai (BL t1 t2) λnr le=>?_;rw [assign_Attribute];refine ua (qq8 (hY R.loc hl (ua (qqF (ua (qq8 ?_))))));refine set_plain KI I c1 (Jf (s:={s with toks:=s.toks+1}) KI I rfl g2 c2 c3 c4 nr (Wj eJ le) (wpAny_release' ?_));generalize hf:Obj.putName a (PyData.keyHash X.w.params a) (.str a (s.toks+1)) v=f;have hs:qqC dx s.heap (s.heap.update dx f):=qqC.update ..;have Zk:(s.heap.update dx f).get? dx=some (dictOf (putL a (PyData.keyHash X.w.params a) (.str a (s.toks+1)) v es) (putN a es k)):=by
      refine aa (uw f g2 (by refine bq hf ?_;rewrite [putName_dict];rfl)) ?_;refine bq hf ?_;rewrite [putName_dict];rfl
     have cg:dB s.heap Av (s.heap.update dx f) Av:=iU hs av;refine ai (nN (hsh:=PyData.keyHash X.w.params a) (tk:=s.toks+1) (VR.chg cg _ _ hv) t1 t2 (aF.chg cg _ _ rr) hi) λaz i3=>af az λOi i1 i2=>?_;have ne:oa x≠dx:=λq=>by replace g1:=q▸g1;replace g1:=eS g2 g1;refine al g1 λah=>?_;clear g1;cases ah
     refine af (Nt G R hl g1 ⟨_,g2,rfl,_,_,rfl⟩ (s':={s with heap:=s.heap.update dx f,toks:=s.toks+1+1}) (pw hs ⟨_,Zk⟩) (ks':=ks') (vs':=vs')
      (fO dx _ _ av nl nh (by refine(?_:(s.heap.update dx f).get? _=_);exact aa (hs.2 _ ne) g1) Zk (aj Oi i1 i2) i3)) ?_;intro a6 q1 R'
     replace e:=eS q1 e;refine aN e λah ak=>?_;clear e;subst ah;subst ak;exact hQ _ rfl _ _ _ _ _ _ R'
   ·exact xNS e
end
section
variable {X:Cx}{A:qqG}{ia:qq7}{aq:List Env}{s0 s s':qq1}{aw Av Av':qq7->Prop}{H H':HS}{env:Env}{oa Of:Str->qq7}{ae a6:Loc}{m cm m' dc:Str->Option qq0}{n d0:Nat}{cl mk:qq7->List AV->M AV}{pos tp px:Pos}{v:qq0}{y:Str}{Z:List qq7}{s1 s2:qq1}{args:List AV}{c b fi:qq7}{k:Nat}{body:List Stmt}{Q:Flow->qq1->Prop}{vs:Array qq0}{ts:List Expr}{ix:qq7->Prop}{ox:Obj}{od:Option qq7}{sl:Array (Option qq0)}{cd:ClassData}
def t5 (X:Cx)(A:qqG)(ia:qq7)(aq:List Env)(s0:qq1)(aw:qq7->Prop)(env:Env)(s:qq1)(H:HS)(t:Sem qq0)(k:qq0->Sem Unit)(mm:M Loc):Prop:=
 ∀r H',mm H=some (r,H')-> ∀(Q:Unit->qq1->Prop) (E:qq0->qq1->Prop),
  (∀a6,r= .ok a6-> ∀s' Av oa m cm,Run X ia aq s0 aw env Av oa m cm s' H' a6->Q () s')->
  (∀p,r= .error p-> ∀e s',de X s0 aq aw (env::aq) p H' e s'->E e s')->
  qq3 (qq5 X.P X.w) A t (λv s1=>qq3 (qq5 X.P X.w) A (k v) Q E s1) E s
theorem t5.ev (G:c5 X A aq s0 aw env n d0 cl mk)(R:Run X ia aq s0 aw env Av oa m cm s H ae){e:Expr}{k:qq0->Sem Unit}{f:AV->M Loc}
  (h: ∀v u s1 H1,Ex X (aO (env::aq)) s s1->Run X ia aq s0 aw env Av oa m cm s1 H1 ae->VV X s1.heap Av v u->fX X A ia aq s0 aw env s1 H1 (k u) (f v)):t5 X A ia aq s0 aw env s H (eval e env) k (M.bind (ev X.C cl mk 3 e ae) f):=by
 intro r H' e' Q E hQ hE;have iV:=bc G.ev e 3 R.base R.loc;refine b7 e' ?_ ?_;intro p e1 ak;subst ak;rotate_left;intro a H1 e1 e2;rotate_right
 ·exact iV _ _ e1 _ _ (λd q=>xE q) λp' q e' s' x y z=>hE p' (by refine jE q λah=>?_;clear q;subst ah;rfl) e' s' (R.err G x y z)
 ·refine iV _ _ e1 _ _ (λd q v s1 x1 y1 z1=>?_) (λp q=>xO q);refine jO q λah=>?_;clear q;subst ah;exact h a v s1 H1 x1 (R.step G x1 y1) z1 r H' e2 Q E (λa6 q u s' Av oa m cm R'=>hQ a6 q s' Av oa m cm R') hE
theorem t5.new (G:c5 X A aq s0 aw env n d0 cl mk){t:Sem qq0}{mm:M OB}{x:Str}{p:Pos}(h:Tb X A ia aq s0 aw env Av oa m cm ae s H t mm):t5 X A ia aq s0 aw env s H t (assign (.Name x p) env) (M.bind mm λob=>jV x ob ae):=by
 intro r H' e' Q E hQ hE;refine b7 e' ?_ ?_;intro q e1 ak;subst ak;rotate_left;intro ob H1 e1 e2;rotate_right
 ·exact h _ _ e1 _ _ (λd q=>xE q) λp' q e' s' z=>hE p' (by refine jE q λah=>?_;clear q;subst ah;rfl) e' s' z
 ·refine h _ _ e1 _ _ (λob' q a s1 h2 tk x1 R1 k na lv ho=>?_) λp q=>by exact xO q
  refine jO q λah=>?_;clear q;subst ah;exact qzW (Ta G R1 k na lv ho r H' e2 Q E (λa6 q u s' Av oa m cm R'=>hQ a6 q s' Av oa m cm R') hE)
theorem t5.pop (G:c5 X A aq s0 aw env n d0 cl mk)(R:Run X ia aq s0 aw env Av oa m cm s H ae){e:Expr}{l:List AV}{v:AV}{k:qq0->Sem Unit}{f:Loc->M Loc}(hp:j4 ae e=some (y,l))(hv:l.getLast?=some v)
  (h: ∀u s1 aK,Run X ia aq s0 aw env Av oa m cm s1 H aK->VV X s1.heap Av v u->fX X A ia aq s0 aw env s1 H (k u) (f aK)):t5 X A ia aq s0 aw env s H (eval e env) k (M.bind (cw y (.list l.dropLast) ae) f):=by
 intro r H' e' Q E hQ hE;refine SY G R hp hv λu s1 aK g1 R1 hu=>?_;delta M.bind at e';replace e':=g1▸e';exact h u s1 aK R1 hu r H' e' Q E (λa6 q u s' Av oa m cm R'=>hQ a6 q s' Av oa m cm R') hE
theorem Dh {t e:Expr}{E:qq0->qq1->Prop}(hs:qqX [t] e pos.line env=pure false)
  (h:qq3 (qq5 X.P X.w) A (eval e env) (λv s1=>qq3 (qq5 X.P X.w) A (qz4 [t] e env>>=λsw=>assignStores env v sw ((qzX [t] env).map (·.2))) Q E s1) E s):qq3 (qq5 X.P X.w) A (PySem.exec (.Assign [t] e pos) env) Q E s:=by
 rw [PyProof.Rows.exec_Assign];refine ua (qqF ?_);exact aa hs (bp (aa (if_neg (by decide)) (ua h)))
theorem Di {t e:Expr}{E:qq0->qq1->Prop}(hw:qz4 [t] e env=pure none)(ht:(qzX [t] env).map (·.2)= [assign t env])(h:qq3 (qq5 X.P X.w) A (assign t env v) (λ_ s'=>Q .next s') E s):
  qq3 (qq5 X.P X.w) A (qz4 [t] e env>>=λsw=>assignStores env v sw ((qzX [t] env).map (·.2))) Q E s:=by
 refine aa hw (aa ht ?_);refine bp (?_:qq3 _ _ (assign t env v>>=λ_=>pure .next) Q E s);exact ua (qqV h (λ_ _ x=>ud x) λ_ _ x=>x)
set_option tactic.hygienic true in
theorem Dj {x:Str}{xp tp pos:Pos}{es:List Expr}{E:qq0->qq1->Prop}
  (h:qq3 (qq5 X.P X.w) A (eval (.Tuple es k tp) env) (λv s1=>qq3 (qq5 X.P X.w) A (qx2 env x v) (λ_ s'=>Q .next s') E s1) E s):qq3 (qq5 X.P X.w) A (PySem.execs [.Assign [.Name x xp] (.Tuple es k tp) pos] env) Q E s:=by
 refine(?_:qq3 _ _ (PySem.exec _ env>>=λ(f:Flow)=>match f with|Flow.next=>PySem.execs [] env|f=>pure f) _ _ _);exact ua (Dh rfl (qqV h (λv s1 h=>Di rfl rfl (qzW (qqV h (λ_ _ h=>ud h) λ_ _ h=>h))) λ_ _ h=>h))
set_option tactic.hygienic true in
theorem GC {t e:Expr}{k:qq0->Sem Unit}{mm:M Loc}(hs:qqX [t] e pos.line env=pure false)
  (hk: ∀v (Q:Flow->qq1->Prop) (E:qq0->qq1->Prop) s,qq3 (qq5 X.P X.w) A (k v) (λ_ s'=>Q .next s') E s->qq3 (qq5 X.P X.w) A (qz4 [t] e env>>=λsw=>assignStores env v sw ((qzX [t] env).map (·.2))) Q E s)
  (h:t5 X A ia aq s0 aw env s H (eval e env) k mm):bM X A ia aq s0 aw env s H (PySem.exec (.Assign [t] e pos) env) (M.bind mm Internal.next):=by
 intro r H' e' Q E hQ hE;refine Dh hs (b7 e' ?_ ?_);intro q e1 ak;subst ak;rotate_left;intro aK H1 e1 e2;rotate_right
 ·exact qqV (h _ _ e1 (λ_ s'=>Q .next s') E (λa6 q=>xE q) λp' q e' s' z=>hE p' (by refine jE q λah=>?_;clear q;subst ah;rfl) e' s' z) (λv s1 h1=>hk v Q E s1 h1) λ_ _ e=>e
 ·refine aN e2 λah ak=>?_;clear e2;subst ah;subst ak;exact qqV (h _ _ e1 (λ_ s'=>Q .next s') E (λa6 q s' Av oa m cm R'=>by refine jO q λah=>?_;clear q;subst ah;exact hQ _ _ rfl _ _ _ _ _ _ R' trivial) λp q=>xO q) (λv s1 h1=>hk v Q E s1 h1) λ_ _ e=>e
set_option tactic.hygienic true in
theorem ie {t e:Expr}{mm:M Loc}(hs:qqX [t] e pos.line env=pure false)(hw:qz4 [t] e env=pure none)(ht:(qzX [t] env).map (·.2)= [assign t env])
  (h:t5 X A ia aq s0 aw env s H (eval e env) (assign t env) mm):bM X A ia aq s0 aw env s H (PySem.exec (.Assign [t] e pos) env) (M.bind mm Internal.next):=GC hs (λ_ _ _ _ h=>Di hw ht h) h
theorem Dk {t e:Expr}{x y:Str}{mm:M Loc}(hs:qqX [t] e pos.line env=pure false)(hw:qz4 [t] e env=pure (some [x,y]))
  (h:t5 X A ia aq s0 aw env s H (eval e env) (λv=>unpackItems v 2 none>>=λitems=>assignInOrder ([y,x].map λn=>bindName env n) items.reverse) mm):bM X A ia aq s0 aw env s H (PySem.exec (.Assign [t] e pos) env) (M.bind mm Internal.next):=by
 refine GC hs (λv Q E s h=>?_) h;refine aa hw (bp (?_:qq3 _ A (rule "assign.swapped-stores">>=λ_=>unpackItems v 2 none>>=λitems=>assignInOrder ([y,x].map λn=>bindName env n) items.reverse>>=λ_=>pure .next) Q E s));refine ua (qzU ?_);rw [<-bind_assoc];exact ua (qqV h (λ_ _ x=>ud x) λ_ _ x=>x)
theorem Run.rho {rho':List (Str×AV)}(R:Run X ia aq s0 aw env Av oa m cm s H ae)(e: ∀x d,rho'.lookup x=some d->ae.rho.lookup x=some d):Run X ia aq s0 aw env Av oa m cm s H {ae with rho:=rho'}:=
 ⟨R.ex,R.base,R.loc.rho e,R.sub,R.fresh,R.own,R.ownD⟩
theorem DZ (G:c5 X A aq s0 aw env n d0 cl mk)(R:Run X ia aq s0 aw env Av oa m cm s H ae){x y:Str}{d:AV}(hv:VV X s.heap Av d v):
  fX X A ia aq s0 aw env s H (unpackItems v 2 none>>=λitems=>assignInOrder ([y,x].map λn=>bindName env n) items.reverse) (oA x y d ae):=by
 intro r H' e Q E hQ hE
 induction d using AV.casesOn with
 |tup ds=>
  rcases ds with _|⟨a,_|⟨b,_|⟨c,t⟩⟩⟩
  ·exact xNS e
  ·exact xNS e
  ·refine aP hv λaz arr ak na pt z aI=>a8 aI λv1 gm e1 r1 MU=> a8 MU λv2 Us e2 r2 e3=>?_;clear MU;subst ak;replace e1:=e2▸e1;replace e1:=(show _= [] from e3)▸e1;have sz:arr.size=2:=by refine bq ux (aa e1 ?_);rfl
   refine bq sz (ua (unpackItems_tuple G.ev.hA pt.is λh' he=>?_));refine aa e1 ?_;have hk: ∀b o,s.heap.get? b=some o->h'.get? b=some o:=λb o e=>he b o (uy (ul e)) e;have c0:dB s.heap Av h' Av:=λb o e n=>⟨hk b o e,n⟩;have R1:Run X ia aq s0 aw env Av oa m cm {s with heap:=h'} H ae:=R.step G (.of_keeps (tk:=s.toks) hk) (au.ex (s':={s with heap:=h'}) R.base hk);refine ui (M.bind_some (mm:=bB y b ae) (f:=λa6=>bB x a a6) e) ?_ ?_;intro az;refine af az λp g1 jX=>?_;rotate_left;intro az;refine aY az λaK H1 g1 g2=>?_;rotate_right
   ·exact xE (bE g1).2.1
   refine bb (eY G R1 (VR.chg c0 _ _ r2) g1) λq1 q2 ak c8 g=> jO q2 λah=>?_;clear q2;subst ah;subst q1;refine ua (qq8 (wpAny_bindName (g λs1 m1 d7 a7 R2=>?_)));refine bb (eY G R2 (VR.chg (a7.chg λb q=>eE R1.loc q) _ _ (VR.chg c0 _ _ r1)) g2) λq1 q2 ak c8 g'=>?_;subst q1 q2;exact ua (qq8 (wpAny_bindName (g' λs2 m2 zx _ R3=>ud (hQ _ rfl () _ _ _ _ _ R3))))
  ·exact xNS e
 |_=>exact xNS e
theorem D_ (L:aJ X s.heap env Av oa ae m cm){x y:Str}{px py tp ep:Pos}{k1 k2:Nat}{a b:Expr}(h:M4 ae [.Name x px,.Name y py] x y a b=true):qz4 [.Tuple [.Name x px,.Name y py] k1 tp] (.Tuple [a,b] k2 ep) env=pure (some [x,y]):=by
 refine ai (Bool.and_eq_true_iff.mp h) λh hb=> ai (Bool.and_eq_true_iff.mp h) λh ha=> ai (Bool.and_eq_true_iff.mp h) λh hn=> ai (Bool.and_eq_true_iff.mp h) λh hy=> ai (Bool.and_eq_true_iff.mp h) λhl hx=>?_;have loc: ∀z,(ae.sc.names.lookup z==some .local)=true->env.kindOf z=some .local:=λz h=>(L.kinds z _ (beq_iff_eq.mp h)).elim id λq=>by cases q.1
 have bk:env.blockKind= .function:=by delta Env.blockKind;refine aa L.kind ?_;rfl
 have key: ∀f:Expr->Option Str,f (.Name x px)=some x->f (.Name y py)=some y-> [Expr.Name x px,.Name y py].filterMap f= [x,y]:=λf h1 h2=>by refine aa (List.filterMap_cons_some h1) (aa (List.filterMap_cons_some h2) ?_);rfl
 have ed:([x,y]:List Str).eraseDups= [x,y]:=by
  have CL:(y==x)=false:=beq_eq_false_iff_ne.mpr λe=>(bne_iff_ne.mp hn) e.symm;refine aa List.eraseDups_cons (?_:x::(List.filter _ [y]).eraseDups=_);refine aa (List.filter_cons_of_pos (by refine aa CL ?_;rfl)) ?_;rfl
 have Nv:AO b=false/\foldedForSure 8 b=false/\constantsAlone 8 b=false:=by
  induction b using PySem.Expr.casesOn with
  |List=>exact(aQ rfl rfl rfl)|Call=>exact(aQ rfl rfl rfl)|_=>exact di hb
 delta qz4;dsimp only;refine aa bk (aa (key _ (if_pos (Bool.and_eq_true_iff.mpr ⟨beq_iff_eq.mpr (loc x hx),beq_iff_eq.mpr rfl⟩)) (if_pos (Bool.and_eq_true_iff.mpr ⟨beq_iff_eq.mpr (loc y hy),beq_iff_eq.mpr (beq_iff_eq.mp hl).symm⟩))) ?_);refine aa ed ((if_neg ?_).trans ((if_neg ?_).trans ((if_neg ?_).trans ((if_neg ?_).trans (if_neg ?_)))))
 ·exact uB
 ·have Xe: ∀p:Expr->Bool,(∀e,p e=AO e)-> ¬([a,b].any p)=true:=λp h=>by
   refine(?_: ¬(p a||(p b||false))=true);rewrite [h,h];exact aa Nv.1 (aa ((vJ _).mp ha) uB)
  exact Xe _ λe=>by cases e<;>rfl
 ·exact uB
 ·refine(?_: ¬(foldedForSure 8 a && (foldedForSure 8 b && true))=true);refine aa Nv.2.1 ?_;rewrite [Bool.false_and,qxB];exact uB
 ·refine(?_: ¬(constantsAlone 8 a && (constantsAlone 8 b && true))=true);refine aa Nv.2.2 ?_;rewrite [Bool.false_and,qxB];exact uB
set_option tactic.hygienic true in
theorem BM (G:c5 X A aq s0 aw env n d0 cl mk)(R:Run X ia aq s0 aw env Av oa m cm s H ae){x y:Str}{p1 p2 ep:Pos}{k2:Nat}{g9 DK:List Expr}(o1:fe g9=true)(o2:fe DK=true):
  t5 X A ia aq s0 aw env s H (eval (.Tuple [.List g9 p1,.List DK p2] k2 ep) env) (λv=>unpackItems v 2 none>>=λitems=>assignInOrder ([y,x].map λn=>bindName env n) items.reverse)
   (M.bind (l_ X.C cl mk 3 g9 ae) λFo=>M.bind (l_ X.C cl mk 3 DK ae) λFp=>M.bind (jV y (.list Fp) ae) λa6=>jV x (.list Fo) a6):=by
 intro r H' e Q E hQ hE;refine(?_:qq3 _ _ (qqU ep>>=λ_=>(eval (.List g9 p1) env>>=λv=>pure [v]>>=λh1=>holding h1 (eval (.List DK p2) env>>=λv=>pure [v]>>=λh2=>holding h2 (pure [])>>=λr=>pure (h2++r))>>=λr=>pure (h1++r))>>=λvs=>newTuple vs) _ _ _);refine ua (qqF (ua (ua ?_)));have N1:=BK G R (es:=g9) (p:=p1);replace N1:=(if_pos o1)▸N1;refine b7 e ?_ ?_;intro q e1 ak;subst ak;rotate_left;intro Zl H1 e1 e2;rotate_right
 ·exact N1 (.error q) H' (by delta M.bind;exact aa e1 rfl) _ _ (λd q=>xE q) λp' q e' s' z=>hE p' (by refine jE q λah=>?_;clear q;subst ah;rfl) e' s' z
 refine N1 (.ok (.list Zl)) H1 (by delta M.bind;refine aa e1 ?_;rfl) _ _ (λob q a1 s1 h2 tk x1 R1 kp1 Xf lv1 gw=>?_) λp q=>by exact xO q
 refine jO q λah=>?_;clear q;subst ah;have Xg:=R1.hide (h':=h2) (tk:=tk) (Z:= [a1]) kp1 λb hb=>by exact aa (qq2.mp hb) (⟨Xf,lv1⟩)
 refine bp (ua (qq8 (ua ?_)));have N2:=BK G Xg (es:=DK) (p:=p2);replace N2:=(if_pos o2)▸N2;refine b7 e2 ?_ ?_;intro q e3 ak;subst ak;rotate_left;intro Xd H2 e3 e4;rotate_right
 ·exact N2 (.error q) H' (by delta M.bind;exact aa e3 rfl) _ _ (λd q=>xE q) λp' q e' s' z=>hE p' (by refine jE q λah=>?_;clear q;subst ah;rfl) e' s' z
 refine N2 (.ok (.list Xd)) H2 (by delta M.bind;refine aa e3 ?_;rfl) _ _ (λob q a2 s3 h4 Te x3 R3 Xh Xi lv2 Jd=>?_) λp q=>by exact xO q
 refine jO q λah=>?_;clear q;subst ah;have Zm:=R3.hide (h':=h4) (tk:=Te) (Z:= [a2]) Xh λb hb=>by exact aa (qq2.mp hb) (⟨Xi,lv2⟩)
 refine bp (ua (qq8 (ud (ud (ud ?_)))));refine aC gw λZn ah z1 r1=>ac ah λn1 FE=>?_;have Dl: ∀b o,s1.heap.get? b=some o->b≠a1:=λb o e q=>by replace e:=q▸e;replace e:=eS Xf e;exact xNS e
 have Zo:X.aH≠some a1:=λq=>by
  exact aB (R1.base.hand.dict q) λo ah ak h be=> Dl _ _ h rfl
 have nf:a1∉aO (env::aq):=λq=>by
  have:=Xg.base.frs_live q FE;simp at this
 have Tf:s3.heap.get? a1=some {cls:= .type "list",data:= .seq Zn n1}:=x3.keep _ _ FE Zo nf;have c13:dB h2 (ins Av [a1]) s3.heap (ins Av [a1]):=Xg.base.chg x3;have nO: ∀b o,s3.heap.get? b=some o->b≠a2:=λb o e q=>by replace e:=q▸e;replace e:=eS Xi e;exact xNS e
 have c34:dB s3.heap (ins Av [a1]) h4 (ins (ins Av [a1]) [a2]):=λb o e n=>⟨Xh b o e,λq=>by
  refine ui q (λq=>?_) λq=>?_
  ·exact n q
  ·exact nO b o e (qq2.mp q)⟩
 have Xj:oH X h4 (ins (ins Av [a1]) [a2]) (.list Zl) a1 env.locals:=(aV Zn ⟨n1,Xh _ _ Tf⟩ z1 (aF.chg c34 _ _ (aF.chg c13 _ _ r1)));have Xk:a1≠a2:=nO a1 _ Tf;refine(?_:qq3 _ A (newTuple ([qq0.ref a1]++([qq0.ref a2]++ []))) _ _ _);refine wpAny_newTuple ?_ (by size_fits);generalize Xl:({s3 with heap:=h4.push {cls:= .type "tuple",data:= .seq ([qq0.ref a1]++([qq0.ref a2]++ [])).toArray},toks:=Te}:qq1)=s5;have k5: ∀b o,h4.get? b=some o->s5.heap.get? b=some o:=λb o e=>by exact bq Xl (uc _ e)
 have R5:Run X ia aq s0 aw env (ins (ins Av [a1]) [a2]) oa m cm s5 H2 ae:=by
  exact bq Xl (Zm.step G (s':={s3 with heap:=h4.push _,toks:=Te}) (.of_keeps (s:={s3 with heap:=h4,toks:=Te}) (tk:=Te) λb o e=>uc _ e) (au.push Zm.base))
 have ht5:gZ s5.heap h4.objs.size #[.ref a1,.ref a2]:=by exact bq Xl (⟨0,ue _ rfl⟩)
 refine ua (unpackItems_tuple (items:= #[.ref a1,.ref a2]) G.ev.hA ht5.is λh6 he=>?_);have k6: ∀b o,s5.heap.get? b=some o->h6.get? b=some o:=λb o e=>he b o (uy (ul e)) e;have R6:Run X ia aq s0 aw env (ins (ins Av [a1]) [a2]) oa m cm {s5 with heap:=h6} H2 ae:=R5.step G (.of_keeps (tk:=s5.toks) k6) (au.ex (s':={s5 with heap:=h6}) R5.base k6);have Zp: ∀b o,h4.get? b=some o->h6.get? b=some o:=λb o e=>k6 b o (k5 b o e);have Zq: ∀{ob:OB} {a:qq7},oH X h4 (ins (ins Av [a1]) [a2]) ob a env.locals->(∃l,ob= .list l)->oH X h6 (ins (ins Av [a1]) [a2]) ob a env.locals:=λ{ob a} h zz=>by
  refine ac zz λl hl=>?_;subst hl;exact aC h λvs ah z r=>ac ah λn hp=>(aV vs ⟨n,Zp _ _ hp⟩ z (aF.chg (λb o e n=>⟨Zp b o e,n⟩) _ _ r))
 have Tg:=Zq Xj ⟨_,rfl⟩;have Th:=Zq Jd ⟨_,rfl⟩;have Zr:a1≠env.locals:=λq=>by
  exact aB R1.loc.ns λo ah ak h be=> Dl _ _ h q.symm
 have nl2:a2≠env.locals:=λq=>by
  exact aB R3.loc.ns λo ah ak h be=> nO _ _ h q.symm
 have nH2:X.aH≠some a2:=λq=>by
  exact aB (R3.base.hand.dict q) λo ah ak h be=> nO _ _ h rfl
 have nc1: ∀z,env.cells.lookup z≠some a1:=λz q=>by
  exact af (R1.loc.cells z _ q) λo h ak=> Dl _ _ h rfl
 have nc2: ∀z,env.cells.lookup z≠some a2:=λz q=>by
  exact af (R3.loc.cells z _ q) λo h ak=> nO _ _ h rfl
 have n01: ¬aw a1:=λq=>by
  refine ac G.base λH0 B0=> ac (B0.live a1 q) λo h=>?_;replace h:=eS (R1.gone Xf) h;exact xNS h
 have n02: ¬aw a2:=λq=>by
  refine ac G.base λH0 B0=> ac (B0.live a2 q) λo h=>?_;replace h:=eS (R3.gone Xi) h;exact xNS h
 have on1: ∀z ob,ae.om.lookup z=some ob->oa z≠a1:=λz ob e=>by
  exact aU (R1.loc.owns z ob e) λaz av ak=> ac (R1.base.live _ av) λo h=> Dl _ _ h
 have on2: ∀z ob,ae.om.lookup z=some ob->oa z≠a2:=λz ob e=>by
  exact aU (R3.loc.owns z ob e) λaz av ak=> ac (R3.base.live _ av) λo h=> nO _ _ h
 refine(?_:qq3 _ A (holding [qq0.ref a1] (bindName env y (.ref a2))>>=λ_=>holding [] (bindName env x (.ref a1))>>=λ_=>pure ()) _ _ _);refine b7 e4 ?_ ?_;intro q e5 ak;rotate_left;intro aK H3 e5 e6;rotate_right
 ·unfold jV at e5;split at e5<;>(first|(exact Yy e5)|(exact xNS e5))
 unfold jV at e5;split at e5
 ·rename_i c
  refine Mx e5 λah ak=>?_;clear e5;subst ah;subst ak;simp only [uv,vB,qqJ] at c;refine ai c λaz c4=>ai az λAB c3=> ai AB λc1 c2=> ua (qq8 (wpAny_bindName (zT G R6 (.inr (by exact .head _)) n02 nl2 nH2 nc2 Th on2 c1 c2 c3 c4 λh7 tk7 m7 cm7 b Og eA k7 R7=>?_)));refine ua (qq8 (wpAny_bindName ?_));refine G6 G R7 (.inl (.inr (by exact .head _))) n01 Zr Zo nc1 (oH.keep Tg Zr (eE R6.loc Og) eA k7) (λz ob e=>?_) r H' e6 _ E (λa6 q u s' Av oa m cm R'=>ud (hQ a6 q s' Av oa m cm R')) hE;have e:(bH y (OB.list Xd) ae.om).lookup z=some ob:=e;replace e:=eS aT e;by_cases q:z=y
  ·simp only [if_pos q];exact Xk.symm
  ·replace e:=eS (if_neg q) e;simp only [if_neg q];exact on1 z _ e
 ·exact xNS e5
theorem Run.grow (G:c5 X A aq s0 aw env n d0 cl mk)(R:Run X ia aq s0 aw env Av oa m cm s H ae)(y:Ex X (aO (env::aq)) s s')(hz: ∀b∈Z,s.heap.get? b=none/\ ∃o,s'.heap.get? b=some o)(hH:au X s'.heap (ins Av Z) H'):
  Run X ia aq s0 aw env (ins Av Z) oa m cm s' H' ae:=by
 have h1: ∀b,Av b->ins Av Z b:=λb q=>.inl q;have h2: ∀b o,s.heap.get? b=some o-> ¬Av b-> ¬ins Av Z b:=λb o e n q=>by
  refine ui q (λq=>?_) λq=>?_
  ·exact n q
  ·replace e:=eS (hz b q).1 e;exact xNS e
 refine⟨R.ex.frame y G.fresh,R.base.ex2 y h1 h2 (λb q=>by
  refine ui q (λq=>?_) λq=>?_
  ·exact .inl q
  ·exact .inr (hz b q).2) hH,R.loc.ex2 R.base y h1 h2,λb q=>h1 b (R.sub b q),λb q=>?_,R.own,λx c ks vs dx e h=>?_⟩
 ·refine ui q (λq=>?_) λq=>?_
  ·exact R.fresh b q
  ·exact .inr (R.gone (hz b q).1)
 ·refine bb (R.loc.owns x _ e) λaz a2 ak a4 aI=>cG aI λEC es k FD A6 yW g1 S9=>?_;have:=y.keep _ _ g1 a4 λq=>by
   have:=R.base.frs_live q g1;simp [qz1] at this
  replace this:=eS h this;refine al this λah=>?_;clear this;cases ah;exact R.ownD x c ks vs dx e g1
theorem Run.drop (G:c5 X A aq s0 aw env n d0 cl mk)(R:Run X ia aq s0 aw env Av oa m cm s H ae){C:qq7}(nC:s.heap.get? C=none)(nA: ¬Av C){rho':List (Str×AV)}(R2:Run X ia aq s0 aw env (ins Av [C]) oa m' dc s2 H' {ae with rho:=rho'})
  (hi: ∀z c ks vs dx,ae.om.lookup z=some (.inst c ks vs)->s2.heap.get? (oa z)=some (qz1 c dx)->Av dx) {h':qqK} (hs:qqC C s2.heap h'):Run X ia aq s0 aw env Av oa m' dc {s2 with heap:=h'} H' {ae with rho:=rho'}:=by
 have live: ∀b o,s.heap.get? b=some o->b≠C:=λb o e q=>by replace e:=q▸e;replace e:=eS nC e;exact xNS e
 have k: ∀b o,b≠C->s2.heap.get? b=some o->h'.get? b=some o:=λb o n e=>by exact aa (hs.2 b n) e
 have c:dB s2.heap (ins Av [C]) h' Av:=λb o e n=>⟨k b o (λq=>n (.inr (by simp [q]))) e,λq=>n (.inl q)⟩;have Ea: ∀b,Av b->b≠C:=λb av q=>nA (q▸av);refine ac G.base λH0 B0=>?_;have Zs: ∀b o,s0.heap.get? b=some o->b≠C:=λb o e q=>by
  have:=R.gone nC;replace e:=q▸e;replace e:=eS this e;exact xNS e
 have hH: ∀a,X.aH=some a->Av a:=R.base.hand.av;have L:=R2.loc;have B:=R2.base;refine⟨R2.ex.then_ (λb o o' e e'=>k b o' (Zs b o e) e') rfl rfl,⟨λb o e=>k b o (Zs b o (B0.base b o e)) (B.base b o e),λb o e q=>B.off b o e (.inl q),λb av=>?_,B.hand.move c λa e=>⟨hH a e,λo h=>k a o (Ea a (hH a e)) h⟩,λen he=>?_⟩,
  {kind:=L.kind,glb:=L.glb,bi:=L.bi,dbg:=L.dbg,cdt:=L.cdt,kinds:=L.kinds,ns:= ?_,cells:=λz cc e=>?_,hasc:=L.hasc,avL:=R.loc.avL,avC:=R.loc.avC,apart:=L.apart,vals:=λz d e=>af (L.vals z d e) λv h1 h2=>(aj v h1 (VR.chg c _ _ h2)),owns:=λz ob e=>?_,inj:=L.inj,solo:=L.solo,nL:=L.nL},R.sub,R.fresh,R.own,λx cc ks vs dx e h=>?_⟩
 ·refine ac (B.live b (.inl av)) λo h=>?_;exact⟨o,k b o (Ea b av) h⟩
 ·refine ai (B.frok en he) λkk aI=>eg aI λL' o hL av nH nb ho hc hn=> ai (R.base.frok en he) λaz aI=>a8 aI λL2 o2 CZ LQ A6=>?_;replace CZ:=eS hL CZ;refine al CZ λah=>?_;clear CZ;subst ah;exact⟨kk,L',o,hL,LQ,nH,nb,k L' o (Ea _ LQ) ho,hc,hn⟩
 ·exact aB L.ns λo es ep ho r=>(ct o es ep (k _ _ (Ea _ R.loc.avL) ho) r)
 ·exact af (L.cells z cc e) λo ho hd=>(aj o (k _ _ (Ea _ (R.loc.avC z cc e)) ho) hd)
 ·refine bb (L.owns z ob e) λa1 a2 a3 a4 a5=> aU (R.loc.owns z ob e) λaz b2 ak=>(cV a1 b2 a3 a4 ?_)
  induction ob using OB.casesOn with
  |list l=>
   exact aC a5 λvs ah z r=>ac ah λn hp=>(aV vs ⟨n,k _ _ (Ea _ b2) hp⟩ z (aF.chg c _ _ r))
  |kd l=>
   refine c7 a5 λxs ah e1 r av=>eh ah λo es ep ho r1 r2 r3 r4 r5=>(cW xs (gG o es ep (k _ _ (Ea _ b2) ho) r1 r2 r3 (λz hz=>?_) r5) e1 (aF.chg c _ _ r) (λz hz q=>av z hz (.inl q)));refine aB (r4 z hz) λo1 i1 n1 g1 g2=>?_;exact⟨o1,i1,n1,(c _ _ g1 (av z hz)).1,g2⟩
  |inst cc ks vs=>
   refine d9 a5 λdx es n av nl nh g1 g2 e1 r=>?_;have Uz:=hi z cc ks vs dx e g1;exact(fO dx es n Uz nl nh (k _ _ (Ea _ b2) g1) (k _ _ (Ea _ Uz) g2) e1 (aF.chg c _ _ r))
 ·refine aU (R.loc.owns x _ e) λaz b2 ak=>?_;have h:h'.get? (oa x)=some (qz1 cc dx):=h;replace h:=eS (hs.2 _ (Ea _ b2)) h;exact R2.ownD x cc ks vs dx e h
theorem Eb {x:Str}{d:AV}{r:Except AV (Fl×Loc)}(e:M.bind (bB x d ae) Internal.next H=some (r,H')):(eu ae x && (ae.om.lookup x).isNone)=true/\r= .ok (.next,{ae with rho:=bH x d ae.rho})/\H'=H:=by
 delta bB at e;refine cB (eu ae x && (ae.om.lookup x).isNone) (λc=>?_) λc=>?_
 ·replace e:=c▸e;refine aN e λah ak=>?_;clear e;subst ah;subst ak;exact(aQ c rfl rfl)
 ·replace e:=c▸e;exact xNS e
set_option tactic.hygienic true in
theorem BN (G:c5 X A aq s0 aw env n d0 cl mk)(R:Run X ia aq s0 aw env Av oa m cm s H ae){eF tgt it:Expr}{gi:List Expr}{sc:Scope}{p px pos:Pos}{x:Str}(Xm:qqX [.Name x px] (.ListComp eF [⟨tgt,it,gi,0⟩] sc p) pos.line env=pure true){mi:M (List AV)}{mt:List (Str×AV)->M Bool}{me:List (Str×AV)->M AV}
  (hi:oZ X A (env::aq) Av tgt (λb=>X.aH≠some b/\b∉aO (env::aq)) s H (eval it env) mi)
  (fW: ∀s' H' Av' nn C bs m1 d7,ao X s'.heap Av' (env::aq) H'->aJ X s'.heap (cy sc nn C env) Av' oa {aA sc ae with rho:=bs++(aA sc ae).rho} m1 d7->g_ X A (env::aq) Av' s' H' (dS gi (cy sc nn C env)) (mt bs))
  (lu: ∀s' H' Av' nn C bs m1 d7,ao X s'.heap Av' (env::aq) H'->aJ X s'.heap (cy sc nn C env) Av' oa {aA sc ae with rho:=bs++(aA sc ae).rho} m1 d7->bw X A (env::aq) Av' s' H' (eval eF (cy sc nn C env)) (me bs)):
  bM X A ia aq s0 aw env s H (PySem.exec (.Assign [.Name x px] (.ListComp eF [⟨tgt,it,gi,0⟩] sc p) pos) env) (M.bind (M.bind (Co sc tgt it ae mi mt me) λv=>bB x v ae) Internal.next):=by
 intro r H' e Q E hQ hE;rw [M.bind_assoc] at e;delta Co at e;refine cB (dM sc ae.sc && kI sc tgt && aZ it) (λh=>?_) λh=>?_
 ·rw [h] at e;rw [PyProof.Rows.exec_Assign];refine ua (qqF ?_);refine aa Xm (bp (aa (if_pos rfl) ?_));rewrite [arm_evalThenUse_ListComp];refine ua (ua ?_);have key: ∀{r1 H1},(M.bind mi λitems=>if items.length<=1000 then M.bind (ck (bA tgt mt) (bA tgt me) items) λys=>M.pure (AV.list ys) else stuck) H=some (r1,H1)->(∀p,r1= .error p->r= .error p/\H'=H1)->(∀d,r1= .ok d->M.bind (bB x d ae) Internal.next H1=some (r,H'))->_:=λ{r1 H1} e1 Xn fK=>
    CT (oa:=oa) (X:=X) (fr:=env::aq) (pos:=p) G.ev.hA R.base R.loc (tt (tt h).1).1 (tt (tt h).1).2 (eX (tt h).2) (use:=some λv=>assignAll v ((qzX [.Name x px] env).map (·.2))) (Q:=λ_ s'=>qq3 (qq5 X.P X.w) A (pure ()) (λ_ s'=>qq3 (qq5 X.P X.w) A (pure Flow.next) Q E s') E s') (E:=E) hi fW lu e1
     (λd hd D C s1 x1 y1 v1 n1 n2 lv=>by
      have hk:=fK d hd;have Rg:=R.grow G x1 (Z:= [C]) (λb hb=>by refine aa (qq2.mp hb) ?_;exact⟨n1,lv⟩) y1;dsimp only;refine aU (Eb hk) λc hr hH=>?_;subst hH
      ·have c:eu ae x=true/\ae.om.lookup x=none:=⟨(tt c).1,vB.mp (tt c).2⟩;refine(?_:qq3 _ A (assign (.Name x px) env (.ref D)) _ _ _);refine qzW (dR Rg.base Rg.loc (iT Rg.loc c.1) c.2 v1 λh' tk m' dc a ha k lv' fm L'=>?_);have Ti: ∀b o,s.heap.get? b=some o->b≠C:=λb o e q=>by replace e:=q▸e;replace e:=eS n1 e;exact xNS e
       have Oj:WF env a:=by
        refine ui ha ?_ ?_;(all_goals clear ha);intro az;subst az;rotate_left;intro ha;rotate_right
        ·exact .inl rfl
        ·exact .inr ⟨x,ha⟩
       have haC:C≠a:=λq=>by
        exact ac (R.base.live a (eE R.loc Oj)) λo ho=> Ti _ _ ho q.symm
       have st:dY (· =a) s1 {s1 with heap:=h',toks:=tk}:=⟨λb o n e=>k b o n e,λb o e=>by
        by_cases q:b=a
        ·subst q;exact lv'
        ·exact⟨o,k b o q e⟩,rfl,rfl⟩
       have R2:=Rg.named G st (λb q=>by exact aa q Oj) fm L';refine And.intro (λo ho=>k C o haC ho) λCP hs=>ud (ud ?_);have R3:=R.drop G n1 n2 R2 (λz cc ks vs dx e h=>?_) hs
       ·refine hQ _ _ hr _ _ _ _ _ _ (Run.rho (ae:={ae with rho:=(x,d)::ae.rho}) R3 λy dd h=>?_) trivial;replace h:=eS aT h;refine(?_:List.lookup y ((x,d)::ae.rho)=some dd);refine aa um ?_;by_cases q:y=x
        ·subst q;simpa using h
        ·have:(y==x)=false:=by exact Iff.mpr beq_eq_false_iff_ne q
         refine aa this ?_;replace h:=eS (if_neg q) h;exact h
       ·refine bb (R.loc.owns z _ e) λaz ah ak a4 aI=>cG aI λEC es kk av A6 yW g1 S9=>?_;have g1':=x1.keep _ _ g1 a4 λq=>by
         have:=R.base.frs_live q g1;simp [qz1] at this
        have g2:=k _ _ (λq=>k8 R.loc e (by exact aa q Oj)) g1';have h:h'.get? (oa z)=some (qz1 cc dx):=h;replace h:=eS g2 h;refine al h λah=>?_;clear h;cases ah;exact av
      )
     (λp hp e s' x y z=>(by
      refine ai (Xn p hp) λh1 h2=>?_;subst h2;exact hE p h1 e s' (R.err G x y z)))
  refine(M.bind_some e).elim (λq=>?_) (λq=>?_)
  ·exact af q λp e1 e2=> key e1 (λp' h=>⟨Except.error.inj h▸e2,rfl⟩) (λd h=>xE h)
  ·exact aY q λd H1 e1 e2=> key e1 (λp h=>xO h) λd' h=>vl h▸e2
 ·rw [h] at e;exact xNS e
set_option tactic.hygienic true in
theorem Ec (G:c5 X A aq s0 aw env n d0 cl mk)(R:Run X ia aq s0 aw env Av oa m cm s H ae){eF:Expr}{gens:List Comprehension}{sc:Scope}{p px pos:Pos}{x:Str}(Xm:qqX [.Name x px] (.ListComp eF gens sc p) pos.line env=pure true):
  bM X A ia aq s0 aw env s H (PySem.exec (.Assign [.Name x px] (.ListComp eF gens sc p) pos) env) (M.bind (M.bind (ev X.C cl mk 3 (.ListComp eF gens sc p) ae) λv=>bB x v ae) Internal.next):=by
 have Ok: ∀{mm:M AV},mm=stuck->bM X A ia aq s0 aw env s H (PySem.exec (.Assign [.Name x px] (.ListComp eF gens sc p) pos) env) (M.bind (M.bind mm λv=>bB x v ae) Internal.next):=λh=>by subst h;exact λr H' e=>by exact xNS e
 rcases gens with _|⟨⟨tgt,it,gi,(_|k)|k⟩,_|⟨g2,gs⟩⟩
 ·exact Ok rfl
 ·exact BN G R Xm (Gz G.ev R.base R.loc (bc G.ev it 3 R.base R.loc) (G5 G.ev R.base R.loc)) (λs' H' Av' nn C bs m1 d7 B' L'=>BI G.ev gi 2 B' L') λs' H' Av' nn C bs m1 d7 B' L'=>bc G.ev eF 2 B' L'
 ·exact Ok rfl
 ·exact Ok rfl
 ·exact Ok rfl
 ·exact Ok rfl
 ·exact Ok rfl
theorem iW {t e:Expr}{line:Nat}(h:(!gX e)=true):qqX [t] e line env=pure false:=by
 induction e using PySem.Expr.casesOn with
 |ListComp=>exact di h|SetComp=>exact di h|DictComp=>exact di h|_=>rfl
theorem Ed {e:Expr}(h:M3 e=true): ∃eF gens sc p,e= .ListComp eF gens sc p:=by
 induction e using PySem.Expr.casesOn with
 |ListComp eF gens sc p=>exact(Kk eF gens sc p rfl)|_=>exact di h
theorem BO {ts:List Expr}{k:Nat}{p:Pos}{e:Expr}(h:fM e=none):qz4 [.Tuple ts k p] e env=pure none:=by
 induction e using PySem.Expr.casesOn with
 |Tuple=>exact oz h|_=>rfl
theorem pz {v:Option AV}(h:CA v=true):v=some (.glob (.type "list")):=by
 induction v using Option.casesOn with
 |none=>exact di h|some d=>induction d using AV.casesOn with
  |glob u=>induction u using PySem.Value.casesOn with
   |type t=>exact congrArg (λt=>some (AV.glob (.type t))) (beq_iff_eq.mp h)|_=>exact di h
  |_=>exact di h
theorem pA {e:Expr}(h:o7 e=true): ∃p,e= .Dict [] [] p:=by
 induction e using PySem.Expr.casesOn with
 |Dict ks vs p=>
  refine ai (tt h) λc1 c2=>?_;exact⟨p,by refine aa (qqM.mp c1) (aa (qqM.mp c2) ?_);rfl⟩
 |_=>exact di h
theorem GD (G:c5 X A aq s0 aw env n d0 cl mk)(R:Run X ia aq s0 aw env Av oa m cm s H ae){e:Expr}{mm:M OB}(h:CB X.C cl mk e ae=some mm):Tb X A ia aq s0 aw env Av oa m cm ae s H (eval e env) mm/\ ∀t line,qqX [t] e line env=pure false:=by
 delta CB at h;refine cO (gU e) (λh1=>?_) λes h1=>?_
 ·replace h:=h1▸h;refine cB (o7 e) (λh2=>?_) λh2=>?_
  ·replace h:=h2▸h;refine ac (pA h2) λp h2=> aa h2 (bq (ug h) ?_);exact⟨Np G R,λt line=>rfl⟩
  ·replace h:=h2▸h;refine af (aG h) λc h3 h=> af (aG h) λf h4 h=> ac (bj h4) λfp h4=>?_;have h3:=ez h3;replace h3:=h4▸h3;obtain⟨f',args,p⟩:=c;refine aa h3 ?_;rcases args with _|⟨x,_|⟨y,r⟩⟩
   ·exact xNS h
   ·refine ai (Dy h) λc h=> bq (ug h) ?_;exact⟨Nq G R (pz (tt c).1) (tt c).2,λt line=>rfl⟩
   ·exact xNS h
 ·replace h:=h1▸h;refine ac (fQ h1) λp h1=> aa h1 (bq (ug h) ?_);exact⟨BK G R,λt line=>rfl⟩
theorem nP {e:Expr}{l:List AV}(h:j4 ae e=some (y,l)):(∀t line,qqX [t] e line env=pure false)/\fM e=none/\ ∀x p,qz4 [.Name x p] e env=pure none:=by
 refine aB (G9 h) λp ap pos c8 be=>?_;subst c8;exact(aQ (λt line=>rfl) rfl (λx p=>rfl))
set_option tactic.hygienic true in
theorem Ee (G:c5 X A aq s0 aw env n d0 cl mk)(R:Run X ia aq s0 aw env Av oa m cm s H ae){x:Str}{e:Expr}:
  bM X A ia aq s0 aw env s H (PySem.exec (.Assign [.Name x px] e pos) env) (M.bind (o8 X.C cl mk x e ae) Internal.next):=by
 delta o8;refine cO (CB X.C cl mk e ae) (λh=>?_) λmm h=>?_
 ·refine aa h (cO (j4 ae e) (λh=>?_) λyl h=>?_)
  ·refine aa h (.guard λc=>?_);have go:qqX [.Name x px] e pos.line env=pure false->bM X A ia aq s0 aw env s H (PySem.exec (.Assign [.Name x px] e pos) env) (M.bind (M.bind (ev X.C cl mk 3 e ae) λv=>bB x v ae) Internal.next):=λh=>ie h rfl rfl (t5.ev G R λv u s1 H1 x1 R1 hu=>nI G R1 hu);refine ui (Bool.or_eq_true_iff.mp c) (λc=>?_) λc=>?_
   ·exact go (iW c)
   ·refine yI (Ed c) λeF gens sc p q=>?_;subst q;refine ac (⟨_,rfl⟩: ∃b,qqX [.Name x px] (.ListComp eF gens sc p) pos.line env=pure b) λb h=>?_
    induction b using Bool.casesOn with
    |false=>exact go h|true=>exact Ec G R h
  ·refine aa h (aU (nP (env:=env) h) λh1 ah h2=> cO yl.2.getLast? (λhg=>?_) λv hg=>?_)
   ·refine(?_:bM X A ia aq s0 aw env s H _ (M.bind (match yl.2.getLast? with
     |some v=>M.bind (cw yl.1 (.list yl.2.dropLast) ae) λa6=>bB x v a6
     | .none=>Internal.stuck) Internal.next))
    exact aa hg .stuck
   ·refine(?_:bM X A ia aq s0 aw env s H _ (M.bind (match yl.2.getLast? with
     |some v=>M.bind (cw yl.1 (.list yl.2.dropLast) ae) λa6=>bB x v a6
     | .none=>Internal.stuck) Internal.next))
    exact aa hg (ie (h1 _ _) rfl rfl (t5.pop G R h hg λu s1 aK R1 hu=>nI G R1 hu))
 ·exact aa h (ai (GD G R h) λh1 h2=> ie (h2 _ _) rfl rfl (t5.new G h1))
set_option tactic.hygienic true in
theorem GF (G:c5 X A aq s0 aw env n d0 cl mk)(R:Run X ia aq s0 aw env Av oa m cm s H ae){e:Expr}:
  bM X A ia aq s0 aw env s H (PySem.exec (.Assign [.Tuple ts k tp] e pos) env) (M.bind (AP X.C cl mk (.Tuple ts k tp) ts e ae) Internal.next):=by
 delta AP;refine cO (kG ts) (λh=>?_) λp h=>?_
 ·exact aa h .stuck
 refine aa h (aX (mq h) λpx py et=> cO (fM e) (λh=>?_) λes h=>?_)
 ·refine aa h ?_;have hw:=BO (ts:=ts) (k:=k) (p:=tp) (env:=env) h;refine(?_:bM X A ia aq s0 aw env s H _ (M.bind (o9 X.C cl mk (.Tuple ts k tp) e ae) Internal.next));delta o9;refine cO (j4 ae e) (λh=>?_) λyl h=>?_
  ·exact aa h (.guard λc=>ie (iW c) hw rfl (t5.ev G R λv u s1 H1 x1 R1 hu=>nJ G R1 hu))
  ·refine aa h (aU (nP (env:=env) h) λh1 ah h2=>?_);refine(?_:bM X A ia aq s0 aw env s H _ (M.bind (match yl.2.getLast? with
     |some v=>M.bind (cw yl.1 (.list yl.2.dropLast) ae) λa6=>aR (.Tuple ts k tp) v a6
     | .none=>Internal.stuck) Internal.next))
   refine cO yl.2.getLast? (λhg=>?_) λv hg=>?_
   ·exact aa hg .stuck
   ·exact aa hg (ie (h1 _ _) hw rfl (t5.pop G R h hg λu s1 aK R1 hu=>nJ G R1 hu))
 ·refine aa h ?_;refine(?_:bM X A ia aq s0 aw env s H _ (M.bind (match mC es with
   |some q=>if M4 ae ts p.1 p.2 q.1 q.2 then Fk X.C cl mk p.1 p.2 q.1 q.2 e ae else Internal.stuck
   | .none=>Internal.stuck) Internal.next))
  refine cO (mC es) (λh=>?_) λq h2=>?_
  ·exact aa h .stuck
  refine aa h2 (aX (dO h) λk2 ep ee=>?_);have e2:=gY h2;subst et ee e2;refine .guard λc=>?_;have hw:=D_ (tp:=tp) (ep:=ep) (k1:=k) (k2:=k2) R.loc c;have gen:bM X A ia aq s0 aw env s H (PySem.exec (.Assign [.Tuple [.Name p.1 px,.Name p.2 py] k tp] (.Tuple [q.1,q.2] k2 ep) pos) env) (M.bind (M.bind (ev X.C cl mk 3 (.Tuple [q.1,q.2] k2 ep) ae) λv=>oA p.1 p.2 v ae) Internal.next):=Dk rfl hw (t5.ev G R λv u s1 H1 x1 R1 hu=>DZ G R1 hu);delta Fk;refine cO (gU q.1) (λh=>?_) λg9 h1=>?_
  ·exact aa h gen
  ·refine aa h1 (cO (gU q.2) (λh=>?_) λDK h2=>?_)
   ·exact aa h gen
   ·refine aa h2 (ac (fQ h1) λp1 q1=> ac (fQ h2) λp2 q2=> .guard λc=> ai (Bool.and_eq_true_iff.mp c) λc1 c2=>?_);rw [q1,q2] at hw⊢;exact Dk rfl hw (BM G R c1 c2)
theorem GG (G:c5 X A aq s0 aw env n d0 cl mk)(R:Run X ia aq s0 aw env Av oa m cm s H ae){t e:Expr}:
  bM X A ia aq s0 aw env s H (PySem.exec (.Assign [t] e pos) env) (M.bind (kl X.C cl mk t e ae) Internal.next):=by
 delta kl;refine cO (bP t) (λh1=>?_) λx h1=>?_
 ·refine aa h1 (cO (fM t) (λh2=>?_) λts h2=>?_)
  ·refine aa h2 (?_:bM X A ia aq s0 aw env s H _ (M.bind (Fq X.C cl mk t e ae) Internal.next));delta Fq;refine cO (EH t) (λh3=>?_) λq h3=>?_
   ·refine aa h3 (cO (fL t) (λh4=>?_) λq h4=>?_)
    ·exact aa h4 .stuck
    ·refine aa h4 (aa (ey h4) ?_);exact .guard λc=>ie (iW c) rfl rfl (t5.ev G R λv u s1 H1 x1 R1 hu=>DY G R1 hu)
   ·refine ac (AW h3) λp h4=> aa h3 (aa h4 ?_);exact .guard λc=>ie (iW c) rfl rfl (t5.ev G R λv u s1 H1 x1 R1 hu=>Td G R1 hu)
  ·refine aX (dO h2) λk tp h3=> aa h2 (aa h3 ?_);exact GF G R
 ·refine ac (bj h1) λpx h2=> aa h1 (aa h2 ?_);exact Ee G R
theorem Ef {e:Expr}{line:Nat}(h:(!gX e)=true):swapsWith e none line env=pure false:=by
 induction e using PySem.Expr.casesOn with
 |ListComp=>exact di h|SetComp=>exact di h|DictComp=>exact di h|_=>rfl
set_option tactic.hygienic true in
theorem Nw (G:c5 X A aq s0 aw env n d0 cl mk)(R:Run X ia aq s0 aw env Av oa m cm s H ae){e:Expr}:
  bM X A ia aq s0 aw env s H (PySem.exec (.Expr e pos) env) (M.bind (kR X.C cl mk e ae) Internal.next):=by
 have go: ∀{mm:M Loc},swapsWith e none pos.line env=pure false->fX X A ia aq s0 aw env s H (eval e env) mm->bM X A ia aq s0 aw env s H (PySem.exec (.Expr e pos) env) (M.bind mm Internal.next):=λ{mm} hs h r H' e' Q E hQ hE=>by
  refine wpAny_Expr_any ?_ (by delta interactive;refine aa R.loc.kind ?_;rfl) hs;refine b7 e' ?_ ?_;intro q e1 ak;subst ak;rotate_left;intro aK H1 e1 e2;rotate_right
  ·exact h _ _ e1 _ _ (λa6 q=>xE q) λp' q e' s' z=>hE p' (by refine jE q λah=>?_;clear q;subst ah;rfl) e' s' z
  ·refine aN e2 λah ak=>?_;clear e2;subst ah;subst ak;exact h _ _ e1 _ _ (λa6 q u s' Av oa m cm R'=>by refine jO q λah=>?_;clear q;subst ah;exact hQ _ _ rfl _ _ _ _ _ _ R' trivial) λp q=>by exact xO q
 delta kR;refine cO (o6 e) (λh=>?_) λx h=>?_
 ·refine aa h (.guard λc=>go (Ef c) λr H' e' Q E hQ hE=>?_);have iV:=bc G.ev e 3 R.base R.loc;refine b7 e' ?_ ?_;intro q e1 ak;subst ak;rotate_left;intro v H1 e1 e2;rotate_right
  ·exact iV _ _ e1 _ _ (λd q=>xE q) λp' q e' s' x y z=>hE p' (by refine jE q λah=>?_;clear q;subst ah;rfl) e' s' (R.err G x y z)
  ·induction v using AV.casesOn with
   |none=>
    refine aN e2 λah ak=>?_;clear e2;subst ah;subst ak;refine iV _ _ e1 _ _ (λd q u s1 x1 y1 z1=>?_) (λp q=>xO q);refine jO q λah=>?_;clear q;subst ah;exact hQ _ rfl u s1 _ _ _ _ (R.step G x1 y1)
   |_=>exact xNS e2
 ·refine aa h ?_;obtain⟨⟨o,mn,ap⟩,args,p⟩:=x;cases j5 h;refine .guard λc=> cO (Iq ae o) (λh=>?_) λq h=>?_
  ·exact aa h .stuck
  ·refine aa h (af (mX h) λxp ho hl=>?_);subst ho;exact go rfl (BJ G R hl c)
section
open Classical in
noncomputable def GH (h:qqK)(p:qq7->Prop):qqK:={h with objs:=h.objs.mapIdx λi o=>if p i then o else{cls:= .none,data:= .freed}}
theorem Eg {h:qqK}{p:qq7->Prop}{o:Obj}:(GH h p).get? b=some o↔p b/\h.get? b=some o:=by
 unfold GH qqK.get?;simp only [Array.getElem?_mapIdx];cases h.objs[b]? with
 |none=>simp|some ob=>
  by_cases q:p b
  ·simp [q]
  ·simp [q]
end
variable {nQ:qq1}{dZ:qq7->Prop}
theorem nR (G:c5 X A aq s0 aw env n d0 cl mk){p:AV}{e:qq0}(h:de X s0 aq aw (env::aq) p H e s){E:qq0->qq1->Prop}(hE: ∀e s',de X s0 aq aw (env::aq) p H e s'->E e s'):
  notedBy (qq5 X.P X.w) A env (λe s'=>cameBackBy (qq5 X.P X.w) A env E e s') e s:=by
 exact ac G.base λH0 B0=> zB G.frames B0 G.fresh h λs' h' tb=>Gi B0 G.fresh h' tb λty CP=>hE e ty CP
theorem Jh (G:c5 X A aq s0 aw env n d0 cl mk)(R:Run X ia aq s0 aw env Av oa m cm s H ae){t:Expr}{W:Nat}{mb:Loc->M (Fl×Loc)}
  (hb: ∀s H Av oa m cm ae,Run X ia aq s0 aw env Av oa m cm s H ae->bM X A ia aq s0 aw env s H (PySem.execs body env) (mb ae)):
  bM X A ia aq s0 aw env s H (PySem.exec (.While t body [] pos) env) (fE (λae=>EO X.C cl mk 3 t ae (ev X.C cl mk 3 t ae)) mb W ae):=by
 intro r H' e Q E hQ hE;refine wpAny_While (codeAny_whileLoop (λk s=>∃ae H Av oa m cm,Run X ia aq s0 aw env Av oa m cm s H ae/\fE (λae=>EO X.C cl mk 3 t ae (ev X.C cl mk 3 t ae)) mb k ae H=some (r,H')) (λk s hI=>?_) W (OH ae H Av oa m cm R e));refine Ki hI λae H Av oa m cm R e=>?_;cases k with
 |zero=>exact xNS e|succ k=>
  have er: ∀p,r= .error p-> ∀e s',de X s0 aq aw (env::aq) p H' e s'->notedBy (qq5 X.P X.w) A env (λe s'=>cameBackBy (qq5 X.P X.w) A env E e s') e s':=λp q e s' h=>nR G h (hE p q);refine(h_ G.ev t 3 rfl (bc G.ev t 3 R.base R.loc) R.base R.loc).use e (λb H1 e2 c s1 x1 y1 z1=>?_) λp q e' s' x y z=>er p q e' s' (R.err G x y z);have R1:=R.step G x1 y1;refine bq (show b=c from z1) ?_
  induction b using Bool.casesOn with
  |true=>
   refine(hb s1 H1 _ _ _ _ ae R1).use e2 (λaK H2 e4 s2 yX Nk m2 zx R2=>⟨k,vz _,aK,H2,yX,Nk,m2,zx,R2,e4⟩) (λd aK H2 e4 v s2 yX Nk m2 zx R2 w=>?_) er;refine aN e4 λah ak=>?_;clear e4;subst ah;subst ak;exact hQ _ _ rfl (.ret v) _ _ _ _ _ R2 w
  |false=>
   refine aN e2 λah ak=>?_;clear e2;subst ah;subst ak;exact ud (hQ _ _ rfl .next _ _ _ _ _ R1 trivial)
theorem Run.rebase (x0:Ex X (aO aq) s0 nQ)(h1: ∀b,aw b->dZ b)(h2: ∀b,dZ b->aw b\/s0.heap.get? b=none)(h3: ∀b,nQ.heap.get? b=none->s0.heap.get? b=none)(R:Run X ia aq nQ dZ env Av oa m cm s H ae):Run X ia aq s0 aw env Av oa m cm s H ae:=
 ⟨x0.trans R.ex,R.base,R.loc,λb q=>R.sub b (h1 b q),λb q=>by
  refine ui (R.fresh b q) (λq=>?_) λq=>?_
  ·exact h2 b q
  ·exact .inr (h3 b q),λx ob e q=>R.own x ob e (h1 _ q),λx c ks vs dx e h=>⟨λq=>(R.ownD x c ks vs dx e h).1 (h1 _ q),(R.ownD x c ks vs dx e h).2⟩⟩
theorem de.rebase {fr:List Env}{p:AV}{e:qq0}(x0:Ex X (aO aq) s0 nQ)(h1: ∀b,aw b->dZ b)(h2: ∀b,dZ b->aw b\/s0.heap.get? b=none)(h3: ∀b,nQ.heap.get? b=none->s0.heap.get? b=none)(h:de X nQ aq dZ fr p H e s):de X s0 aq aw fr p H e s:=
 ef h λAv x B g1 g2 F=>(j1 Av (x0.trans x) B (λb q=>g1 b (h1 b q)) (λb q=>(g2 b q).elim (h2 b) λq=>.inr (h3 b q)) (F.old h3))
structure Apart (X:Cx)(fr:List Env)(s0:qq1)(env:Env)(Av:qq7->Prop)(oa:Str->qq7)(ae:Loc)(s:qq1)(b:qq7):Prop where
 av:Av b
 new:s0.heap.get? b=none
 nwf: ¬WF env b
 nown: ∀x ob,ae.om.lookup x=some ob->oa x≠b
 ndx: ∀x c ks vs dx,ae.om.lookup x=some (.inst c ks vs)->s.heap.get? (oa x)=some (qz1 c dx)->dx≠b
 nH:X.aH≠some b
 nf:b∉aO fr
theorem Run.hideS (R:Run X ia aq s0 aw env Av oa m cm s H ae)(k: ∀b o,s.heap.get? b=some o->s'.heap.get? b=some o)(hg:s'.gens=s.gens)(ho:s'.os=s.os)(hz: ∀b∈Z,s.heap.get? b=none/\ ∃o,s'.heap.get? b=some o):
  Run X ia aq s0 aw env (ins Av Z) oa m cm s' H ae:=by
 have h2: ∀b o,s.heap.get? b=some o-> ¬Av b-> ¬ins Av Z b:=λb o e n q=>by
  refine ui q (λq=>?_) λq=>?_
  ·exact n q
  ·replace e:=eS (hz b q).1 e;exact xNS e
 exact⟨R.ex.then_ (λb o o' _ e'=>k b o' e') hg ho,R.base.keep k (λb q=>.inl q) h2 (λb q=>by
   refine ui q (λq=>?_) λq=>?_
   ·refine ac (R.base.live b q) λo h=>?_;exact⟨o,k b o h⟩
   ·exact(hz b q).2),R.loc.keep k (λb q=>.inl q) h2,λb q=>.inl (R.sub b q),λb q=>by
   refine ui q (λq=>?_) λq=>?_
   ·exact R.fresh b q
   ·exact .inr (R.gone (hz b q).1),R.own,λx c ks vs dx e h=>by
   refine af (gv R.loc e) λEC g ak=>?_;have:=k _ _ g;replace this:=eS h this;refine al this λah=>?_;clear this;cases ah;exact R.ownD x c ks vs dx e g⟩
theorem Run.stepZ (G:c5 X A aq s0 aw env n d0 cl mk)(R:Run X ia aq s0 aw env Av oa m cm s H ae)(hZ: ∀b∈Z,Apart X (env::aq) s0 env Av oa ae s b)(st:dY (· ∈Z) s s'):
  Run X ia aq s0 aw env Av oa m cm s' H ae/\ ∀b∈Z,Apart X (env::aq) s0 env Av oa ae s' b:=by
 have c:dB s.heap Av s'.heap Av:=st.chg λb q=>(hZ b q).av;refine ac G.base λH0 B0=>?_;have L:=R.loc;have B:=R.base;have i2: ∀x c ks vs dx,ae.om.lookup x=some (.inst c ks vs)->s'.heap.get? (oa x)=some (qz1 c dx)->s.heap.get? (oa x)=some (qz1 c dx):=λx c ks vs dx e h=>by
  refine af (gv L e) λEC g ak=>?_;have:=st.keep _ _ (λq=>(hZ _ q).nown x _ e rfl) g;replace this:=eS h this;refine al this λah=>?_;clear this;cases ah;exact g
 refine⟨⟨R.ex.then_ (λb o o' e e'=>st.keep b o' (λq=>by replace e:=eS (hZ b q).new e;exact xNS e) e') st.gens st.os,
  ⟨λb o e=>st.keep b o (λq=>by have:=(hZ b q).new;replace this:=eS (B0.base b o e) this;exact oz this) (B.base b o e),B.off,λb av=>ac (B.live b av) λo h=>st.live b o h,
   B.hand.move c λa e=>⟨B.hand.av a e,λo h=>st.keep a o (λq=>(hZ a q).nH e) h⟩,λen he=>?_⟩,
  {kind:=L.kind,glb:=L.glb,bi:=L.bi,dbg:=L.dbg,cdt:=L.cdt,kinds:=L.kinds,ns:= ?_,cells:=λy cc e=>?_,hasc:=L.hasc,avL:=L.avL,avC:=L.avC,apart:=L.apart,vals:=λy d e=>af (L.vals y d e) λv h1 h2=>(aj v h1 (VR.chg c _ _ h2)),owns:=λy gw e=>?_,inj:=L.inj,solo:=L.solo,nL:=L.nL},R.sub,R.fresh,R.own,λx c ks vs dx e h=>R.ownD x c ks vs dx e (i2 x c ks vs dx e h)⟩,λb hb=>?_⟩
 ·refine ai (B.frok en he) λkk aI=>eg aI λL' o hL av nH nb ho hc hn=>?_;exact⟨kk,L',o,hL,av,nH,nb,st.keep L' o (λq=>(hZ _ q).nf (List.mem_filterMap.mpr (aj en he hL))) ho,hc,hn⟩
 ·exact aB L.ns λo es ep ho r=>(ct o es ep (st.keep _ _ (λq=>(hZ _ q).nwf (.inl rfl)) ho) r)
 ·exact af (L.cells y cc e) λo ho hd=>(aj o (st.keep _ _ (λq=>(hZ _ q).nwf (.inr ⟨y,e⟩)) ho) hd)
 ·refine bb (L.owns y gw e) λa1 a2 a3 a4 a5=>?_;have ny:oa y∉Z:=λq=>(hZ _ q).nown y _ e rfl;refine(cV a1 a2 a3 a4 ?_)
  induction gw using OB.casesOn with
  |list l=>
   exact aC a5 λvs ah z r=>ac ah λn h1=>(aV vs ⟨n,st.keep _ _ ny h1⟩ z (aF.chg c _ _ r))
  |kd l=>
   refine c7 a5 λxs ah e1 r av=>eh ah λo es ep ho r1 r2 r3 r4 r5=>(cW xs (gG o es ep (st.keep _ _ ny ho) r1 r2 r3 (λz hz=>?_) r5) e1 (aF.chg c _ _ r) av);refine aB (r4 z hz) λo1 i1 n1 g1 g2=>?_;exact⟨o1,i1,n1,(c _ _ g1 (av z hz)).1,g2⟩
  |inst cc ks vs=>
   exact d9 a5 λdx es n av nl nh g1 g2 e1 r=>(fO dx es n av nl nh (st.keep _ _ ny g1) (st.keep _ _ (λq=>(hZ _ q).ndx y cc ks vs dx e g1 rfl) g2) e1 (aF.chg c _ _ r))
 ·have z:=hZ b hb;exact⟨z.av,z.new,z.nwf,z.nown,λx c ks vs dx e h=>z.ndx x c ks vs dx e (i2 x c ks vs dx e h),z.nH,z.nf⟩
theorem Run.anew (G:c5 X A aq s0 aw env n d0 cl mk)(R:Run X ia aq s0 aw env Av oa m cm s H ae)(hZ: ∀b∈Z,Apart X (env::aq) s0 env Av oa ae s b):
  ∃nQ dZ,c5 X A aq nQ dZ env n d0 cl mk/\Run X ia aq nQ dZ env Av oa m cm s H ae/\Ex X (aO aq) s0 nQ/\(∀b,aw b->dZ b)/\(∀b,dZ b->aw b\/s0.heap.get? b=none)/\(∀b,nQ.heap.get? b=none->s0.heap.get? b=none)/\
   (∀b∈Z,dZ b)/\(∀b,dZ b->Av b)/\ ∀b o,s.heap.get? b=some o->(¬Av b\/dZ b)->nQ.heap.get? b=some o:=by
 refine ac G.base λH0 B0=>?_
 let dZ:qq7->Prop:=λb=>aw b\/b∈Z
 let p:qq7->Prop:=λb=>¬Av b\/dZ b
 let nQ:qq1:={s with heap:=GH s.heap p}
 have get: ∀b o,nQ.heap.get? b=some o↔p b/\s.heap.get? b=some o:=λb o=>Eg;have pB: ∀b,¬p b->nQ.heap.get? b=none:=λb h=>by
  cases q:nQ.heap.get? b with
  |none=>rfl|some o=>exact absurd ((get b o).mp q).1 h
 have GI: ∀b,dZ b->Av b:=λb q=>by
  refine ui q (λq=>?_) λq=>?_
  ·exact R.sub b q
  ·exact(hZ b q).av
 have Nx: ∀b o,s0.heap.get? b=some o-> ∃o',s.heap.get? b=some o':=λb o e=>by
  cases q:s.heap.get? b with
  |none=>replace e:=eS (R.gone q) e;exact xNS e|some o'=>exact⟨o',rfl⟩
 have p0: ∀b o,s0.heap.get? b=some o->p b:=λb o e=>by
  by_cases q:Av b
  ·refine ui (R.fresh b q) (λh=>?_) λh=>?_
   ·exact .inr (.inl h)
   ·replace e:=eS h e;exact xNS e
  ·exact .inl q
 have Tj: ∀b,Av b->s0.heap.get? b=none->b∉Z-> ¬p b:=λb av h hz q=>by
  rcases q with q|q|q
  ·exact q av
  ·refine ac (B0.live b q) λo ho=>?_;replace ho:=eS h ho;exact xNS ho
  ·exact hz q
 have x0:Ex X (aO aq) s0 nQ:=⟨λb o e n nf=>(get b o).mpr ⟨p0 b o e,R.ex.keep b o e n nf⟩,λb o e n nf=>by
  refine ac (R.ex.slots b o e n nf) λsl h=>?_;exact⟨sl,(get b _).mpr ⟨p0 b o e,h⟩⟩,R.ex.gens,R.ex.os⟩
 refine(OF nQ dZ ⟨G.ev,G.frames,⟨H,?_⟩,λb hb=>?_,λb hb=>?_⟩ ⟨⟨λb o e _ _=>((get b o).mp e).2,λb o e _ _=>⟨o.slots,((get b o).mp e).2⟩,rfl,rfl⟩,R.base,R.loc,GI,λb av=>?_,λx ob e q=>?_,λx c ks vs dx e h=>?_⟩ x0 (λb q=>.inl q) (λb q=>?_) (λb q=>?_) (λb hb=>.inr hb) GI (λb o e h=>(get b o).mpr ⟨h,e⟩))
 ·refine⟨λb o e=>(get b o).mpr ⟨.inl (R.base.off b o e),R.base.base b o e⟩,λb o e q=>R.base.off b o e (GI b q),λb q=>?_,R.base.hand.move (λb o e n=>⟨(get b o).mpr ⟨.inl n,e⟩,λq=>n (GI b q)⟩) λa e=>⟨.inl (B0.hand.av a e),λo ho=>(get a o).mpr ⟨.inr (.inl (B0.hand.av a e)),ho⟩⟩,λen he=>?_⟩
  ·refine ac (R.base.live b (GI b q)) λo ho=>?_;exact⟨o,(get b o).mpr ⟨.inr q,ho⟩⟩
  ·refine ai (R.base.frok en (uz _ he)) λkk aI=>eg aI λL o hL av nH nb ho hc hn=> ai (B0.frok en he) λaz aI=>a8 aI λL2 o2 CZ LQ A6=>?_;replace CZ:=eS hL CZ;refine al CZ λah=>?_;clear CZ;subst ah;exact⟨kk,L,o,hL,.inl LQ,nH,nb,(get L o).mpr ⟨.inr (.inl LQ),ho⟩,hc,hn⟩
 ·refine ui (G.fresh b hb) (λh=>?_) λh=>?_
  ·exact .inl h
  ·refine .inr (pB b (Tj b (R.base.frok.av hb) h λq=>(hZ b q).nf hb))
 ·exact pB b (Tj b (eE R.loc hb) (G.wfresh b hb) λq=>(hZ b q).nwf hb)
 ·by_cases q:dZ b
  ·exact .inl q
  ·refine .inr (pB b λh=>?_);refine ui h (λh=>?_) λh=>?_
   ·exact h av
   ·exact q h
 ·refine ui q (λq=>?_) λq=>?_
  ·exact R.own x ob e q
  ·exact(hZ _ q).nown x ob e rfl
 ·refine⟨λq=>?_,(R.ownD x c ks vs dx e h).2⟩;refine ui q (λq=>?_) λq=>?_
  ·exact(R.ownD x c ks vs dx e h).1 q
  ·exact(hZ _ q).ndx x c ks vs dx e h rfl
 ·refine ui q (λq=>?_) λq=>?_
  ·exact .inl q
  ·exact .inr (hZ b q).new
 ·cases z:s0.heap.get? b with
  |none=>rfl|some o=>
   refine ac (Nx b o z) λo' h=>?_;have:=(get b o').mpr ⟨p0 b o z,h⟩;replace this:=eS q this;exact xNS this
theorem jN (G:c5 X A aq s0 aw env n d0 cl mk)(R:Run X ia aq s0 aw env Av oa m cm s H ae){t:Expr}{d:AV}(hv:VV X s.heap Av d v){r:Except AV Loc}(e:aR t d ae H=some (r,H')):
  H'=H/\ ∃rho',r= .ok {ae with rho:=rho'}/\ ∀{Q:Unit->qq1->Prop} {E:qq0->qq1->Prop},(∀s' m' dc,dY (WF env) s s'->Run X ia aq s0 aw env Av oa m' dc s' H {ae with rho:=rho'}->Q () s')->qq3 (qq5 X.P X.w) A (assign t env v) Q E s:=by
 delta aR at e;refine cO (fC t d) (λhb=>?_) λbs hb=>?_
 ·replace e:=hb▸e;exact xNS e
 ·replace e:=hb▸e;refine ai (ic e) λaz aI=>aC aI λrho' gm h3 h4=>?_;clear aI;subst gm;subst az;refine ac G.base λH0 B0=>?_;exact⟨rfl,rho',rfl,λ{Q E} hQ=>jo G.ev.hA R.base R.loc (λb q=>eE R.loc q) hb (λx hx=>De R.loc (h3 x hx).1 (h3 x hx).2) hv (λs' st fm=>ao.wrote B0 R.base st (λb q=>⟨eE R.loc q,G.wfresh b q⟩) fm) λs' m' dc st fm L'=>hQ s' m' dc st (R.named G st (λb q=>q) fm (aJ.rho (ae:={ae with rho:=bs.reverse++ae.rho}) L' λx dd h=>h4 x dd h))⟩
theorem nS {h h1 h2:qqK}{ix yX Xo:qq7->Prop}(a:dB h ix h1 yX)(b:dB h1 yX h2 Xo):dB h ix h2 Xo:=λx o e n=>b x o (a x o e n).1 (a x o e n).2
def pC (X:Cx)(A:qqG)(ia:qq7)(aq:List Env)(env:Env)(n d0:Nat)(cl mk:qq7->List AV->M AV)(body:List Stmt)(mb:Loc->M (Fl×Loc)):Prop:=
 ∀s0 aw,c5 X A aq s0 aw env n d0 cl mk-> ∀s H Av oa m cm ae,Run X ia aq s0 aw env Av oa m cm s H ae->bM X A ia aq s0 aw env s H (PySem.execs body env) (mb ae)
noncomputable def zW (t:Expr)(mb:Loc->M (Fl×Loc))(v:AV)(ae:Loc):M (Fl×Loc):=M.bind (aR t v ae) λa6=>mb a6
noncomputable def Tk (g:Loc->M (Fl×Loc))(x:Fl×Loc):M (Fl×Loc):=match x.1 with
 | .next=>g x.2| .ret u=>M.pure (.ret u,x.2)
def GJ (X:Cx)(ia:qq7)(aq:List Env)(s0:qq1)(aw:qq7->Prop)(env:Env)(h:qqK)(Av:qq7->Prop)(Z:List qq7)(St:Nat->qqK->Prop)(i:Nat)(ae:Loc)(H:HS)(s:qq1):Prop:=
 ∃Tl oa m cm,Run X ia aq s0 aw env Tl oa m cm s H ae/\(∀b∈Z,Apart X (env::aq) s0 env Tl oa ae s b)/\St i s.heap/\dB h Av s.heap Tl
theorem Eh (L:aJ X s.heap env Av oa ae m cm){x:Str}{c dx:qq7}{ks:List Str}{vs:List AV}(e:ae.om.lookup x=some (.inst c ks vs))(k: ∀o,s.heap.get? (oa x)=some o->s'.heap.get? (oa x)=some o)(h:s'.heap.get? (oa x)=some (qz1 c dx)):s.heap.get? (oa x)=some (qz1 c dx):=
 af (gv L e) λ_ g _=>(k _ g).symm.trans h▸g
theorem Apart.wrote {fr:List Env}{rho:List (Str×AV)}(z:Apart X fr s0 env Av oa ae s b)(L:aJ X s.heap env Av oa ae m cm)(st:dY (WF env) s s'):Apart X fr s0 env Av oa {ae with rho:=rho} s' b:=
 ⟨z.av,z.new,z.nwf,z.nown,λx c ks vs dx e h=>z.ndx x c ks vs dx e (Eh L e (λo q=>st.keep _ o (k8 L e) q) h),z.nH,z.nf⟩
theorem pD (G:c5 X A aq s0 aw env n d0 cl mk)(R:Run X ia aq s0 aw env Av oa m cm s H ae){δ:Type}{t:Expr}{d:AV}(hv:VV X s.heap Av d v){k:Loc->M δ}{r:Except AV δ}(e:M.bind (aR t d ae) k H=some (r,H')):
  ∃rho',k {ae with rho:=rho'} H=some (r,H')/\ ∀{Q:Unit->qq1->Prop} {E:qq0->qq1->Prop},(∀s' m' dc,dY (WF env) s s'->Run X ia aq s0 aw env Av oa m' dc s' H {ae with rho:=rho'}->Q () s')->qq3 (qq5 X.P X.w) A (assign t env v) Q E s:=by
 refine(M.bind_some e).elim (λq=>?_) (λq=>?_)
 ·exact af q λp e1 ak=> ai (jN G R hv e1) λaz aI=>af aI λrho' e2 jX=> xE e2
 ·refine aY q λa H1 e1 e2=> ai (jN G R hv e1) λe3 aI=>af aI λrho' e4 h=>?_;replace e2:=e3▸e2;replace e2:=(vl e4)▸e2;exact(aj rho' e2 h)
theorem GK (G:c5 X A aq s0 aw env n d0 cl mk){t:Expr}{mb:Loc->M (Fl×Loc)}(hb:pC X A ia aq env n d0 cl mk body mb){h:qqK}{Z fp:List qq7}{St:Nat->qqK->Prop}{i:Nat}
  (DO: ∀b∈fp,b∈Z\/(∃o,h.get? b=some o)/\ ¬ix b) (A8: ∀i h h',St i h->(∀b∈fp,∀o,h.get? b=some o->h'.get? b=some o)->St i h')
  (R:Run X ia aq s0 aw env Av oa m cm s H ae) (ap: ∀b∈Z,Apart X (env::aq) s0 env Av oa ae s b) (cg:dB h ix s.heap Av) (st:St i s.heap) {d:AV} {v:qq0} (hv:VV X s.heap Av d v)
  {δ:Type} {K:Fl×Loc->M δ} {r:Except AV δ} (e:M.bind (zW t mb d ae) K H=some (r,H')) {β:Type} {k:Flow->Sem β} {Q:β->qq1->Prop} {E:qq0->qq1->Prop}
  (hN: ∀a6 H1,K (.next,a6) H1=some (r,H')-> ∀s',GJ X ia aq s0 aw env h ix Z St i a6 H1 s'->qq3 (qq5 X.P X.w) A (k .next) Q E s')
  (hR: ∀d a6 H1,K (.ret d,a6) H1=some (r,H')-> ∀v s' Av oa m cm,Run X ia aq s0 aw env Av oa m cm s' H1 a6->VV X s'.heap aw d v->qq3 (qq5 X.P X.w) A (k (.ret v)) Q E s')
  (hE: ∀p,r= .error p-> ∀e s',de X s0 aq aw (env::aq) p H' e s'->E e s'):
  qq3 (qq5 X.P X.w) A (assign t env v>>=λ_=>PySem.execs body env>>=k) Q E s:=by
 refine af (pD G R hv (M.bind_assoc.symm.trans e)) λrho e BP=> ua (BP λs5 m5 cm5 Xp R5=>ua ?_);have UE:=λb hb=>(ap b hb).wrote (rho:=rho) R.loc Xp;have Ol:=nS cg (Xp.chg λb q=>eE R.loc q);have Xq:=A8 i s.heap s5.heap st λb hb o q=>Xp.keep b o (λw=>(DO b hb).elim (λz=>(ap b z).nwf w) λz=>z.1.elim λo' d6=>(cg b o' d6 z.2).2 (eE R.loc w)) q;refine Kg (R5.anew G UE) λnQ dZ G' R' x0 g1 g2 g3 g4 g5 g6=>?_;refine(hb nQ dZ G' s5 H Av oa m5 cm5 _ R').use e (λNy H6 e4 s6 Xr Xs m6 UF R6=>hN Ny H6 e4 s6 (Cr Xr Xs m6 UF (R6.rebase x0 g1 g2 g3) ?_))
  (λd Ny H6 e4 v s6 Xr Xs m6 UF R6 w=>hR d Ny H6 e4 v s6 Xr Xs m6 UF (R6.rebase x0 g1 g2 g3) (VR.chg (λb o e n=>⟨e,λq=>n (g1 b q)⟩) _ _ w)) λp q e' s' w=>hE p q e' s' (de.rebase x0 g1 g2 g3 w)
 have LR: ∀b o,s5.heap.get? b=some o->(¬Av b\/dZ b)->X.aH≠some b->b∉aO aq->s6.heap.get? b=some o:=λb o e h n nf=>R6.ex.keep b o (g6 b o e h) n nf;have Tn: ∀b o,s5.heap.get? b=some o-> ¬Av b->s6.heap.get? b=some o:=λb o e n=>LR b o e (.inl n) (λq=>n (R5.base.hand.av b q)) λq=>n (R5.base.frok.av (kz q));refine(aQ (λb hb=>?_) (A8 i _ _ Xq λb hb o q=>?_) (λb o eb nb=>⟨Tn b o (Ol b o eb nb).1 (Ol b o eb nb).2,λq=>?_⟩))
 ·have z:=UE b hb;exact⟨R6.sub b (g4 b hb),z.new,z.nwf,λx ob e q=>R6.own x ob e (q▸g4 b hb),λx c ks vs dx e h q=>(R6.ownD x c ks vs dx e h).1 (q▸g4 b hb),z.nH,z.nf⟩
 ·exact(DO b hb).elim (λz=>LR b o q (.inr (g4 b z)) (UE b z).nH λw=>(UE b z).nf (kz w)) λz=>z.1.elim λo' d6=>Tn b o q (Ol b o' d6 z.2).2
 ·exact(R6.fresh b q).elim (λw=>(Ol b o eb nb).2 (g5 b w)) λw=>xNS (w.symm.trans (g6 b o (Ol b o eb nb).1 (.inl (Ol b o eb nb).2)))
theorem apart_new (R:Run X ia aq s0 aw env Av oa m cm s H ae)(R2:Run X ia aq s0 aw env (ins Av Z) oa m cm s' H ae)(k: ∀b o,s.heap.get? b=some o->s'.heap.get? b=some o)(hb:b∈Z)(hn:s.heap.get? b=none):Apart X (env::aq) s0 env (ins Av Z) oa ae s' b:=by
 have no: ∀o,s.heap.get? b≠some o:=λo q=>xNS (hn.symm.trans q);have off: ¬Av b:=λq=>(R.base.live b q).elim no;refine⟨.inr hb,R.gone hn,λq=>off (eE R.loc q),λx ob e q=>off (q▸(R.loc.owns x ob e).2.1),λx c ks vs dx e h q=>?_,λq=>off (R.base.hand.av b q),λq=>off (R.base.frok.av q)⟩;refine aC (gv R.loc e) λEC g av c8=>?_;have w:=ug ((k _ _ g).symm.trans h);injection w with _ w
 injection w with w
 exact off (q▸w▸av)
set_option tactic.hygienic true in
theorem GL (G:c5 X A aq s0 aw env n d0 cl mk){t:Expr}{mb:Loc->M (Fl×Loc)}(hb:pC X A ia aq env n d0 cl mk body mb){h:qqK}{I:qq7}{Z fp:List qq7}{items:List AV}{Good:qqK->(qq7->Prop)->Prop}{St:Nat->qqK->Prop}{i:Nat}
  (DO: ∀b∈fp,b∈Z\/(∃o,h.get? b=some o)/\ ¬ix b) (IT:oV X A t I Z fp items Good St) (iN:Good h ix) (J:GJ X ia aq s0 aw env h ix Z St i ae H s) (hi:i<=items.length)
  {r:Except AV (Fl×Loc)} (e:bU (zW t mb) (items.drop i) ae H=some (r,H')) {Q:Fin->qq1->Prop} {E:qq0->qq1->Prop}
  (hN:i<items.length-> ∀a6 H1,bU (zW t mb) (items.drop (i+1)) a6 H1=some (r,H')-> ∀s',GJ X ia aq s0 aw env h ix Z St (i+1) a6 H1 s'->Q (.again (.forLoop t (.ref I) body [] env)) s')
  (hQ: ∀f a6,r= .ok (f,a6)-> ∀fl s' Av oa m cm,Run X ia aq s0 aw env Av oa m cm s' H' a6->Zf X aw s'.heap f fl->match fl with| .next=>Q (.again (.block [] env)) s'|fl=>Q (.done fl) s')
  (hE: ∀p,r= .error p-> ∀e s',de X s0 aq aw (env::aq) p H' e s'->E e s'):qq3 (qq5 X.P X.w) A (forTurn t (.ref I) body [] env) Q E s:=by
 refine mI J λTl oa m cm R ap st cg=> ua (qqF (ua (wpAny_onRaise ?_)));by_cases d3:i<items.length
 ·have hd:=qqI d3;replace e:=(List.drop_eq_getElem_cons d3)▸e;refine IT.item i _ Tl s _ _ hd st (IT.good _ _ _ _ iN cg) R.base.live (λb hb=>(ap b hb).av) λv s3 LL go=>ua (go _ _ λs4 Oc Xt hv=>?_);refine ai (R.stepZ G ap (LL.p.trans Oc.p)) λR4 ap4=> GK G hb DO IT.frame R4 ap4 (nS cg ((LL.p.trans Oc.p).chg λb q=>(ap b q).av)) Xt hv (K:=Tk (bU (zW t mb) (items.drop (i+1)))) e (λa6 H1 e1 s' J=>ud (hN d3 a6 H1 e1 s' J)) (λd a6 H1 e1 v s' Av oa m cm R w=>ud ?_) hE;refine aN e1 λah ak=>?_;clear e1;subst ah;subst ak;exact hQ _ _ rfl (.ret v) _ _ _ _ _ R w
 ·rw [oY hi d3,List.drop_length] at e;refine aN e λah ak=>?_;clear e;subst ah;subst ak;refine IT.done s _ _ (oY hi d3▸st) λs3 LL=>ud (hQ _ _ rfl .next _ _ _ _ _ (R.stepZ G ap LL.p).1 trivial)
theorem To (G:c5 X A aq s0 aw env n d0 cl mk)(R:Run X ia aq s0 aw env Av oa m cm s H ae){t it:Expr}{body o:List Stmt}{mb:Loc->M (Fl×Loc)}(hb:pC X A ia aq env n d0 cl mk body mb):
  bM X A ia aq s0 aw env s H (PySem.exec (.For t it body o pos) env) (if o.isEmpty && aZ it && (b9 ae it).isNone then M.bind (iB X.C t it ae (ev X.C cl mk 3 it ae) (NU X.C cl mk 3 it ae)) λitems=>
   bU (λv ae=>M.bind (aR t v ae) λa6=>mb a6) items ae else stuck):=by
 refine .guardX λc r H' e Q E hQ hE=> ai (tt c) λc Xu=> ai (tt c) λc CJ=> aa (qqM.mp c) (wpAny_For ?_ λx=>jI (eX CJ));refine(n4 G.ev.O.toCxOk G.ev.hA R.base R.loc (tgt:=t) (vB.mp Xu) (bc G.ev it 3 R.base R.loc) (G5 G.ev R.base R.loc)).use e (λitems H1 e2 x sm s1 x1 y1 Gb=>Gb A G.ev.hA _ _ λit' s2 CH=>?_) λp q e' s' x y z=>hE p q e' s' (R.err G x y z);refine ES CH λI Z fp Good St dX hIZ IT iN Nc DO lX Sx=>?_;clear CH;subst dX;have Rm:=R.step G x1 y1;have k2: ∀b o,sm.heap.get? b=some o->s2.heap.get? b=some o:=λb o e=>lX.keep b o (λq=>q) e;have R2:=Rm.hideS (s':=s2) k2 lX.gens lX.os Nc;have J0:GJ X ia aq s0 aw env sm.heap Av Z St 0 ae H1 s2:=(eN _ oa m cm R2 (λb hb=>apart_new Rm R2 k2 hb (Nc b hb).1) Sx (λb o e n=>⟨k2 b o e,λq=>q.elim n λq=>xNS ((Nc b q).1.symm.trans e)⟩));refine codeAny_loop' rfl (λk s=>∃i ae H,k=items.length-i/\i<=items.length/\GJ X ia aq s0 aw env sm.heap Av Z St i ae H s/\bU (zW t mb) (items.drop i) ae H=some (r,H')) (λk s hJ=>?_) items.length (kP 0 ae H1 rfl (uG _) J0 e2);refine gE hJ λi ae H hk hi J e=>?_;refine wpAny_noted (GL G hb DO (IT A G.ev.hA) iN J hi e (λd3 a6 H1 e1 s' J=>.inl ⟨rfl,items.length-(i+1),hk▸FX d3,i+1,a6,H1,rfl,d3,J,e1⟩) (λf a6 q fl s' Av oa m cm R w=>?_)
  λp q e s h=>nR G h (hE p q))
 have z:=hQ f a6 q fl s' Av oa m cm R w;cases fl<;>first|exact z|exact .inr ⟨rfl,codeAny_block (ud z)⟩
noncomputable abbrev dT (C:qq7)(a:qq0):Obj:={cls:= .ref C,data:= .fields #[a,.none,.none,.none,.bool false,.none]}
structure l9 (M:Model)(h:qqK)(C:qq7):Prop where
 obj: ∃oc od cd sl,h.get? C=some ⟨oc,od,.cls cd,sl⟩/\cd.abstract=false/\cd.hasDel=false/\cd.mro.isEmpty=false
 made:Looks M h (Bind.madeBy (.ref C)) (some "Exception.__new__")
 base:Looks M h (Bind.staticBase (.ref C)) (.ref C)
 self:Looks M h (qzS (.ref C) (.ref C)) true
 exc:Looks M h (qzS (.ref C) (.type "Exception")) true
 Zt:Looks M h (qzS (.ref C) (.type "AttributeError")) false
 Zu:Looks M h (qzS (.ref C) (.type "NameError")) false
 call:Looks M h (specialOf (.ref C) "__call__") (some (.builtin "type.__call__"))
 Xv:Looks M h (isInstance (.ref C) (.type "type")) true
noncomputable def ig (K:Frag)(C:qq7):Bool:=match K.lookup C with
 |some ⟨_,_,.cls cd,sl⟩=>!cd.abstract && !cd.hasDel && (sl.toList[4]?).join==some (.builtin "Exception.__new__") && !cd.mro.isEmpty && cd.mro.contains (.ref C) && cd.mro.contains (.type "Exception") && !cd.mro.contains (.type "AttributeError") && !cd.mro.contains (.type "NameError") &&
   specialIn K (.ref C) "__call__"==some (some (.builtin "type.__call__")) && instIn K (.ref C) (.type "type")==some true
 |_=>false
set_option tactic.hygienic true in
theorem zX {K:Frag}{M:Model}{h:qqK}(X:K.In h){C:qq7}(e:ig K C=true):l9 M h C:=by
 delta ig at e;split at e
 ·rename_i oc od cd sl ho
  simp only [uv,vJ,beq_iff_eq] at e;refine ai e λaz e8=>ai az λAB e7=> ai AB λIM e6b=>ai IM λWS e6a=> ai WS λWT e6=>ai WT λfw e5=> ai fw ?_;clear fw;intro fw e4;refine ai fw ?_;clear fw;intro fw e3;refine ai fw λe1 e2=>?_;have hc:clsIn K C=some cd:=by delta clsIn;exact aa ho rfl
  have hm:Looks M h (mroOf (.ref C)) cd.mro:=(looks_clsIn X hc).andThen .now;refine aX (by cases q:cd.mro with|nil=>replace e4:=q▸e4;exact ZL e4|cons c l=>exact(cK c l rfl): ∃c l,cd.mro=c::l) ?_;intro c l hl;have made:Looks M h (Bind.madeBy (.ref C)) (some "Exception.__new__"):=by
   intro A Q E s k q;delta Bind.madeBy;refine ua (hm A _ E s k ?_);refine aa hl ?_;rewrite [vN];refine ua (ua (ua (ua (qzO (k _ _ (X _ _ ho)) (ud ?_)))));dsimp only;refine bq qqP ?_;exact aa e3 (ud (ud (ud q)))
  have sub: ∀t b,cd.mro.contains t=b->mroIn K C t=some b:=λt b q=>by
   delta mroIn;refine aa hc ?_;rewrite [Option.bind_some];refine aa (if_neg (by refine aa e4 ?_;decide)) ?_;exact aa q rfl
  refine⟨(eN oc od cd sl (X _ _ ho) e1 e2 e4),made,?_,qzD X (sub _ _ e5),qzD X (sub _ _ e6),qzD X (sub _ _ e6a),qzD X (sub _ _ e6b),looks_specialIn X e7,looks_instIn X e8⟩;intro A Q E s k q;delta Bind.staticBase;refine ua (hm A _ E s k ?_);refine aa hl ?_;rewrite [vN];exact ua (ua (ua (made A _ E s k (ud (ud (ud q))))))
 ·exact di e
variable {prog:qzJ}{w:World}{C:qq7}{R:Result->qq1->Prop}{h:qqK}{g:Array GenState}{d:Drawn}{t:Nat}{os:OsState}
theorem Ji {rest:List qq0}(Y:l9 (qq5 prog w) h C)(Dm:rest.length<=1000)
  (hq:R (.ok (.ret (.ref (h.objs.size+1)))) ⟨(h.push {cls:= .type "tuple",data:= .seq rest.toArray}).push (dT C (.ref h.objs.size)),g,d,t,os⟩):
  qzZ (qq5 prog w) A (.call (.builtin "Exception.__new__") ⟨.ref C::rest,[]⟩) R ⟨h,g,d,t,os⟩:=by
 obtain⟨⟨oc,od,cd,sl,hC,e1,e2,e4⟩,made,base,self,exc,Zt,Zu,call,Xv⟩:=Y;have Fn:=PySem.F.excBase_Exception;have Dm:rest.length<=sizeLine:=by exact aa sizeLine_eq (o0 Dm)
 refine codeAny_call_builtin_code (qx6 _ Fn.quiet) ?_
 ·have Zv:=Fn.noStar;delta checkBuiltinCall;refine aa Fn.newKind (aa Fn.newSplit ?_);dsimp only
  repeat (first|rw [bne_self_eq_false,if_neg uB]|simp only [bne_self_eq_false,uX,if_false]|lk|wp_step)
  have Zw:=Fn.ends;refine codeAny_builtinAt Fn.entry ?_;delta Builtin.«BaseException.__new__»;refine PySem.wpAt_bind (?_:PySem.wpAt _ _ _ (stack>>=_) _ _ _);refine PySem.wpAt_bind (PySem.wpAt_stack λp below=>PySem.wpAt_of_wpAny ?_);wp_walk;refine PySem.wpAt_of_wpAny (aa Fn.owner ?_);unfold isType Bind.madeHere
  repeat (first|rw [vS,bne_self_eq_false,if_neg uB]|simp only [bne_self_eq_false,uX,if_false,vS]|lk|wp_step)
  have hC':=uc (dT C (.ref h.objs.size)) (uc {cls:= .type "tuple",data:= .seq rest.toArray} hC);refine wpAny_load (s:=⟨(h.push {cls:= .type "tuple",data:= .seq rest.toArray}).push (dT C (.ref h.objs.size)),g,d,t,os⟩) hC' (ud (aa e2 (ud (ud ?_))));refine(?_:R _ _);rw [uR];exact hq
theorem GN {rest:List qq0}{fI:qq7}(Y:l9 (qq5 prog w) h C)(Dm:rest.length<=1000)(hi:Looks (qq5 prog w) h (typeLookup (.ref C) "__init__") (some (.ref fI)))
  (hb: ∀self,Looks (qq5 prog w) h (bindSpecial (.ref fI) self) (.ref fI,[self]))
  (hq:qzZ (qq5 prog w) (A.under (.builtin "type.__call__" ⟨.ref C::rest,[]⟩)) (.call (.ref fI) ⟨.ref (h.objs.size+1)::rest,[]⟩) (InitBack (h.objs.size+1) R) ⟨(h.push {cls:= .type "tuple",data:= .seq rest.toArray}).push (dT C (.ref h.objs.size)),g,d,t,os⟩):
  qzZ (qq5 prog w) A (.call (.ref C) ⟨rest,[]⟩) R ⟨h,g,d,t,os⟩:=by
 have Y':=Y;obtain⟨⟨oc,od,cd,sl,hC,e1,e2,e4⟩,made,base,self,exc,Zt,Zu,call,Xv⟩:=Y;have Fn:=PySem.F.excBase_Exception;refine codeAny_of_tree (?_:qq3 _ _ (callAny (.ref C) _) _ _ _);refine nd_load hC (?_:qq3 _ _ (callAny.viaDunder (.ref C) _) _ _ _);delta callAny.viaDunder;refine ua (call.at ?_);dsimp only;rw [tc_bind];refine bp (bp ?_);refine ud (a:=Fin.again (.call (.builtin "type.__call__") ⟨.ref C::rest,[]⟩)) (And.intro rfl ?_);refine codeAny_call_builtin_at (qx6 _ (by decide+kernel)) entry_typeCall (check_slot tc_kind tc_split Xv (tc_args _ _ _) ?_);delta Builtin.«type.__call__»;have hm:Looks (qq5 prog w) h (mroOf (.ref C)) cd.mro:=((Looks.ld (part:=none) hC).andThen .now).andThen .now
 repeat (first|(refine aa e4 (aa (if_neg uB) ?_))|simp only [e4,uX,if_false]|with_reducible refine qzF ?_|lk)
 refine Ji Y' Dm ?_;have k: ∀b o,h.get? b=some o->((h.push {cls:= .type "tuple",data:= .seq rest.toArray}).push (dT C (.ref h.objs.size))).get? b=some o:=λb o e=>uc _ (uc _ e);have hx:((h.push {cls:= .type "tuple",data:= .seq rest.toArray}).push (dT C (.ref h.objs.size))).get? (h.objs.size+1)=some (dT C (.ref h.objs.size)):=by heap_get
 have t1:Looks (qq5 prog w) ((h.push {cls:= .type "tuple",data:= .seq rest.toArray}).push (dT C (.ref h.objs.size))) (typeOf (.ref (h.objs.size+1))) (.ref C):=(Looks.ld hx).andThen .now;have s1:=self.keeps k;have i1:=hi.keeps k;have b1:=(hb (.ref (h.objs.size+1))).keeps k;unfold isInstance callSpecial? specialOf
 repeat (first|with_reducible refine qzF ?_|lk)
 refine codeAny_mono hq λr s' z=>?_;rcases r with e|(v|_|_|_)<;>first|exact z|exact z.elim|skip
 refine ai z ?_;clear z;intro az z;subst az;exact ud (ud z)
theorem Dn:typeOf (.builtin "Exception.__init__")=pure (.type "wrapper_descriptor"):=by refine(?_:builtinType _=_);refine aa builtinType_eq_fast ?_;kernel_rfl
theorem Do:Slot "wrapper_descriptor" "__get__" "wrapper_descriptor.__get__":= .of (owner:= "wrapper_descriptor") (n:= "__get__") (by rewrite [qzQ];refine aa qqY ?_;kernel_rfl) (by decide+kernel) (by decide+kernel) (by decide+kernel)
  (by first|exact .inl (by decide+kernel)|exact .inr (by decide+kernel)) (by rw [isSubtype_type];kernel_rfl)
theorem GO:entryFor table "wrapper_descriptor.__get__"=some Builtin.«wrapper_descriptor.__get__»:=entryFor_of_tree (by kernel_rfl)
theorem Jk (a b c:qq0):argsOk "wrapper_descriptor.__get__" ⟨[a,b,c],[]⟩:=by delta argsOk;kernel_rfl
noncomputable abbrev pF (D x C:qq7):Obj:={cls:= .type "super",dict:=none,data:= .fields #[.ref D,.ref x,.ref C],slots:= #[]}
noncomputable abbrev wrapObj (i:String)(x:qq7):Obj:={cls:= .type "method-wrapper",data:= .fields #[.builtin i,.ref x]}
variable {E:qq0->qq1->Prop}
theorem Jl: ".".intercalate ("Exception.__init__".cutAt '.').dropLast= "Exception":=by decide+kernel
theorem Nz {x C:qq7}{Q:qq0->qq1->Prop}(hx:h.get? x=some ox)(hc:ox.cls= .ref C)(hs:Looks (qq5 prog w) h (qzS (.ref C) (.type "Exception")) true)
  (hq:Q (.ref h.objs.size) ⟨h.push (wrapObj "Exception.__init__" x),g,d,t,os⟩):
  qq3 (qq5 prog w) A (call (.builtin "wrapper_descriptor.__get__") [.builtin "Exception.__init__",.ref x,.ref C]) Q E ⟨h,g,d,t,os⟩:=by
 refine qqD Do (show typeOf (.builtin "Exception.__init__")=pure (.type "wrapper_descriptor") from Dn) GO ?_ (Jk _ _ _);delta Builtin.«wrapper_descriptor.__get__»;wp_walk;refine aa hc (aa Jl ?_);refine hs.at (ud ?_);delta newFields;refine ua (qqA ?_ (by size_fits));exact ud (aj _ rfl hq)
theorem N0 {so D x C:qq7}{GP l:List qq0}{K:Frag}{tk:Tok}{Q:Fin->qq1->Prop}
  (ED:h.get? so=some (pF D x C)) (Xw:Looks (qq5 prog w) h (opaqueClassAbove (.ref C)) none)
  (hC:Looks (qq5 prog w) h (mroOf (.ref C)) GP) (hl:(GP.dropWhile (· != .ref D)).drop 1=l) (X:K.In h)
  (hf:alongIn K "__init__" l=some (some (.builtin "Exception.__init__"))) (hx:h.get? x=some ox) (hc:ox.cls= .ref C) (hs:Looks (qq5 prog w) h (qzS (.ref C) (.type "Exception")) true) (N3:x≠C)
  (hq:Q (.done (.ret (.ref h.objs.size))) ⟨h.push (wrapObj "Exception.__init__" x),g,d,t,os⟩):
  qq3 (qq5 prog w) A (Builtin.«super.__getattribute__» ⟨[.ref so,.str "__init__" tk],[]⟩) Q E ⟨h,g,d,t,os⟩:=by
 have Xx:=Do.lookup;have CL:(qq0.ref x==qq0.ref C)=false:=by simp [N3]
 have Xy:(pF D x C).data= .fields #[.ref D,.ref x,.ref C]:=rfl;have f0:(#[.ref D,.ref x,.ref C]:Array qq0)[0]? =some (.ref D):=rfl;have f1:(#[.ref D,.ref x,.ref C]:Array qq0)[1]? =some (.ref x):=rfl;have f2:(#[.ref D,.ref x,.ref C]:Array qq0)[2]? =some (.ref C):=rfl;have hn:((qqH "__init__")==("__class__":Str))=false:=by rfl
 have Oh:=Dn;delta Builtin.«super.__getattribute__»
 repeat (first
  |(with_reducible refine qqE ED Xy f0 ?_)|(with_reducible refine qqE ED Xy f1 ?_)|(with_reducible refine qqE ED Xy f2 ?_)
  |(with_reducible refine ks_wpAny_notOpaque Xw ?_)
  |(with_reducible refine Looks.at hC (aa hl ?_))
  |(refine ks_forIn_along X (λ_ _=>rfl) rfl ?_ hf)
  |(with_reducible refine qzR Oh ?_)
  |(with_reducible refine Nz hx hc hs ?_)
  |(simp only [hn,CL,qxX,uX,if_false])
  |wp_step
  |dsimp only)
 all_goals exact hq
theorem mz {so D x C:qq7}{GP l:List qq0}{K:Frag}{pl:Sem Bool}{Q:qq0×List qq0->qq1->Prop}
  (ED:h.get? so=some (pF D x C)) (Xw:Looks (qq5 prog w) h (opaqueClassAbove (.ref C)) none)
  (hC:Looks (qq5 prog w) h (mroOf (.ref C)) GP) (hl:(GP.dropWhile (· != .ref D)).drop 1=l) (X:K.In h)
  (hf:alongIn K "__init__" l=some (some (.builtin "Exception.__init__"))) (hx:h.get? x=some ox) (hc:ox.cls= .ref C) (hs:Looks (qq5 prog w) h (qzS (.ref C) (.type "Exception")) true) (N3:x≠C)
  (hq:Q (.ref h.objs.size,[]) ⟨h.push (wrapObj "Exception.__init__" x),g,d,t+1,os⟩):
  qq3 (qq5 prog w) A (getMethod (.ref so) "__init__" pl) Q E ⟨h,g,d,t,os⟩:=by
 have Xx:=F.ks_slot_super_ga.lookup;have Xz:=F.ks_canon_super_ga;have hT: ∀t',(⟨h,g,d,t',os⟩:qq1).TypeIs (.ref so) "super":=λ_=>(aj _ ED rfl);delta getMethod;refine ua (wpAny_specialOf (hT _) Xx ?_);refine(?_:qq3 _ _ (if(Manifest.canonical "super.__getattribute__" != "object.__getattribute__")=true then _ else _) _ _ _);refine aa (if_pos Xz) ?_;unfold getAttr getAttrBy;refine ua (ua (wpAny_mkText (qq8 (ua (wpAny_typeOf (hT _) (ua (qzR Xx ?_)))))));refine(?_:qq3 _ _ (getAttrByItsOwn (.ref so) (.str "__init__" t) (.type "super") (.builtin "super.__getattribute__") true false) _ _ _);unfold getAttrByItsOwn hookBefore callGetattribute boundAndCalled;refine ua (qzR (show(if onTheHeap (.type "super") then typeLookup (.type "super") "__getattr__" else pure none)=pure none from rfl) ?_);refine ua (qzL (qq8 ?_));refine(?_:qq3 _ _ (bindSpecial (.builtin "super.__getattribute__") (.ref so)>>=_) _ _ _);refine ua (qzR (F.ks_slot_super_ga.bind _) ?_);refine qqV (Q:=λv s'=>v= .ref h.objs.size/\s'=⟨h.push (wrapObj "Exception.__init__" x),g,d,t+1,os⟩) (E:=λ_ _=>False)
  (qqD F.ks_slot_super_ga (hT _) F.ks_entry_super_ga (N0 ED Xw hC hl X hf hx hc hs N3 (aV _ rfl rfl rfl)) (F.ks_gaArgs_super _ _)) (λv s' hv=>?_) λ_ _ z=>z.elim
 refine ai hv λaz ah=>?_;clear hv;subst az;subst ah;exact ud (ud hq)
theorem Ei {wr x C:qq7}{v:qq0}{vs:Array qq0}{od:Option qq7}{sl:Array (Option qq0)}{Q:qq0->qq1->Prop}(hw:h.get? wr=some (wrapObj "Exception.__init__" x))(hx:h.get? x=some {cls:= .ref C,dict:=od,data:= .fields vs,slots:=sl})(hz:0<vs.size){oC:qq0}{dC:Option qq7}{cd:ClassData}{slC:Array (Option qq0)}(hC:h.get? C=some ⟨oC,dC,.cls cd,slC⟩)(hs:Looks (qq5 prog w) h (qzS (.ref C) (.type "Exception")) true)
  (hq: ∀h' T,h.get? T=none->(∀b o,b≠x->h.get? b=some o->h'.get? b=some o)->h'.get? x=some {cls:= .ref C,dict:=od,data:= .fields (vs.setIfInBounds 0 (.ref T)),slots:=sl}->Q .none ⟨h',g,d,t,os⟩):
  qq3 (qq5 prog w) A (call (.ref wr) [v]) Q E ⟨h,g,d,t,os⟩:=by
 have Fn:=PySem.F.excBase_Exception;refine qzF (codeAny_of_tree ?_);refine(?_:qq3 _ _ (callAny (.ref wr) _) _ _ _);delta callAny;refine ua (wpAny_load hw ?_);refine(?_:qq3 _ _ (checkBoundCall "Exception.__init__" ⟨[.ref x,v],[]⟩>>=λ_=>again (.builtin "Exception.__init__" ⟨[.ref x,v],[]⟩)) _ _ _);refine ua ?_;have hck: ∀{Q:Unit->qq1->Prop} {E:qq0->qq1->Prop},Q () ⟨h,g,d,t,os⟩->qq3 (qq5 prog w) A.in1 (checkBoundCall "Exception.__init__" ⟨[.ref x,v],[]⟩) Q E ⟨h,g,d,t,os⟩:=λ{Q E} q=>by
  delta checkBoundCall;refine aa Fn.initRow ?_;simp only [Fn.initKind];refine aa (if_pos (by rfl)) ?_;delta Bind.checkArgs;dsimp only
  repeat (first|(with_reducible refine qzH hx ?_)|(with_reducible refine qzH hC ?_)|(with_reducible refine Looks.at hs ?_)|wp_step)
  exact q
 refine hck (ud ⟨qx6 _ (by decide+kernel),qqZ Fn.initEntry ?_⟩);delta Builtin.«BaseException.__init__»;wp_walk;refine ac (⟨vs[0],Array.getElem?_eq_getElem hz⟩: ∃v0,vs[0]? =some v0) ?_;intro v0 hv0;refine aa hv0 (ud ?_);have Nf:(h.push {cls:= .type "tuple",data:= .seq #[v]}).get? x=some {cls:= .ref C,dict:=od,data:= .fields vs,slots:=sl}:=uc _ hx;refine ua (qzN (s:=⟨h.push {cls:= .type "tuple",data:= .seq #[v]},g,d,t,os⟩) Nf rfl hz ?_);have lg: ∀{Q:Unit->qq1->Prop} {E:qq0->qq1->Prop} {s:qq1} {A:qqG},Q () s->qq3 (qq5 prog w) A (match v0 with| .ref a=>letGo [v0]|_=>pure ()) Q E s:=λ{Q E s A} q=>by
  cases v0<;>first|exact ud q|exact ua (qq8 (wpAny_point (ud q)))
 refine lg (ud ?_);have ne:x≠h.objs.size:=uy (ul hx);refine hq _ h.objs.size (by
  cases q:h.get? h.objs.size with
  |none=>rfl|some o=>exact absurd (ul q) (vg _)) (λb o hb e=>?_) ?_
 ·exact aa (uI _ _ (Ne.symm hb)) (uc _ e)
 ·exact uw _ Nf rfl
structure lA (K:Frag)(P:qzJ)(f D cc:qq7)(fd:qz3)(ps:List Str)(sn wn an:Str):Prop where
 at_: ∃oc od Gl,K.lookup f=some ⟨oc,od,.func fd,Gl⟩
 clos:fd.closure= [(("__class__":Str),cc)]
 body: ∃p0 p1 p2 p3 p4 p5 p6 p7 p8 p9,fd.body= .stmts [.Expr (.Call (.Attribute (.Call (.Name "super" p0) [] [] p1) "__init__" p2) [.Name wn p3] [] p4) p5,.Assign [.Attribute (.Name sn p6) an p7] (.Name an p8) p9]/\
  ((4:Nat)=4)/\((Pos.endLine p2==Pos.line p4)=true)
 glb:fd.globals=qqR
 bi:fd.builtins=qz0
 pos:fd.params.posonlyargs= []/\fd.params.vararg=none/\fd.params.kwonlyargs= []/\fd.params.kwarg=none/\fd.defaults= .none
 names:fd.params.args.map (·.arg)=ps
 nodup:ps.Nodup
 first: ∃r,ps=sn::r
 kind:fd.scope.kind= .function
 nogen:fd.scope.isCoroutine=false/\fd.scope.isGenerator=false
 nocell: ∀x∈fd.scope.names,x.2≠ .cell
 locs: ∀x∈ps,fd.scope.names.lookup x=some .local
 inw:wn∈ps
 ina:an∈ps
 ksup:fd.scope.names.lookup ("super":Str)=some .globalImplicit
 kcls:fd.scope.names.lookup ("__class__":Str)=some .free
 code: ∃X0 oc od Gl Tp file tf,fd.code= .ref X0/\K.lookup X0=some ⟨oc,od,.fields Tp,Gl⟩/\Tp[2]? =some (.str file tf)/\((P.main.file:Str)==file)=true
 rec_:eU K fd=true
 cell: ∃oc od Gl,K.lookup cc=some ⟨oc,od,.cell (some (.ref D)),Gl⟩
 cls: ∃cd,clsIn K D=some cd
 top:(P.main.scope.names.lookup ("super":Str)).isSome=false
 ndebug:(wn==("__debug__":Str))=false/\(an==("__debug__":Str))=false/\(sn==("__debug__":Str))=false
structure Kx (x:qq7)(s s':qq1):Prop where
 keep: ∀b o,b≠x->s.heap.get? b=some o->s'.heap.get? b=some o
 gens:s'.gens=s.gens
 os:s'.os=s.os
variable {P:qzJ}{K:Frag}{f D cc x:qq7}{fd:qz3}{ps:List Str}{sn wn an:Str}
set_option tactic.hygienic true in
theorem zY (F:lA K P f D cc fd ps sn wn an)(gP:A.depth<recursionLimit)(KI:K.In s.heap)(Tq:s.heap.NoLimit){mg mb:Str->Option qq0}(hg:s.heap.Ns qqR mg)(hb:s.heap.Ns qz0 mb)
  (GQ:mg "super"=some (.type "super")\/(mg "super"=none/\mb "super"=some (.type "super"))) {ox:Obj} (hx:s.heap.get? x=some ox) (hxc:ox.cls= .ref C) (hnc: ∀c,ox.data≠ .cls c) (UG:x≠qqR/\x≠qz0)
  (IC:mroIn K C (.ref D)=some true) {rest:List qq0} (eJ:rest.length+1=ps.length) {B B':qq1->Prop} {wv av:qq0} (hwv:(ps.zip (.ref x::rest)).lookup wn=some wv) (MZ:(ps.zip (.ref x::rest)).lookup an=some av) (t6:K.lookup x=none)
  (X1: ∀(A':qqG) (s2:qq1) (so:qq7) (pl:Sem Bool) (Q:qq0->qq1->Prop) (E:qq0->qq1->Prop) (env:Env) (pos p3:Pos),A'.depth=A.depth+1->(∀b o,s.heap.get? b=some o->s2.heap.get? b=some o)->s2.gens=s.gens->s2.os=s.os->s2.heap.NoLimit->s2.heap.get? so=some (pF D x C)->
   (∀s3 (Q:qq0->qq1->Prop) (E:qq0->qq1->Prop),Kx x s2 s3->Q wv s3->qq3 (qq5 P w) A' (eval (.Name wn p3) env) Q E s3)->
   (∀s3,Kx x s2 s3->B s3->Q .none s3)->
   qq3 (qq5 P w) A' (getMethod (.ref so) "__init__" pl) (λfx s3=>qq3 (qq5 P w) A' (callWith pos fx.1 fx.2 (backTo pos (qqO [.Name wn p3] env)) []) Q E s3) E s2)
  (Ga: ∀(A':qqG) s3 (Q:Unit->qq1->Prop) (E:qq0->qq1->Prop),Kx x s s3->B s3->(∀s4,Kx x s s4->B' s4->Q () s4)->qq3 (qq5 P w) A' (setAttr (.ref x) an av) Q E s3)
  (hR: ∀s4,Kx x s s4->B' s4->R (.ok (.ret .none)) s4):
  qzZ (qq5 P w) A (.call (.ref f) ⟨.ref x::rest,[]⟩) R s:=by
 refine Cp F.at_ λoc od Gl hf=> Mw F.body λp0 p1 p2 p3 p4 p5 p6 p7 p8 p9 zJ S6 Tr=> bb F.pos λq1 q2 q3 q4 q5=> ac F.first λr hr=>?_;have lB:=eD (vs:= .ref x::rest) q1 q2 q3 q4 q5 (by have:=congrArg List.length F.names;simp at this⊢;exact Wk eJ this) (by exact aa F.names F.nodup);replace lB:=F.names▸lB;have zl:(ps.zip (.ref x::rest)).map (·.1)=ps:=vo (by dsimp;exact Wl eJ);have Ts: ∀y v,(ps.zip (.ref x::rest)).lookup y=some v->(ps.zip (.ref x::rest)).reverse.lookup y=some v:=λy v h=>
  a_ (by refine aa List.map_reverse (aa zl ?_);exact(List.reverse_perm _).nodup_iff.mpr F.nodup) (List.mem_reverse.mpr (mem_of_lookup h))
 refine ks_codeAny_call_defAt gP (KI _ _ hf) rfl Tq (codeRec_of KI F.rec_) zJ (BindsTo.of_eq lB) F.nocell (λy hy=>F.locs _ (by exact bq zl (vM.mpr (aj y hy rfl)))) (λh1 Uq k1=>?_) F.nogen.1 F.nogen.2 F.kind;generalize hL:s.heap.objs.size=L at Uq⊢;have nL:s.heap.get? L=none:=aW (s2:=s) (λ_ _ e=>e) (uC hL);have xL:x≠L:=λq=>by replace hx:=q▸hx;replace hx:=eS nL hx;exact xNS hx
 have K1:K.In h1:=KI.keeps k1;generalize RL:({s with heap:=h1,toks:=s.toks+(ps.zip (qq0.ref x::rest)).length}:qq1)=s1;have e1:s1.heap=h1:=by exact bq RL rfl
 have g1:s1.gens=s.gens/\s1.os=s.os:=by exact bq RL (⟨rfl,rfl⟩)
 have ID: ∀b o,s.heap.get? b=some o->s1.heap.get? b=some o:=by exact aa e1 k1
 have Tt:s1.heap.Ns L (λy=>(ps.zip (.ref x::rest)).reverse.lookup y):=by exact aa e1 Uq
 have Tu:K.In s1.heap:=by exact aa e1 K1
 have nsk: ∀s':qq1,(∀b o,b≠x->s1.heap.get? b=some o->s'.heap.get? b=some o)->s'.heap.Ns L (λy=>(ps.zip (.ref x::rest)).reverse.lookup y):=λs' k=>by
  exact aB Tt λo es ep ho rr=>(ct o es ep (k L o xL.symm ho) rr)
 have ldn: ∀{A':qqG} {s':qq1} {y:Str} {v:qq0} {p:Pos} {Q:qq0->qq1->Prop} {E:qq0->qq1->Prop},(∀b o,b≠x->s1.heap.get? b=some o->s'.heap.get? b=some o)->y∈ps->(ps.zip (.ref x::rest)).lookup y=some v->(y==("__debug__":Str))=false->Q v s'->
   qq3 (qq5 P w) A' (eval (.Name y p) (callEnv fd L f)) Q E s':=λ{A' s' y v p Q E} k hy hv hd q=>wpAny_Name (wpAny_loadName_local F.kind (F.locs y hy) (nsk s' k) (Ts y v hv) q) hd
 refine ks_wpAt_execs_cons (ks_wpAt_Expr_any ?_ (by delta interactive;refine(?_:((fd.scope.kind== .module) && _)=false);refine aa F.kind ?_;rfl) rfl);rw [arm_eval_Call];refine PySem.wpAt_bind (O8 F.code λX0 oc2 od2 aa7 Tp file tf Tv mZ Uy Tw=> Cp F.cell λoc3 od3 aa8 eA=> ac F.cls λcdD hD=>?_);refine af (by
  delta clsIn at hD;split at hD
  ·rename_i c d cd' sl ho
   refine al hD λah=>?_;clear hD;subst ah;exact(aj _ (Tu _ _ ho) rfl)
  ·exact xNS hD: ∃oD,s1.heap.get? D=some oD/\oD.data= .cls cdD) ?_;intro oD Zx Zy
 have LS:(ps.zip (.ref x::rest)).lookup sn=some (.ref x):=by refine aa hr ?_;simp
 have Tx:sn∈ps:=by exact aa hr uE
 have N4: ∃ar,(fd.params.posonlyargs++fd.params.args).head?=some ar/\ar.arg=sn:=by
  refine aa q1 ?_;rewrite [vx];have:=F.names;replace this:=Eq.trans this hr;cases h:fd.params.args with
  |nil=>replace this:=h▸this;cases this
  |cons a l=>replace this:=h▸this;exact(aj a rfl (List.cons.inj this).1)
 refine af N4 λar W3 X2=> ks_wpAt_super_base (env:=callEnv fd L f) F.ksup F.kcls (by rfl) rfl (Tu _ _ hf) rfl W3 Tv (Tu _ _ mZ) rfl Uy Tw F.top ?_;have Nf:=ID _ _ hx;refine ks_loadName_global F.kind F.ksup ?_;have Zz:s1.heap.Ns (callEnv fd L f).globals mg:=by refine(?_:s1.heap.Ns fd.globals mg);exact aa F.glb (hg.keeps ID)
 have hb1:s1.heap.Ns (callEnv fd L f).builtins mb:=by refine(?_:s1.heap.Ns fd.builtins mb);exact aa F.bi (hb.keeps ID)
 have fin: ∀{Q:qq0->qq1->Prop} {E:qq0->qq1->Prop} {A':qqG},Q (.type "super") s1->qq3 (qq5 P w) A' (loadGlobal (callEnv fd L f) "super") Q E s1:=λ{Q E A'} q=>by
  refine ui GQ ?_ ?_;(all_goals clear GQ);intro h;rotate_left;intro az;refine ai az λh1 h2=>?_;rotate_right
  ·exact Calls.loadGlobal_global Zz h q
  ·exact Calls.loadGlobal_builtin Zz h1 hb1 h2 q
 refine fin ⟨rfl,?_⟩;have ju:(callEnv fd L f).cells.lookup ("__class__":Str)=some cc:=by
  refine(?_:fd.closure.lookup _=_);refine aa F.clos ?_;rfl
 refine wpAny_loadName_free F.kind F.kcls ju (aj _ (Tu _ _ eA) rfl) (aa X2 (wpAny_loadName_local F.kind (F.locs sn Tx) Tt (Ts sn _ LS) ?_));obtain⟨X3,gg,dd,tt,oo⟩:=s1;refine ks_wpAny_isType_cls Zx Zy ⟨rfl,?_⟩;refine ks_wpAny_call_super Zx Zy Nf hxc hnc (qzD Tu IC) (λh2 ED k2=>?_);refine PySem.wpAt_of_wpAny (ua (qqF ?_));have zM:methodCallForm ([Expr.Name wn p3].length+([]:List Keyword).length) (backTo p4 (qqO [Expr.Name wn p3] (callEnv fd L f))) (backToKw p4 (keywordEach [] (callEnv fd L f)))=true:=rfl;have ke:methodCallPos true (.Call (.Name "super" p0) [] [] p1) (callEnv fd L f) p2 p4=pure p4:=by delta methodCallPos;simp [Tr]
 delta methodCall;refine aa zM (aa ke ?_);have LU: ∀b o,X3.get? b=some o->h2.get? b=some o:=k2;refine ua (qq8 (qqV (X1 (A.deeper (callEnv fd L f)) ⟨h2,gg,dd,tt,oo⟩ X3.objs.size _ (λv s3=>PySem.wpAt (qq5 P w) (A.deeper (callEnv fd L f)) (.func [.Expr (.Call (.Attribute (.Call (.Name "super" p0) [] [] p1) "__init__" p2) [.Name wn p3] [] p4) p5,.Assign [.Attribute (.Name sn p6) an p7] (.Name an p8) p9] (callEnv fd L f)) (PySem.execs [.Assign [.Attribute (.Name sn p6) an p7] (.Name an p8) p9] (callEnv fd L f)) _ _ s3) _ (callEnv fd L f) p4 p3 rfl (λb o e=>LU b o (ID b o e)) g1.1 g1.2 (Tq.keeps λb o e=>LU b o (ID b o e)) ED (λs3 Q E kx q=>ldn (λb o n e=>kx.keep b o n (LU b o e)) F.inw hwv F.ndebug.1 q) λs3 kx hB=>?_) (λfx s3 h3=>bp h3) λ_ _ e=>e));have X4: ∀b o,b≠x->X3.get? b=some o->s3.heap.get? b=some o:=λb o n e=>kx.keep b o n (LU b o e);refine ks_wpAt_execs_cons (ks_wpAt_Assign_Attr (PySem.wpAt_of_wpAny (ldn X4 F.ina MZ F.ndebug.2.1 (ldn X4 Tx LS F.ndebug.2.2 ?_))) rfl);have kx0:Kx x s s3:=⟨λb o n e=>X4 b o n (ID b o e),kx.gens.trans g1.1,kx.os.trans g1.2⟩;exact Ga _ s3 _ _ kx0 hB λs4 kx4 Tz=> PySem.wpAt_of_wpAny (ud (hR s4 kx4 Tz))
structure iX (X:Cx)(f1 D1 c1 f2 c2:qq7)(Jm Jn:qz3):Prop where
 i1:lA X.K X.P f1 D1 c1 Jm ["self","what"] "self" "what" "what"
 i2:lA X.K X.P f2 X.C.pf c2 Jn ["self","what","place"] "self" "what" "place"
 m1:mroIn X.K X.C.pf (.ref D1)=some true
 m2:mroIn X.K X.C.pf (.ref X.C.pf)=some true
 mE:mroIn X.K X.C.pf (.type "Exception")=some true
 mB:mroIn X.K X.C.pf (.type "BaseException")=some true
 cd: ∃od cd sl,X.K.lookup X.C.pf=some ⟨.type "type",od,.cls cd,sl⟩/\alongIn X.K "__init__" ((cd.mro.dropWhile (· != .ref X.C.pf)).drop 1)=some (some (.ref f1))/\alongIn X.K "__init__" ((cd.mro.dropWhile (· != .ref D1)).drop 1)=some (some (.builtin "Exception.__init__"))
 t1: ∃o,X.K.lookup f1=some o/\o.cls= .type "function"
 t2:typeIn X.K (.ref f2)=some (.type "function")
 opq:nsIn X.K cStatics "thirdparty.any"=some none
 makes:ig X.K X.C.pf=true
 init:findIn X.K (.ref X.C.pf) "__init__"=some (some (.ref f2))
 sa:findIn X.K (.ref X.C.pf) "__setattr__"=some (some (.builtin "object.__setattr__"))
 tw:takerIn X.K X.C.pf "what"=some none
 tp:takerIn X.K X.C.pf "place"=some none
 sup:X.C.glob "super"=some (.type "super")
 fn1:fnIn X.K f1=true
 kp:keepIn X.K (.ref X.C.pf)=true
noncomputable abbrev fG (C:qq7)(d:Option qq7)(vs:Array qq0):Obj:={cls:= .ref C,dict:=d,data:= .fields vs,slots:= #[]}
variable {f1 D1 c1 f2 c2:qq7}{Jm Jn:qz3}
theorem LV (KI:X.K.In s.heap)(t6:X.K.lookup x=none)(k:Kx x s s'):X.K.In s'.heap:=λa o e=>k.keep a o (λq=>by replace e:=q▸e;replace e:=eS t6 e;exact xNS e) (KI a o e)
theorem zZ {f:qq0}{pos p3:Pos}{wv:qq0}{Q E:qq0->qq1->Prop}(iV: ∀(Q E:qq0->qq1->Prop),Q wv s->qq3 (qq5 X.P X.w) A (eval (.Name wn p3) env) Q E s)(hk:fU X A f s)
  (h:qq3 (qq5 X.P X.w) A (PySem.call f [wv]) Q E s):qq3 (qq5 X.P X.w) A (callWith pos f [] (backTo pos (qqO [.Name wn p3] env)) []) Q E s:=by
 refine bG rfl (?_:qq3 _ _ (eval (.Name wn p3) env>>=λv=>pure [v]>>=λvs=>holding vs (qzP [])>>=λr=>pure (vs++r)) _ _ _);refine ua (iV _ _ ?_);exact bp (ua (qq8 (ud (ud ⟨hk,h⟩))))
theorem Ej {wr:qq7}{i:String}(hw:s.heap.get? wr=some (wrapObj i x)):fU X A (.ref wr) s:=λQ E q=>by
 delta keeperOf;refine ua (wpAny_load hw ?_);exact ud (q _)
theorem Ek (O:cN X)(F:iX X f1 D1 c1 f2 c2 Jm Jn)(gP:A.depth<recursionLimit)(h0: ∀b o,X.h0.get? b=some o->s.heap.get? b=some o)(k9:X.h0.get? x=none)(hx:s.heap.get? x=some (fG X.C.pf none vs))(hz:0<vs.size)
  (hR: ∀s' T d,Kx x s s'->s'.heap.get? x=some (fG X.C.pf (some d) (vs.setIfInBounds 0 (.ref T)))->s.heap.get? d=none->d≠x->(∃hsh tk,s'.heap.get? d=some (dictOf [⟨hsh,.str "what" tk,v⟩] 1))->R (.ok (.ret .none)) s'):
  qzZ (qq5 X.P X.w) A (.call (.ref f1) ⟨[.ref x,v],[]⟩) R s:=by
 have KI:X.K.In s.heap:=O.ins.keeps h0;have t6:X.K.lookup x=none:=by
  cases q:X.K.lookup x with
  |none=>rfl|some o=>have:=O.ins _ _ q;replace this:=eS k9 this;exact xNS this
 refine a8 O.glob λmg mb hg hb md=> bT F.cd λod cd sl GR be T0=>?_;have N5:clsIn X.K X.C.pf=some cd:=by delta clsIn;exact aa GR rfl
 have UG:x≠qqR/\x≠qz0:=by
  refine aB hg λo1 ah ak h1 be=> aB hb λo2 ah ak h2 be=>?_;exact⟨λq=>(by replace k9:=q▸k9;replace k9:=eS h1 k9;exact oz k9),λq=>(by replace k9:=q▸k9;replace k9:=eS h2 k9;exact oz k9)⟩
 have N3:x≠X.C.pf:=λq=>by replace t6:=q▸t6;replace t6:=eS GR t6;exact oz t6
 refine zY F.i1 gP KI (O.nolim.keeps h0) (hg.keeps h0) (hb.keeps h0) (md _ _ F.sup) hx rfl (λc q=>by cases q) UG F.m1 rfl (wv:=v) (av:=v) (by rfl) (by rfl) t6
  (B:=λs3=>∃T,s3.heap.get? x=some (fG X.C.pf none (vs.setIfInBounds 0 (.ref T))))
  (B':=λs4=>∃T d,s4.heap.get? x=some (fG X.C.pf (some d) (vs.setIfInBounds 0 (.ref T)))/\s.heap.get? d=none/\d≠x/\(∃hsh tk,s4.heap.get? d=some (dictOf [⟨hsh,.str "what" tk,v⟩] 1)))
  (λA' s2 so pl Q E env pos p3 hd k2 g2 o2 nl ED iV hQ=>?_) (λA' s3 Q E k3 hB hQ=>?_) λs4 k4 Tz=>?_
 ·have K2:X.K.In s2.heap:=KI.keeps k2;have IU:=k2 _ _ hx;obtain⟨hh,gg,dd,tt,oo⟩:=s2;have hm:Looks (qq5 X.P X.w) hh (mroOf (.ref X.C.pf)) cd.mro:=(looks_clsIn K2 N5).andThen .now;have Z0:Looks (qq5 X.P X.w) hh (qzS (.ref X.C.pf) (.type "Exception")) true:=qzD K2 F.mE;refine mz ED (looks_opaque K2 F.opq) hm rfl K2 T0 IU rfl Z0 N3 ?_;have k3: ∀b o,hh.get? b=some o->(hh.push (wrapObj "Exception.__init__" x)).get? b=some o:=λb o e=>uc _ e;have hw:(hh.push (wrapObj "Exception.__init__" x)).get? hh.objs.size=some (wrapObj "Exception.__init__" x):=ue _ rfl;exact zZ (s:=⟨hh.push (wrapObj "Exception.__init__" x),gg,dd,tt+1,oo⟩) (λQ E q=>iV _ Q E ⟨λb o _ e=>k3 b o e,rfl,rfl⟩ q) (Ej hw) (Ei hw (k3 _ _ IU) hz (k3 _ _ (K2 _ _ GR)) (Z0.keeps k3) λh' T nT kx iz=> hQ ⟨h',gg,dd,tt+1,oo⟩ ⟨λb o n e=>kx b o n (k3 b o e),rfl,rfl⟩ ⟨T,iz⟩)
 ·refine ac hB ?_;clear hB;intro T hB;have K3:=LV KI t6 k3;refine Gm K3 ⟨hB,rfl,rfl,trivial⟩ rfl rfl F.sa O.pfex F.tw λh' d nd dx kk iz fF=>?_;have nds:s.heap.get? d=none:=by
   cases q:s.heap.get? d with
   |none=>rfl|some o=>
    have:=k3.keep d o dx q;replace this:=eS nd this;exact xNS this
  exact hQ _ ⟨λb o n e=>kk b o n (k3.keep b o n e),k3.gens,k3.os⟩ ⟨T,d,iz,nds,dx,_,_,fF⟩
 ·exact cn Tz λT d h1 h2 h3 h4=> hR s4 T d k4 h1 h2 h3 h4
theorem Jr (O:cN X)(F:iX X f1 D1 c1 f2 c2 Jm Jn)(gP:A.depth+1<recursionLimit)(h0: ∀b o,X.h0.get? b=some o->s.heap.get? b=some o)(k9:X.h0.get? x=none)(hx:s.heap.get? x=some (fG X.C.pf none vs))(hz:0<vs.size){v u:qq0}
  (hR: ∀s' T d,Kx x s s'->s'.heap.get? x=some (fG X.C.pf (some d) (vs.setIfInBounds 0 (.ref T)))->s.heap.get? d=none->d≠x->(∃hsh tk El D8,s'.heap.get? d=some (dictOf [⟨hsh,.str "what" tk,v⟩,⟨El,.str "place" D8,u⟩] 2))->R (.ok (.ret .none)) s'):
  qzZ (qq5 X.P X.w) A (.call (.ref f2) ⟨[.ref x,v,u],[]⟩) R s:=by
 have KI:X.K.In s.heap:=O.ins.keeps h0;have t6:X.K.lookup x=none:=by
  cases q:X.K.lookup x with
  |none=>rfl|some o=>have:=O.ins _ _ q;replace this:=eS k9 this;exact xNS this
 refine a8 O.glob λmg mb hg hb md=> bT F.cd λod cd sl GR T0 dX=>?_;have N5:clsIn X.K X.C.pf=some cd:=by delta clsIn;exact aa GR rfl
 have UG:x≠qqR/\x≠qz0:=by
  refine aB hg λo1 ah ak h1 be=> aB hb λo2 ah ak h2 be=>?_;exact⟨λq=>(by replace k9:=q▸k9;replace k9:=eS h1 k9;exact oz k9),λq=>(by replace k9:=q▸k9;replace k9:=eS h2 k9;exact oz k9)⟩
 have N3:x≠X.C.pf:=λq=>by replace t6:=q▸t6;replace t6:=eS GR t6;exact oz t6
 refine af F.t1 λof hof X5=>?_;refine zY F.i2 (OZ gP) KI (O.nolim.keeps h0) (hg.keeps h0) (hb.keeps h0) (md _ _ F.sup) hx rfl (λc q=>by cases q) UG F.m2 rfl (wv:=v) (av:=u) (by rfl) (by rfl) t6
  (B:=λs3=>∃T d,s3.heap.get? x=some (fG X.C.pf (some d) (vs.setIfInBounds 0 (.ref T)))/\s.heap.get? d=none/\d≠x/\(∃hsh tk,s3.heap.get? d=some (dictOf [⟨hsh,.str "what" tk,v⟩] 1)))
  (B':=λs4=>∃T d,s4.heap.get? x=some (fG X.C.pf (some d) (vs.setIfInBounds 0 (.ref T)))/\s.heap.get? d=none/\d≠x/\(∃hsh tk El D8,s4.heap.get? d=some (dictOf [⟨hsh,.str "what" tk,v⟩,⟨El,.str "place" D8,u⟩] 2)))
  (λA' s2 so pl Q E env pos p3 hd k2 g2 o2 nl ED iV hQ=>?_) (λA' s3 Q E k3 hB hQ=>?_) λs4 k4 Tz=>?_
 ·have K2:X.K.In s2.heap:=KI.keeps k2;have IU:=k2 _ _ hx;have k0: ∀b,s2.heap.get? b=none->s.heap.get? b=none:=λb h=>by
   cases q:s.heap.get? b with
   |none=>rfl|some o=>replace h:=eS (k2 b o q) h;exact oz h
  obtain⟨hh,gg,dd,tt,oo⟩:=s2;have hm:Looks (qq5 X.P X.w) hh (mroOf (.ref X.C.pf)) cd.mro:=(looks_clsIn K2 N5).andThen .now;refine ks_wpAny_getMethod_super ED (looks_opaque K2 F.opq) hm rfl K2 T0 (K2 _ _ hof) X5 N3 (by rfl) ?_;have k3: ∀b o,hh.get? b=some o->(hh.push {cls:= .type "method",data:= .fields #[.ref f1,.ref x]}).get? b=some o:=λb o e=>uc _ e;have hw:(hh.push {cls:= .type "method",data:= .fields #[.ref f1,.ref x]}).get? hh.objs.size=some {cls:= .type "method",data:= .fields #[.ref f1,.ref x]}:=ue _ rfl;refine zZ (s:=⟨hh.push {cls:= .type "method",data:= .fields #[.ref f1,.ref x]},gg,dd,tt+1,oo⟩) (λQ E q=>iV _ Q E ⟨λb o _ e=>k3 b o e,rfl,rfl⟩ q) ?_ ?_
  ·exact af (keeps_M (M:=qq5 X.P X.w) F.fn1 _ ⟨hw,K2.keeps k3⟩) λk ah hk=> eW hk
  ·refine qzF (ks_codeAny_call_bound hw (Ek O F (O_ gP hd) (λb o e=>k3 b o (k2 b o (h0 b o e))) k9 (k3 _ _ IU) hz λs' T d kx iz nd dx fF=>?_));exact hQ s' ⟨λb o n e=>kx.keep b o n (k3 b o e),kx.gens,kx.os⟩ (dn T d iz (k0 d (by
    cases q:hh.get? d with
    |none=>rfl|some o=>replace nd:=eS (k3 d o q) nd;exact oz nd)) dx fF)
 ·refine cn hB λT d Z1 nd dx aI=>aX aI λhsh tk LW=>?_;have K3:=LV KI t6 k3;refine Gk K3 ⟨Z1,rfl,rfl,LW⟩ rfl LW F.sa O.pfex F.tp rfl (by exact uj _ _) ?_;generalize hf:Obj.putName "place" (PyData.keyHash X.w.params "place") (.str "place" (s3.toks+1)) u=g;have e:=putName_dict "place" (PyData.keyHash X.w.params "place") (.str "place" (s3.toks+1)) u [⟨hsh,.str "what" tk,v⟩] 1;have MY:(s3.heap.update d g).get? d=some (dictOf [⟨hsh,.str "what" tk,v⟩,⟨PyData.keyHash X.w.params "place",.str "place" (s3.toks+1),u⟩] 2):=by
   refine aa (uw g LW (by refine bq hf (aa e ?_);rfl)) ?_;refine bq hf (aa e ?_);have q:(qq0.str (qqH "what") tk).isStr "place"=false:=by dsimp only [qq0.isStr];rfl
   unfold putL putN putL;rfl
  refine hQ _ ⟨λb o n e=>?_,k3.gens,k3.os⟩ ⟨T,d,?_,nd,dx,_,_,_,_,MY⟩
  ·have:d≠b:=λq=>by replace e:=Eq.symm q▸e;replace e:=eS nd e;exact xNS e
   refine(?_:(s3.heap.update d g).get? b=_);exact aa (uI _ _ this) (k3.keep b o n e)
  ·refine(?_:(s3.heap.update d g).get? x=_);exact aa (uI _ _ dx) Z1
 ·exact cn Tz λT d h1 h2 h3 h4=> hR s4 T d k4 h1 h2 h3 h4
theorem lC (C:qq7)(rest:List qq0):(Code.builtin "type.__call__" ⟨.ref C::rest,[]⟩).weight=1:=by kernel_rfl
theorem Js (O:cN X)(F:iX X f1 D1 c1 f2 c2 Jm Jn)(gP:A.depth+2<recursionLimit)(h0: ∀b o,X.h0.get? b=some o->s.heap.get? b=some o){v u:qq0}{Q E:qq0->qq1->Prop}
  (hQ: ∀s' a T d,s.heap.get? a=none->s.heap.get? d=none->d≠a->(∀b o,s.heap.get? b=some o->s'.heap.get? b=some o)->s'.gens=s.gens->s'.os=s.os->s'.heap.get? a=some (fG X.C.pf (some d) #[.ref T,.none,.none,.none,.bool false,.none])->
   (∃hsh tk El D8,s'.heap.get? d=some (dictOf [⟨hsh,.str "what" tk,v⟩,⟨El,.str "place" D8,u⟩] 2))->Q (.ref a) s'):
  qq3 (qq5 X.P X.w) A (PySem.call (.ref X.C.pf) [v,u]) Q E s:=by
 have KI:X.K.In s.heap:=O.ins.keeps h0;obtain⟨hh,gg,dd,tt,oo⟩:=s;have k: ∀b o,hh.get? b=some o->((hh.push {cls:= .type "tuple",data:= .seq [v,u].toArray}).push (dT X.C.pf (.ref hh.objs.size))).get? b=some o:=λb o e=>uc _ (uc _ e);have ng: ∀b,hh.objs.size<=b->hh.get? b=none:=λb h=>by
  cases q:hh.get? b with
  |none=>rfl|some o=>exact absurd (ul q) (qxA.mpr h)
 have hx:((hh.push {cls:= .type "tuple",data:= .seq [v,u].toArray}).push (dT X.C.pf (.ref hh.objs.size))).get? (hh.objs.size+1)=some (fG X.C.pf none #[.ref hh.objs.size,.none,.none,.none,.bool false,.none]):=by heap_get
 refine qzF (GN (zX KI F.makes) (by exact uj _ _) (looks_findIn KI F.init) (λself=>bind_fn KI self F.t2) ?_);refine Jr (A:=A.under (.builtin "type.__call__" ⟨[.ref X.C.pf,v,u],[]⟩)) (s:=⟨(hh.push {cls:= .type "tuple",data:= .seq [v,u].toArray}).push (dT X.C.pf (.ref hh.objs.size)),gg,dd,tt,oo⟩) O F (by refine(?_:A.depth+Code.weight _+1<_);rw [lC];exact gP) (λb o e=>k b o (h0 b o e)) (by
  cases q:X.h0.get? (hh.objs.size+1) with
  |none=>rfl|some o=>have:=h0 _ _ q;replace this:=eS (ng _ (uF _)) this;exact xNS this) hx (by exact uH _) λs' T d kx iz nd dx fF=>?_
 refine And.intro rfl (hQ s' (hh.objs.size+1) T d (ng _ (uF _)) ?_ dx (λb o e=>kx.keep b o (λq=>?_) (k b o e)) kx.gens kx.os iz fF)
 ·cases q:hh.get? d with
  |none=>rfl|some o=>replace nd:=eS (k d o q) nd;exact oz nd
 ·have:=ng b (by exact aa q (uF _));replace e:=eS this e;exact xNS e
def BQ (X:Cx):Prop:= ∃f1 D1 c1 f2 c2 Jm Jn,iX X f1 D1 c1 f2 c2 Jm Jn
theorem BR {M:Model}{C a:qq7}{od:Option qq7}{cd:ClassData}{sl:Array (Option qq0)}{d:Option qq7}{vs:Array qq0}{x:Sem qq0}(hh:A.handled=none)
  (h:qq3 M A x (λv s1=>∃a d vs,v= .ref a/\(∃od cd sl,s1.heap.get? C=some ⟨.type "type",od,.cls cd,sl⟩)/\s1.heap.get? a=some (fG C d vs)/\vs[1]? =some .none/\Looks M s1.heap (qzS (.ref C) (.type "BaseException")) true/\E (.ref a) s1) E s):
  qq3 M A (raiseStmt env (some x) none) Q E s:=by
 delta raiseStmt;refine ua (qqV h (λv s1 h1=>?_) λ_ _ x=>x);refine eh h1 λa d vs c8 be ha hv hs hE=>Cp be λod cd sl hC=>?_;clear be;subst c8;obtain⟨hp,g,dd,tk,os⟩:=s1;have hd:(fG C d vs).data= .fields vs:=rfl
 repeat (first|with_reducible refine qzH ha ?_|with_reducible refine qzH hC ?_|with_reducible refine Looks.at hs ?_|with_reducible refine qqE ha hd hv ?_|wp_step)
 exact wpAny_raiseNew_none hh hE
theorem nU {C:kh}{v:Option AV}(h:M5 C v=true):v=some (.glob (.ref C.pf)):=by
 induction v using Option.casesOn with
 |none=>exact di h|some v=>
  induction v using AV.casesOn with
  |glob g=>
   induction g using PySem.Value.casesOn with
   |ref a=>exact aa (beq_iff_eq.mp (show(a==C.pf)=true from h)) rfl|_=>exact di h
  |_=>exact di h
set_option tactic.hygienic true in
theorem Jt (G:c5 X A aq s0 aw env n d0 cl mk)(PF:BQ X)(R:Run X ia aq s0 aw env Av oa m cm s H ae){f w:Str}{fp cp p pos:Pos}{e:Expr}(hv:ec X.C ae f=some (.glob (.ref X.C.pf)))(CJ:aZ e=true):
  bM X A ia aq s0 aw env s H (PySem.exec (.Raise (some (.Call (.Name f fp) [.Constant (.str w) k cp,e] [] p)) none pos) env) (M.bind (ev X.C cl mk 3 e ae) λv=>if(jc v).isSome then raise v else stuck):=by
 intro r H' er Q E hQ hE;have hn:=gp (A:=A) G.ev.O.toCxOk R.base R.loc (x:=f) (pos:=fp);replace hn:=hv▸hn;rw [arm_exec_Raise];refine ua (qqF (BR (C:=X.C.pf) (d:=none) (vs:= #[]) (a:=0) (cd:=default) (od:=none) (sl:= #[]) G.ev.hA ?_));refine ua (aa (eT (λo a p=>(λe=>by cases e))) (ua (hn _ _ rfl _ _ (λdd q u s1 x1 y1 z1=>?_) λp q=>xO q)));refine jO q λah=>?_;clear q;subst ah;have z1:u= .ref X.C.pf:=z1;subst z1;have R1:=R.step G x1 y1;have md:([Expr.Constant (.str w) k cp,e]:List Expr).all aZ=true:=by
  refine(?_:(true && (aZ e && true))=true);refine aa CJ ?_;rfl
 have iV:=fy G.ev [.Constant (.str w) k cp,e] 3 (pos:=p) R1.base R1.loc md;have T1: ∀r1 H1,ev X.C cl mk 3 e ae H=some (r1,H1)->l_ X.C cl mk 3 [.Constant (.str w) k cp,e] ae H=some (match r1 with| .ok v=>.ok [.str w,v]| .error q=>.error q,H1):=λr1 H1 h=>by
  refine(?_:M.bind (M.pure (AV.str w)) (λv=>M.bind (M.bind (ev X.C cl mk 3 e ae) λv=>M.bind (M.pure []) λvs=>M.pure (v::vs)) λvs=>M.pure (v::vs)) H=_);unfold M.bind M.pure;dsimp only;refine aa h ?_;cases r1<;>rfl
 refine bG (cf md) (b7 er ?_ ?_);intro q e1 ak;subst ak;rotate_left;intro v H1 e1 e2;rotate_right
 ·refine iV (.error q) H' (T1 _ _ e1) _ _ (λd q=>xE q) λp' q e' s' x y z=> jE q λah=>?_;clear q;subst ah;exact hE _ rfl e' s' (R1.err G x y z)
 ·split at e2
  ·rename_i X6
   refine aN e2 λah ak=>?_;clear e2;subst ah;subst ak;refine iV (.ok [.str w,v]) _ (T1 _ _ e1) _ _ (λdd q us s2 x2 y2 z2=>?_) (λp q=>xO q);refine jO q λah=>?_;clear q;subst ah;have R2:=R1.step G x2 y2;refine a8 z2 λu1 Z2 ak hu1 z3=>?_;clear z2;subst ak;refine af (aF.one z3) λu2 ah SV=>?_;subst ah;have KI:=Gp G.ev.O.toCxOk R2.base;refine ET PF ?_;clear PF;intro f1 D1 c1 f2 c2 Jm Jn PF;refine And.intro ?_ ?_
   ·exact af (keeps_K (M:=qq5 X.P X.w) PF.kp s2.heap KI) λkk ah hk=> eW hk
   ·have gP:A.depth+2<recursionLimit:=by
     have:=G.ev.OA.depth;refine(?_:A.depth+2<1000);exact Pb this
    refine Js G.ev.O PF gP R2.base.base λs3 a T d na nd nda k3 g3 o3 S7 LW=> yI LW ?_;clear LW;intro hsh tk El D8 LW;refine aB PF.cd λod cd sl GR be=> ua (qqF (ud (gG a (some d) _ rfl (yK od cd sl (k3 _ _ (KI _ _ GR))) S7 rfl (qzD (KI.keeps k3) PF.mB) ?_)));have ex3:Ex X (aO (env::aq)) s2 s3:=⟨λb o e _ _=>k3 b o e,λb o e _ _=>⟨o.slots,k3 b o e⟩,g3,o3⟩;have fr: ∀b,s2.heap.get? b=none-> ¬Av b:=λb h=>R2.base.fresh h;have key:(qq0.str (qqH "what") tk).isStr "place"=false:=by dsimp only [qq0.isStr];rfl
    have aa9:(qq0.str (qqH "place") D8).isStr "place"=true:=by dsimp only [qq0.isStr];rfl
    refine hE _ rfl _ s3 (R2.err G ex3 (au.ex R2.base k3) (Cq a _ _ rfl na (fr a na) S7 rfl (by exact uj _ _) X6 (Cs d _ _ u2 (fr d nd) rfl rfl rfl LW ?_ ?_) (.inl rfl)))
    ·rfl
    ·refine VR.chg (λb o e n=>⟨k3 b o e,λq=>?_⟩) _ _ SV;rcases q with q|q|q
     ·exact n q
     ·replace e:=q▸e;replace e:=eS na e;exact xNS e
     ·simp at q
  ·exact xNS e2
theorem pG (name:Str)(o:Obj):(Obj.dropName name o).cls=o.cls:=by
 refine aa qzT ?_;obtain⟨c,d,dt,sl⟩:=o;cases dt<;>simp only [qz8];split<;>rfl
theorem N6 {M:Model}{a:qq7}{name:Str}{o:Obj}{Q:Bool->qq1->Prop}{E:qq0->qq1->Prop}(hn:s.heap.Ns a m)(ho:s.heap.get? a=some o)(hs:(m name).isSome=true)
  (h: ∀h' o' u,h'.Ns a (λx=>if x=name then u else m x)->qqC a s.heap h'->h'.get? a=some o'->o'.cls=o.cls->Q true {s with heap:=h'}):qq3 M A (nsDel a name) Q E s:=by
 intro Γ p W5;have key:=wpAny_nsDel_keeps (M:=M) (A:=A) (E:=λ_ _=>True) (name:=name) (Q:=λb s'=>b=true->s'.heap=s.heap.update a (Obj.dropName name)-> ∃v,(s.heap.update a (Obj.dropName name)).Ns a (λx=>if x=name then v else m x)) hn (λh' v U6 _ hb e=>⟨v,by have e:h'=_:=e;exact bq e U6⟩) Γ p W5;refine gE (id hn) λo1 es ep A7 hd hk hm=>?_;replace A7:=eS ho A7;refine al A7 λah=>?_;clear A7;subst ah;have jn:es.any (·.refKey)=false:=by
  refine Iff.mpr Array.any_eq_false' ?_;intro e he;refine aX (hk e he) λn t h=>?_;simp [DictEntry.refKey,h]
 have T2:(m name).isSome=es.any (·.key.isStr name):=by
  refine bq (hm name) ?_;simp only [nsFind,findBy,vP];refine Iff.mpr Bool.eq_iff_iff ?_;simp only [Array.find?_isSome,Array.any_eq_true];constructor
  ·rintro ⟨x,hx,hp⟩;refine ac (Array.mem_iff_getElem.mp hx) λi aI=>ac aI λhi gm=>?_;clear aI;subst gm;exact⟨i,hi,hp⟩
  ·rintro ⟨i,hi,hp⟩;exact(aj _ (Array.getElem_mem hi) hp)
 have X7:nsHas name o=pure true:=by
  refine aa nsHas_eq ?_;delta nsHasByArray;refine aa hd (?_:(if(es.any λx=>x.key.isStr name)=true then _ else _)=_);refine aa (if_pos (by exact bq T2 hs)) ?_;rfl
 have hf:(Obj.dropName name o).isFreed=false:=by
  obtain⟨c,d,dt,sl⟩:=o;dsimp only at hd;subst hd;refine aa qzT ?_;dsimp only [qz8];split<;>rfl
 have main: ∀{Q:Bool->qq1->Prop} {E:qq0->qq1->Prop},Q true {s with heap:=s.heap.update a (Obj.dropName name)}->qq3 M A (nsDel a name) Q E s:=λ{Q E} q=>by
  delta nsDel;refine ua (qzO ho ?_);exact aa X7 (bp (aa (if_pos rfl) (ua (wpAny_updatePart ho (ud q)))))
 have nsv: ∃v,(s.heap.update a (Obj.dropName name)).Ns a (λx=>if x=name then v else m x):=by
  obtain⟨cl,d,dt,sl⟩:=o;dsimp only at hd;subst hd;refine cO (es.findIdx? (·.key.isStr name)) (λhi=>?_) λi hi=>?_
  ·exact⟨m name,_,_,ep,uw _ ho (by simp only [qzT,qz8,hi]<;>rfl),(by simp only [qzT,qz8,hi]<;>rfl),hk,λx=>by by_cases hx:x=name<;>simp [hx,hm]⟩
  ·exact⟨nsFind (es.eraseIdxIfInBounds i) name,_,_,ep+1,uw _ ho (by simp only [qzT,qz8,hi]<;>rfl),(by simp only [qzT,qz8,hi]<;>rfl),hk.erase i,
    λx=>by
     refine(?_:nsFind (es.eraseIdxIfInBounds i) x=if x=name then nsFind (es.eraseIdxIfInBounds i) name else m x);by_cases hx:x=name
     ·exact aa (if_pos hx) (aa hx rfl)
     ·refine aa (if_neg hx) (aa (nsFind_erase_other hi hx) ?_);rewrite [hm];rfl⟩
 exact ac nsv λv hv=> main (h _ _ v hv (qqC.update ..) (uw _ ho hf) (pG ..)) Γ p W5
variable {A':qqG}
theorem GS (G:c5 X A aq s0 aw env n d0 cl mk)(R:Run X ia aq s0 aw env Av oa m cm s H ae){x:Str}{pos:Pos}(hx:env.kindOf x=some .local)(ho:ae.om.lookup x=none){Q:Unit->qq1->Prop}{E:qq0->qq1->Prop}
  (hQ: ∀s' m' dc,dY (WF env) s s'->Run X ia aq s0 aw env Av oa m' dc s' H {ae with rho:=dN x ae.rho}->Q () s'):qq3 (qq5 X.P X.w) A' (bindName env x .none>>=λ_=>unbindBehindTheSuite env x pos) Q E s:=by
 refine ua (wpAny_bindName (dR R.base R.loc (.inl hx) ho (d:= .none) rfl λh1 tk m1 d7 a ha k lv fm L1=>?_));have Oj:WF env a:=by
  refine ui ha ?_ ?_;(all_goals clear ha);intro az;subst az;rotate_left;intro ha;rotate_right
  ·exact .inl rfl
  ·exact .inr ⟨x,ha⟩
 have st:dY (· =a) s {s with heap:=h1,toks:=tk}:=⟨λb o n e=>k b o n e,λb o e=>by
  by_cases q:b=a
  ·subst q;exact lv
  ·exact⟨o,k b o q e⟩,rfl,rfl⟩
 have R1:=R.named G st (λb q=>by exact aa q Oj) fm L1;generalize RL:({s with heap:=h1,toks:=tk}:qq1)=s1 at st R1;unfold unbindBehindTheSuite unbindName;refine wpAny_onRaise (ua (wpAny_point (ua ?_)));have hp:(env.scope.kind== .class||(env.scope.kind== .module && env.locals !=env.globals))=false:=by refine aa R.loc.kind ?_;rfl
 have L:=R1.loc;have X8:(m1 x).isSome=true:=by
  refine af (L.vals x .none (by simp)) λv hv ak=>?_;unfold slot at hv;replace hv:=eS (if_pos hx) hv;refine aa hv ?_;rfl
 refine aB (id L.ns) λoL ah ak A9 be=>?_;delta deleteName;simp only [hx,hp];refine aa (if_neg (by decide)) (ua (N6 L.ns A9 X8 λh2 Sn u Z3 oJ oX FV=>?_));simp only [Bool.not_true,uX,if_false];refine ud (wpAny_point ?_);have k2: ∀b o,b≠env.locals->s1.heap.get? b=some o->h2.get? b=some o:=λb o hb e=>by exact aa (oJ.2 b hb) e
 have lX:dY (WF env) s1 {s1 with heap:=h2}:=⟨λb o n e=>k2 b o (λq=>n (.inl q)) e,λb o e=>by
  by_cases q:b=env.locals
  ·subst q;exact⟨_,oX⟩
  ·exact⟨o,k2 b o q e⟩,rfl,rfl⟩
 have c:dB s1.heap Av h2 Av:=λb o e n=>⟨k2 b o (λq=>n (q▸L.avL)) e,n⟩;have IL:lW s1 {s1 with heap:=h2}:=λb o e hf=>by
  by_cases q:b=env.locals
  ·subst q;replace e:=eS A9 e;refine al e λah=>?_;clear e;subst ah;refine⟨Sn,oX,FV.trans hf.1,λvs hv=>?_⟩;refine bT Z3 λo2 DK Ux fg iy dX=>?_;replace fg:=eS oX fg;refine al fg λah=>?_;clear fg;subst ah;replace iy:=eS hv iy;cases iy
  ·exact(aj o (k2 b o q e) hf)
 refine hQ _ _ d7 ((st.mono λb q=>by exact aa q Oj).trans lX) (R1.named (rho':=dN x ae.rho) G lX (λb q=>q) IL
  {kind:=L.kind,glb:=L.glb,bi:=L.bi,dbg:=L.dbg,cdt:=L.cdt,kinds:=L.kinds,ns:=Z3,cells:=λy cc e=>?_,hasc:=L.hasc,avL:=L.avL,avC:=L.avC,apart:=L.apart,vals:=λy dd e=>?_,owns:=λy ob e=>?_,inj:=L.inj,solo:=L.solo,nL:=L.nL})
 ·exact af (L.cells y cc e) λo ho hd=>(aj o (k2 _ _ (oW L e) ho) hd)
 ·have e:(dN x ae.rho).lookup y=some dd:=e;replace e:=eS dI e;by_cases q:y=x
  ·replace e:=eS (if_pos q) e;exact xNS e
  ·replace e:=eS (if_neg q) e;have zz:(y==x)=false:=by exact Iff.mpr beq_eq_false_iff_ne q
   refine af (L.vals y dd (by refine aa um (aa zz ?_);exact e)) ?_;intro v hv hr;refine(aj v ?_ (VR.chg c _ _ hr));unfold slot at hv⊢;simpa [q] using hv
 ·refine bb (L.owns y ob e) λa1 a2 a3 a4 a5=>(cV ?_ a2 a3 a4 (oH.keep a5 a3 L.avL (.inl rfl) k2));have q: ¬y=x:=λz=>by replace e:=z▸e;replace e:=eS ho e;exact xNS e
  unfold slot at a1⊢;simpa [q] using a1
theorem fH.ex {fr:List Env}{h0:qqK}{p:AV}{e:qq0}(F:fH X h0 s.heap Av p e)(B:ao X s.heap Av fr H)(x:Ex X (aO fr) s s'):fH X h0 s'.heap Av p e:=F.chg (B.chg x)
structure RF (X:Cx)(fr:List Env)(Av:qq7->Prop)(s:qq1)(H:HS)(p:AV)(e:qq0)(s':qq1):Prop where
 ex:Ex X (aO fr) s s'
 hand:au X s'.heap Av H
 fly:fH X s.heap s'.heap Av p e
theorem RF.recd {fr:List Env}{p:AV}{e:qq0}(B:ao X s.heap Av fr H)(r:RF X fr Av s H' p e s1){W:qq7->Prop}(R:Gf X (aO fr) W s1 s2)(hW: ∀b,W b-> ¬Av b/\s.heap.get? b=none)(F:fH X s.heap s2.heap Av p e):RF X fr Av s H' p e s2:=by
 have B1:=B.ex r.ex r.hand;exact⟨r.ex.recd R (λb q=>(hW b q).2) λb q=>.inl q,(B1.recd R (λb q=>(hW b q).1) λb q=>by
  cases z:X.h0.get? b with
  |none=>rfl|some o=>have:=B.base b o z;replace this:=eS (hW b q).2 this;exact xNS this).hand,F⟩
theorem RF.step {fr:List Env}{p:AV}{e:qq0}(B:ao X s.heap Av fr H)(r:RF X fr Av s H' p e s1)(x:Ex X (aO fr) s1 s2)(h:au X s2.heap Av H'):RF X fr Av s H' p e s2:=
 ⟨r.ex.trans x,h,r.fly.ex (B.ex r.ex r.hand) x⟩
theorem RF.live {fr:List Env}{p:AV}{e:qq0}(B:ao X s.heap Av fr H)(r:RF X fr Av s H' p e s1): ∀b o,s.heap.get? b=some o-> ∃o',s1.heap.get? b=some o':=λb o e=>by
 by_cases q:X.aH=some b
 ·refine aB (r.hand.dict q) λo' ah ak h be=>?_;exact⟨o',h⟩
 ·refine ac (r.ex.live e q) λsl h=>?_;exact⟨_,h⟩
theorem RF.note {b6:List Env}{p:AV}{e:qq0}(A8:A.frames=some (env::b6))(B:ao X s.heap Av (env::b6) H)(r:RF X (env::b6) Av s H' p e s1){Q:Unit->qq1->Prop}
  (hQ: ∀s2,RF X (env::b6) Av s H' p e s2->Q () s2):qq3 (qq5 X.P X.w) A (noteFrame e env) Q E s1:=
 zA A8 (B.ex r.ex r.hand) r.fly (r.live B) (λb h=>by
  cases z:X.h0.get? b with
  |none=>rfl|some o=>have:=B.base b o z;replace this:=eS h this;exact xNS this) λs2 W R hW F _=>hQ s2 (r.recd B R hW F)
theorem RF.flight {fr:List Env}{p:AV}{e:qq0}{fo:Option qq7}(B:ao X s.heap Av fr H)(r:RF X fr Av s H' p e s1){Q:Unit->qq1->Prop}
  (hQ: ∀s2,RF X fr Av s H' p e s2->Q () s2):qq3 (qq5 X.P X.w) A (setFlight e fo) Q E s1:=
 lx (B.ex r.ex r.hand) r.fly λs2 W R hW F=>hQ s2 (r.recd B R hW F)
theorem RF.val {fr:List Env}{p:AV}{e:qq0}(r:RF X fr Av s H' p e s1):VV X s1.heap Av (.exc p) e/\ ∃a o,e= .ref a/\s1.heap.get? a=some o/\o.cls= .ref X.C.pf:=by
 refine mH r.fly λa o vs he n1 q1 g1 g2 g3 gd Nd S6=>kN Nd λdx es n u q2 e1 e2 e3 e4 e5 e6=>?_;exact⟨⟨a,o,dx,es,n,0,u,rfl,he,q1,q2,g1,e1,e2,e3,e4,e5,VR.chg (λb o e n=>⟨e,λq=>n (.inl q)⟩) _ _ e6⟩,a,o,he,g1,e1⟩
theorem z_ {M:Model}{C a:qq7}{oe:Obj}{Q:Bool->qq1->Prop}(hC:s.heap.get? C=some ⟨.type "type",od,.cls cd,sl⟩)(ha:s.heap.get? a=some oe)(hc:oe.cls= .ref C)
  (hB:Looks M s.heap (qzS (.ref C) (.type "BaseException")) true) (hS:Looks M s.heap (qzS (.ref C) (.ref C)) true) (hq:Q true s):qq3 M A (excMatches (.ref a) (.ref C)) Q E s:=by
 obtain⟨h,g,d,t,os⟩:=s;have f:=tc_notTuple;delta excMatches
 repeat (first|(with_reducible refine qzH ha (aa hc ?_))|with_reducible refine qzH hC ?_|with_reducible refine Looks.at hB ?_|with_reducible refine Looks.at hS ?_|wp_step)
 exact hq
set_option tactic.hygienic true in
theorem GU (G:c5 X A aq s0 aw env n d0 cl mk)(R:Run X ia aq s0 aw env Av oa m cm s H ae){e:Expr}{h:ExceptHandler}{p1 pos:Pos}:
  bM X A ia aq s0 aw env s H (PySem.exec (.Try [.Return (some e) p1] [h] [] [] pos) env) (i9 (M.bind (ev X.C cl mk 3 e ae) λv=>M.pure (.ret v,ae))):=by
 intro r H' er Q E hQ hE;refine wpAny_Try_except (?_:qq3 _ _ ((qqU p1>>=λ_=>eval e env>>=λv=>(pure (Flow.ret v):Sem Flow))>>=λ(f:Flow)=>match f with|Flow.next=>PySem.execs [] env|f=>pure f) _ _ _);refine ua (ua (qqF (ua ?_)));refine af (fk er) λa q er2=>?_;subst q;refine b7 er2 ?_ ?_;intro p e1 q;rotate_left;intro v H1 e1 e2;rotate_right
 ·exact xO q
 ·refine Mx e2 λah ak=>?_;clear e2;subst ah;subst ak;refine bc G.ev e 3 R.base R.loc _ _ e1 _ _ (λd q u s1 x1 y1 z1=>?_) λp q=>by exact xO q
  refine jO q λah=>?_;clear q;subst ah;exact ud (ud (hQ _ _ rfl _ _ _ _ _ _ (R.step G x1 y1) ((R.step G x1 y1).val z1)))
theorem GV (O:cN X){fr:List Env}(B:ao X s.heap Av fr H)(L:aJ X s.heap env Av oa ae m cm){c:Const}{kc kt:Nat}{cp zp ap tp:Pos}{z at_:Str}:
  bw X A fr Av s H (eval (.Tuple [.Constant c kc cp,.Attribute (.Name z zp) at_ ap] kt tp) env) (ev X.C cl mk 3 (.Tuple [.Constant c kc cp,.Attribute (.Name z zp) at_ ap] kt tp) ae):=by
 refine(?_:bw X A fr Av s H _ (if fe [.Constant c kc cp,.Attribute (.Name z zp) at_ ap] then M.bind (l_ X.C cl mk 3 [.Constant c kc cp,.Attribute (.Name z zp) at_ ap] ae) λvs=>M.pure (AV.tup vs) else stuck));split
 ·refine kZ B (λvs H' e=>by exact aa (dg e) (uj _ _)) ?_;exact cA B (λa p q=>by cases q) (y_ B) λs1 H1 B1 x1=>cA B1 (λa p q=>by cases q) (Dc O B1 rfl (gp O.toCxOk B1 (L.ex B x1))) λs2 H2 B2 x2=>dP B2
 ·exact .stuck
theorem N7 (G:c5 X A aq s0 aw env n d0 cl mk)(R:Run X ia aq s0 aw env Av oa m cm s H ae){hb:List Stmt}{b:Str×Const×Str×Str}{v:AV}(h:RA hb=some b)(hv:RC X.C b ae=some v){r:Except AV Loc}(e:bB b.1 v ae H=some (r,H')):
  H'=H/\r= .ok {ae with rho:=bH b.1 v ae.rho}/\ ∀{Q:Flow->qq1->Prop} {E:qq0->qq1->Prop},(∀s' m' dc,Run X ia aq s0 aw env Av oa m' dc s' H {ae with rho:=bH b.1 v ae.rho}->Q .next s')->qq3 (qq5 X.P X.w) A' (PySem.execs hb env) Q E s:=by
 refine O9 (Fv h) λyp kc cp zp ap kt tp p q=>?_;subst q;refine af (aG hv) λc g1 h1=> af (aG h1) λz g2 h1=> af (d5 h1) λu g3 h1=>?_;subst h1;have he:ev X.C cl mk 3 (.Tuple [.Constant b.2.1 kc cp,.Attribute (.Name b.2.2.1 zp) b.2.2.2 ap] kt tp) ae H=some (.ok (.tup [c,u]),H):=by
  refine(?_:M.bind (M.bind (lift (ki b.2.1)) λv=>M.bind (M.bind (M.bind (lift (ec X.C ae b.2.2.1)) λv=>lift (gW X.C v b.2.2.2)) λv=>M.bind (M.pure []) λvs=>M.pure (v::vs)) λvs=>M.pure (v::vs)) (λvs=>M.pure (AV.tup vs)) H=_);refine aa g1 (aa g2 ?_);refine(?_:M.bind (M.bind (M.bind (lift (gW X.C z b.2.2.2)) λv=>M.bind (M.pure []) λvs=>M.pure (v::vs)) λvs=>M.pure (c::vs)) (λvs=>M.pure (AV.tup vs)) H=_);refine aa g3 ?_;rfl
 have hs:=λ(Q:qq0->qq1->Prop) (E:qq0->qq1->Prop)=>GV (A:=A') (cl:=cl) (mk:=mk) (kt:=kt) (tp:=tp) (kc:=kc) (cp:=cp) (zp:=zp) (ap:=ap) G.ev.O R.base R.loc _ _ he Q E;refine(aQ (bE e).1 (bE e).2.1 (λ{Q E} hQ=>Dj (hs _ _ (λd q w s1 x1 y1 z1=>?_) λp q=>xO q)))
 ·refine jO q λah=>?_;clear q;subst ah;exact bb (eY G (R.step G x1 y1) z1 e) λq1 q2 ak c8 BP=> BP λs2 m2 zx lX R2=>hQ s2 m2 zx R2
theorem GW {C:kh}{p:AV}{x:Str}{b:Str×Const×Str×Str}{r:Except AV (Fl×Loc)}(er:Wo C p x b ae H=some (r,H')):
  ∃v,RC C b {ae with rho:=bH x (.exc p) ae.rho}=some v/\bB x (.exc p) ae H=some (.ok {ae with rho:=bH x (.exc p) ae.rho},H)/\bB b.1 v {ae with rho:=bH x (.exc p) ae.rho} H=some (.ok {ae with rho:=bH b.1 v (bH x (.exc p) ae.rho)},H)/\
   r= .ok (.next,{ae with rho:=dN x (bH b.1 v (bH x (.exc p) ae.rho))})/\H'=H:=by
 refine(M.bind_some (mm:=bB x (.exc p) ae) er).elim (λq=>?_) λq=>?_
 ·exact af q λp' e1 ak=> xE (bE e1).2.1
 refine aY q λaK H1 e1 e2=>?_;have q1:=(bE e1).1;have q2:=vl (bE e1).2.1;rw [q1,q2] at e1 e2;have e2:(match RC C b {ae with rho:=bH x (.exc p) ae.rho} with
  |some v=>M.bind (bB b.1 v {ae with rho:=bH x (.exc p) ae.rho}) λmS=>M.pure (Fl.next,{mS with rho:=dN x mS.rho})
  | .none=>Internal.stuck) H=some (r,H'):=e2
 refine cO (RC C b {ae with rho:=bH x (.exc p) ae.rho}) (λhv=>?_) λv hv=>?_
 ·replace e2:=hv▸e2;exact xNS e2
 replace e2:=hv▸e2;refine(M.bind_some e2).elim (λq=>?_) λq=>?_
 ·exact af q λp' e3 ak=> xE (bE e3).2.1
 refine aY q λaaA H2 e3 e4=>?_;have q3:=(bE e3).1;have q4:=vl (bE e3).2.1;rw [q3,q4] at e3 e4;exact(j1 v hv e1 e3 (by refine aN e4 λah ak=>?_;clear e4;subst ah;subst ak;rfl) (by refine aN e4 λah ak=>?_;clear e4;subst ah;subst ak;rfl))
theorem RF.at_ {fr:List Env}{p:AV}{a:qq7}(r:RF X fr Av s H' p (.ref a) s1): ∃o,s1.heap.get? a=some o/\o.cls= .ref X.C.pf:=by
 refine ai r.val λaz aI=>a8 aI λa' o q h1 h2=>?_;replace h1:=Eq.symm (qq0.ref.inj q)▸h1;exact(aj o h1 h2)
theorem Ju (G:c5 X A aq s0 aw env n d0 cl mk)(PF:BQ X)(R:Run X ia aq s0 aw env Av oa m cm s H ae){y f x:Str}{yp tp ap fp ke pos:Pos}{es:List Expr}{hb:List Stmt}{b:Str×Const×Str×Str}
  (hh:RA hb=some b) (Tc:fe es=true) (WN:ec X.C ae f=some (.glob (.ref X.C.pf))) (hxl:ae.sc.names.lookup x=some .local):
  bM X A ia aq s0 aw env s H (PySem.exec (.Try [.Assign [.Name y yp] (.Tuple es k tp) ap] [.ExceptHandler (some (.Name f fp)) (some x) hb ke] [] [] pos) env) (L7 X.C cl mk (y,es) (f,x,b) ae):=by
 intro r H' er Q E hQ hE;refine ai (iS Tc) λh1 h2=>?_;have iV:=kZ (k:=k) (pos:=tp) R.base (λvs H' e=>by exact aa (dg e) h2) (fy G.ev es 3 (pos:=tp) R.base R.loc h1);refine wpAny_Try_except (Dj ?_);have er:(match l_ X.C cl mk 3 es ae H with
  |some (.ok vs,H')=>M.bind (bB y (.tup vs) ae) Internal.next H'|some (.error p,H')=>Wo X.C p x b ae H'| .none=>.none)=some (r,H'):=er
 refine cO (l_ X.C cl mk 3 es ae H) (λhr=>?_) λrr hr=>?_
 ·replace er:=hr▸er;exact xNS er
 obtain⟨r1,H1⟩:=rr;replace er:=hr▸er
 induction r1 using Except.casesOn with
 |ok vs=>
  refine iV (.ok (.tup vs)) H1 (by delta M.bind;refine aa hr ?_;rfl) _ _ (λd q u s1 x1 y1 z1=>?_) λp q=>by exact xO q
  refine jO q λah=>?_;clear q;subst ah;refine b7 er ?_ ?_;intro q e1 ak;rotate_left;intro aK H2 e1 e2;rotate_right
  ·exact xE (bE e1).2.1
  refine bb (eY G (R.step G x1 y1) z1 e1) λq1 q2 ak c8 BP=> jO q2 λah=>?_;clear q2;subst ah;subst q1;refine aN e2 λah ak=>?_;clear e2;subst ah;subst ak;exact BP λs2 m2 zx lX R2=>ud (hQ _ _ rfl _ _ _ _ _ _ R2 trivial)
 |error p=>
  refine iV (.error p) H1 (by delta M.bind;exact aa hr rfl) _ _ (λd q=>xE q) λp' q e s1 x1 y1 F1=> jE q λah=>?_;clear q;subst ah;refine RF.note G.frames R.base (⟨x1,y1,F1⟩:RF X (env::aq) Av s H1 p e s1) λs2 r2=>RF.flight R.base r2 λs3 r3=> ai r3.val λaaB aI=>a8 aI λa o q ha So=>?_;subst q;have R3:=R.step G r3.ex r3.hand;have hn:=gp (A:=A.mark (some (.ref a))) G.ev.O.toCxOk R3.base R3.loc (x:=f) (pos:=fp);replace hn:=WN▸hn;refine wpAny_handleBy_cons (codeAny_handlers_test (hn _ _ rfl _ _ (λd q u s4 x4 y4 z4=>?_) λp q=>xO q)) (by intro q;cases q);refine jO q λah=>?_;clear q;subst ah;cases(show u= .ref X.C.pf from z4);have r4:=r3.step R.base x4 y4;refine af r4.at_ λo4 S8 X9=>?_;have KI:=Gp G.ev.O.toCxOk (R.step G r4.ex r4.hand).base;refine ET PF ?_;clear PF;intro f1 D1 c1 f2 c2 Jm Jn PF;refine aB PF.cd λod cd sl GR be=> z_ (KI _ _ GR) S8 X9 (qzD KI PF.mB) (qzD KI PF.m2) (af (aG hh) λst g1 ak=>?_);cases bW g1;refine codeAny_handlers_suite_as (RF.flight R.base r4 λs5 r5=>?_);have R5:=R.step G r5.ex r5.hand;exact ef (GW er) λv hv e1 e3 hr hH=> bb (eY G R5 r5.val.1 e1) λaz ah ak EB BP=> BP λs6 m6 UF Ob R6=>(N7 (A':=A.mark (some (.ref a))) G R6 hh hv e3).2.2 λs8 m8 cm8 R8=> GS G R8 ((R.loc.kinds x _ hxl).elim id λq=>by cases q.1) EB λs9 m9 cm9 st9 R9=>hQ _ _ hr _ _ _ _ _ _ (hH▸R9) trivial
variable {W:Nat}
theorem Em (G:c5 X A aq s0 aw env n d0 cl mk)(R:Run X ia aq s0 aw env Av oa m cm s H ae){e:Expr}:
  bM X A ia aq s0 aw env s H (PySem.exec (.Assign ts e pos) env) (match oneOf ts with
  |some t=>M.bind (kl X.C cl mk t e ae) Internal.next| .none=>stuck):=by
 refine cO (oneOf ts) (λh=>?_) λt h=>?_
 ·exact aa h .stuck
 ·refine aa h ?_;cases bW h;exact GG G R
theorem BS (G:c5 X A aq s0 aw env n d0 cl mk)(PF:BQ X)(R:Run X ia aq s0 aw env Av oa m cm s H ae){exc eO:Option Expr}:
  bM X A ia aq s0 aw env s H (PySem.exec (.Raise exc eO pos) env) (AQ X.C cl mk exc eO ae):=by
 delta AQ;refine cO (AN exc eO) (λh=>?_) λx h=>?_
 ·exact aa h .stuck
 ·refine aa h (ai (yT h) λh1 aI=>yI aI λfp k cp p h2=>?_);subst h1 h2;exact .guardX λc=>Jt G PF R (nU (tt c).1) (tt c).2
theorem GX (G:c5 X A aq s0 aw env n d0 cl mk)(PF:BQ X)(R:Run X ia aq s0 aw env Av oa m cm s H ae){hs:List ExceptHandler}{kU yP:List Stmt}:
  bM X A ia aq s0 aw env s H (PySem.exec (.Try body hs kU yP pos) env) (RD X.C cl mk body hs kU yP ae):=by
 refine .guardX λc=> ai (tt c) λc1 c2=>?_;cases qqM.mp c1;cases qqM.mp c2;refine cO ((oneOf body).bind λst=>(oneOf hs).map λh=>(st,h)) (λh=>?_) λx h=>?_
 ·exact aa h .stuck
 refine aa h (af (aG h) λst g1 h=> af (d5 h) λhd g2 h=>?_);subst h;refine aa (bW g1) (aa (bW g2) ?_);refine(?_:bM X A ia aq s0 aw env s H _ (AR X.C cl mk st (AM hd) ae));delta AR;refine cO (Fi st) (λh=>?_) λe h=>?_
 ·refine aa h (cO ((Ir st).bind λa=>(Wm (AM hd)).map λh=>(a,h)) (λh=>?_) λx h=>?_)
  ·exact aa h .stuck
  refine aa h (af (aG h) λa g3 h=> af (d5 h) λhh g4 h=>?_);subst h;refine .guardX λc=> ai (tt c) λc c3=> ai (tt c) λc1 c2=> yI (mW g3) λyp k tp ap q=>?_;subst q;obtain⟨t,nm,hb,ke⟩:=hd;refine aC (Fw g4) λfp q1 q2 q3=>?_;cases(show t=_ from q1);cases(show nm=_ from q2);exact Ju G PF R q3 c1 (nU c2) (beq_iff_eq.mp c3)
 ·refine aa h (ac (AX h) λp q=>?_);subst q;exact .guardX λc=>GU G R
def XS (X:Cx)(A:qqG)(ia:qq7)(aq:List Env)(env:Env)(n d0 W:Nat)(cl mk:qq7->List AV->M AV)(st:Stmt):Prop:= ∀{s0:qq1} {aw:qq7->Prop} {s:qq1} {H:HS} {Av:qq7->Prop} {oa:Str->qq7} {m cm:Str->Option qq0} {ae:Loc},c5 X A aq s0 aw env n d0 cl mk->Run X ia aq s0 aw env Av oa m cm s H ae->
  bM X A ia aq s0 aw env s H (PySem.exec st env) (Internal.exec X.C cl mk W st ae)
def XL (X:Cx)(A:qqG)(ia:qq7)(aq:List Env)(env:Env)(n d0 W:Nat)(cl mk:qq7->List AV->M AV)(l:List Stmt):Prop:= ∀{s0:qq1} {aw:qq7->Prop} {s:qq1} {H:HS} {Av:qq7->Prop} {oa:Str->qq7} {m cm:Str->Option qq0} {ae:Loc},c5 X A aq s0 aw env n d0 cl mk->Run X ia aq s0 aw env Av oa m cm s H ae->
  bM X A ia aq s0 aw env s H (PySem.execs l env) (Internal.execs X.C cl mk W l ae)
section
variable (PF:BQ X)
include PF
mutual
theorem Dp: ∀(st:Stmt),XS X A ia aq env n d0 W cl mk st:=λst=>by
 intro s0 aw s H Av oa m cm ae G R
 induction st using PySem.Stmt.casesOn with
 |Pass p=>exact Nm R|If t b o p=>exact WZ G R (λs1 H1 R1=>dw b G R1) λs1 H1 R1=>dw o G R1
 |Expr e p=>exact Nw G R|Assign ts e p=>exact Em G R|For t it body o p=>exact To G R λs0 aw G s H Av oa m cm ae R=>dw body G R
 |While t body o p=>exact .guardX λc=>qqM.mp c▸Jh G R λs H Av oa m cm ae R=>dw body G R
 |Raise exc eO p=>exact BS G PF R|Try body hs kU yP p=>exact GX G PF R|Return v p=>
  induction v using Option.casesOn with
  |none=>exact DW R|some e=>exact SS G R
 |_=>exact .stuck
theorem dw: ∀(l:List Stmt),XL X A ia aq env n d0 W cl mk l
 | []=>by
  intro G R;exact SU R
 |st::r=>by
  intro G R;exact Nn (Dp st G R) λa6 s1 H1 Av oa m cm R1=>dw r G R1
end
end
variable {fr:List Env}
theorem Dq {pf:qq7}{names:List Str}(h:(nB K pf names).init c=some f):findIn K (.ref c) "__init__"=some (some (.ref f))/\makesIn K c=true/\keepIn K (.ref c)=true/\plainOver K c=true/\isFn K (.ref f)=true:=by
 exact af (aG h) λf' h1 h=> ai (Dy h) λq h=> bq (ug h) (cV (l4 h1) (tt (tt (tt q).1).1).1 (tt (tt (tt q).1).1).2 (tt (tt q).1).2 (tt q).2)
theorem pH {a:qq7}(he:env=newEnv fd.scope s.heap.objs.size fd.globals (qq6 (s.heap.objs.size+1) fd.scope.names []) (fd.qualname++ ".<locals>.") (some a) fd.code none fd.builtins):
  env.locals=s.heap.objs.size/\env.frame=some s.heap.objs.size/\ ∀b,WF env b->s.heap.objs.size<=b:=by
 subst he;refine(aQ rfl rfl (λb h=>?_));refine ui h ?_ ?_;(all_goals clear h);intro h;rotate_left;intro az;refine ac az λx h=>?_;rotate_right
 ·exact aa h (ur _)
 ·have Gr:=cellsFrom_ok fd.scope.names (s.heap.push {cls:= .type "frame",data:= .dict #[]}) (s.heap.objs.size+1) [] ⟨λ_ _ hm=>(nomatch hm),List.Pairwise.nil⟩ (by rw [uR];exact ur _);rw [uR] at Gr;exact uO (Gr.empty x b (mem_of_lookup h)).2
theorem Run.claim {s0:qq1}{scope:Scope}{rho:List (Str×AV)}{self:Str}{x dx c:qq7}(k0: ∀b o,s0.heap.get? b=some o->s.heap.get? b=some o)(x0:Ex X (aO fr) s0 s)(B0:ao X s0.heap Av fr H)(R:Run X ia fr s (ins Av [x,dx]) env Av' oa m cm s' H ⟨scope,rho,[]⟩)
  (k: ∀b o,s.heap.get? b=some o->s'.heap.get? b=some o) (nx:s0.heap.get? x=none) (nd:s0.heap.get? dx=none) (hx:s.heap.get? x=some (qz1 c dx)) (hd:s.heap.get? dx=some (dictOf [] 0)) (hL:s.heap.get? env.locals=none) (hs:slot env m cm self=some (.ref x)):
  Run X x fr s0 Av env Av' (λ_=>x) m cm s' H ⟨scope,rho,[(self,.inst c [] [])]⟩:=by
 have one: ∀y ob,([(self,OB.inst c [] [])]:List (Str×OB)).lookup y=some ob->y=self/\ob= .inst c [] []:=λy ob e=>by
  replace e:=eS um e;refine cB (y==self) (λq=>?_) λq=>?_
  ·replace e:=q▸e;refine al e λah=>?_;clear e;subst ah;exact⟨beq_iff_eq.mp q,rfl⟩
  ·replace e:=q▸e;exact xNS e
 have Ea: ∀b,s0.heap.get? b=none-> ¬Av b:=λb h=>B0.fresh h;have nH: ∀b,s0.heap.get? b=none->X.aH≠some b:=λb h q=>by
  refine aB (B0.hand.dict q) λo ah ak h' be=>?_;replace h':=eS h h';exact xNS h'
 have Z4: ∀b o,s.heap.get? b=some o->b≠env.locals:=λb o e q=>by replace e:=q▸e;replace e:=eS hL e;exact xNS e
 have L:=R.loc;have avx:Av' x:=R.sub x (.inr (by exact .head _));have avd:Av' dx:=R.sub dx (.inr (by exact .tail _ (.head _)));refine⟨x0.trans R.ex,R.base,
  {kind:=L.kind,glb:=L.glb,bi:=L.bi,dbg:=L.dbg,cdt:=L.cdt,kinds:=L.kinds,ns:=L.ns,cells:=L.cells,hasc:=L.hasc,avL:=L.avL,avC:=L.avC,apart:=L.apart,vals:=L.vals,owns:=λy ob e=>?_,inj:=λy z gw Jd e1 e2 q=>by refine aa (one y _ e1).1 (aa (one z _ e2).1 ?_);rfl,solo:=λy z cc ks vs ob e1 e2=>by refine aa (one y _ e1).1 (aa (one z _ e2).1 ?_);rfl,nL:=L.nL},λb q=>R.sub b (.inl q),λb q=>?_,λy ob e=>Ea x nx,λy cc ks vs EC e h=>?_⟩
 ·refine ai (one y ob e) λaz ah=>?_;subst az;subst ah;exact⟨hs,avx,Z4 _ _ hx,nH x nx,dx,[],0,avd,Z4 _ _ hd,nH dx nd,k _ _ hx,k _ _ hd,(aj ([]) rfl rfl),rfl⟩
 ·refine ui (R.fresh b q) (λh=>?_) λh=>?_
  ·refine ui h (λh=>?_) λh=>?_
   ·exact .inl h
   ·refine ui (uY.mp h) ?_ ?_;intro az;subst az;rotate_left;intro h;rotate_right
    ·exact .inr nx
    ·exact aa (qq2.mp h) (.inr nd)
  ·refine .inr ?_;cases z:s0.heap.get? b with
   |none=>rfl|some o=>
    replace h:=eS (k0 b o z) h;exact oz h
 ·refine ai (one y _ e) λaz q=>?_;subst az;cases q;have:=k _ _ hx;replace this:=eS h this;refine al this λah=>?_;clear this;cases ah;exact⟨Ea _ nd,rfl⟩
theorem En (C:qq7)(rest:List qq0):(Code.builtin "type.__call__" ⟨.ref C::rest,[]⟩).cUnits=1:=by kernel_rfl
set_option tactic.hygienic true in
theorem pI {C:kh}{r:Except AV AV}(e:runInit C cl mk W c fd args H=some (r,H')):
  eG fd=true/\ ∃self ps,fd.params.args.map (·.arg)=self::ps/\ps.length=args.length/\M.bind (Internal.execs C cl mk W (bI fd) ⟨fd.scope,(ps.zip args).reverse,[(self,.inst c [] [])]⟩) (λx=>match x.1 with
   | .next=>match x.2.om.lookup self with
    |some (.inst c' ks vs)=>if c'=c then M.pure (AV.inst c ks vs) else Internal.stuck
    |_=>Internal.stuck
   | .ret _=>Internal.stuck) H=some (r,H'):=by
 delta runInit at e;refine cB (eG fd) (λfK=>⟨fK,?_⟩) λfK=>?_
 ·replace e:=fK▸e;generalize fd.params.args.map (·.arg)=l at e⊢
  induction l using List.casesOn with
  |nil=>exact xNS e|cons self ps=>
   by_cases q:ps.length=args.length
   ·exact(cq self ps rfl q ((congrFun (if_pos q) H).symm.trans e))
   ·have:=(congrFun (if_neg q) H).symm.trans e;exact xNS this
 ·replace e:=fK▸e;exact xNS e
theorem BU {x:Option OB}{r:Except AV AV}(e:(match x with
    |some (.inst c' ks vs)=>if c'=c then M.pure (AV.inst c ks vs) else Internal.stuck
    |_=>Internal.stuck) H=some (r,H')): ∃ks vs,x=some (.inst c ks vs)/\r= .ok (.inst c ks vs)/\H'=H:=by
 induction x using Option.casesOn with
 |none=>exact xNS e|some ob=>
  induction ob using OB.casesOn with
  |inst c' ks vs=>
   by_cases q:c'=c
   ·have e:=(congrFun (if_pos q) H).symm.trans e;refine aN e λah ak=>?_;clear e;subst ah;subst ak;exact(cq ks vs (by exact aa q rfl) rfl rfl)
   ·have e:=(congrFun (if_neg q) H).symm.trans e;exact xNS e
  |_=>exact xNS e
theorem call_cls (O:cN X)(hA:A.handled=none)(hd:A.depth+1<1000)(A8:A.frames=some fr)(B:ao X s.heap Av fr H){vs:List qq0}(hi:X.C.init c=some fi)(hf:X.C.func fi=some fd)(hv:cu X s.heap Av args vs)
  (zJ: ∀(A':qqG) env ae s1 ix oa m cm ia,A'.handled=none->A'.depth=A.depth+2->A'.units<=A.units+5->A'.frames=some (env::fr)->(∀b∈aO (env::fr),b∈aO fr\/s.heap.get? b=none)->(∀b,WF env b->s.heap.get? b=none)->Run X ia fr s Av env ix oa m cm s1 H ae->
   bM X A' ia fr s Av env s1 H (PySem.execs (bI fd) env) (Internal.execs X.C cl mk W (bI fd) ae)):
  bw X A fr Av s H (PySem.call (.ref c) vs) (runInit X.C cl mk W c fd args):=by
 intro r H' e Q E hQ hE;refine ai (pI e) λfK aI=>a8 aI λself ps UH eJ e=> oy (fu fK) λf1 f2 f3 f4 f5 f6 f7 f8 f9 U7 U8 U9 aI=>yH aI λUA UB IZ Oe UC yW=> ac yW λbody I_=>?_;have lv:=aF.length hv;refine aX O.cfg λpf names gA=>?_;have XA:=hi;replace XA:=gA▸XA;refine bb (Dq XA) λi1 i2 i3 i4 i5=>?_;have eV:=hf;replace eV:=gA▸eV;refine bT (ph eV) λoc dd sl hl hkp WW=>?_;have KI:=Gp O.toCxOk B;have SJ:bI fd=body:=by delta bI;exact aa I_ rfl
 refine qzF ?_;obtain⟨hh,gg,dr,tt,os⟩:=s;refine make_core (makes_of KI i2) (looks_findIn KI i1) (λself=>bind_fn KI self (beq_iff_eq.mp i5)) (.inl rfl) ?_;generalize oJ:(⟨(hh.push emptyDict).push (qz1 c hh.objs.size),gg,dr,tt,os⟩:qq1)=s2;have k2: ∀b o,hh.get? b=some o->s2.heap.get? b=some o:=λb o e=>by exact bq oJ (uc _ (uc _ e))
 have ng: ∀b,hh.objs.size<=b->hh.get? b=none:=λb h=>by
  cases q:hh.get? b with
  |none=>rfl|some o=>exact absurd (ul q) (qxA.mpr h)
 have IU:s2.heap.get? (hh.objs.size+1)=some (qz1 c hh.objs.size):=by refine bq oJ (?_:((hh.push emptyDict).push (qz1 c hh.objs.size)).get? _=_);heap_get
 have iy:s2.heap.get? hh.objs.size=some (dictOf [] 0):=by refine bq oJ (?_:((hh.push emptyDict).push (qz1 c hh.objs.size)).get? _=_);heap_get
 have hz: ∀b∈([hh.objs.size+1,hh.objs.size]:List qq7),hh.get? b=none/\ ∃o,s2.heap.get? b=some o:=λb hb=>by
  refine ui (uY.mp hb) ?_ ?_;intro az;subst az;rotate_left;intro hb;rotate_right
  ·exact⟨ng _ (uF _),_,IU⟩
  ·exact aa (qq2.mp hb) (⟨ng _ (ur _),_,iy⟩)
 have LQ: ∀b o,hh.get? b=some o-> ¬Av b-> ¬ins Av [hh.objs.size+1,hh.objs.size] b:=λb o e n q=>by
  refine ui q (λq=>?_) λq=>?_
  ·exact n q
  ·replace e:=eS (hz b q).1 e;exact xNS e
 have B2:ao X s2.heap (ins Av [hh.objs.size+1,hh.objs.size]) fr H:=B.keep k2 (λb q=>.inl q) LQ λb q=>by
  refine ui q (λq=>?_) λq=>?_
  ·refine ac (B.live b q) λo h=>?_;exact⟨o,k2 b o h⟩
  ·exact(hz b q).2
 have x02:Ex X (aO fr) ⟨hh,gg,dr,tt,os⟩ s2:=⟨λb o e _ _=>k2 b o e,λb o e _ _=>⟨o.slots,k2 b o e⟩,by refine bq oJ ?_;rfl,by refine bq oJ ?_;rfl⟩;have lB:=eD (fd:=fd) (vs:= .ref (hh.objs.size+1)::vs) f6 f7 f8 f9 f5 (by have:=congrArg List.length UH;simp at this⊢;exact Pc eJ lv this) IZ;have zl:((fd.params.args.map (·.arg)).zip (.ref (hh.objs.size+1)::vs)).map (·.1)=fd.params.args.map (·.arg):=vo (by refine aa UH ?_;simp;exact Pd eJ lv);have hv2:cu X s2.heap (ins Av [hh.objs.size+1,hh.objs.size]) args vs:=aF.chg (λb o e n=>⟨k2 b o e,LQ b o e n⟩) _ _ hv;generalize UI:A.under (.builtin "type.__call__" ⟨.ref c::vs,[]⟩)=A2;have a1:A2.depth=A.depth+1:=by refine bq UI (?_:A.depth+Code.weight _=_);rw [lC]
 have a2:A2.handled=none:=by exact bq UI hA
 have a3:A2.frames=some fr:=by exact bq UI A8
 have a4:A2.units<=A.units+2:=by
  refine bq UI (?_:A.units+Code.cUnits _<=_);rw [En];exact Cu
 refine codeAny_call_function (o:=⟨oc,dd,.func fd,sl⟩) (by exact aa a1 hd) (k2 _ _ (KI _ _ hl)) rfl f2 f3 I_ (codeRec_of (KI.keeps k2) WW) ?_;refine aa lB (ud (hX (ia:=0) fK B2.hand.av B2 (binds:=(fd.params.args.map (·.arg)).zip (.ref (hh.objs.size+1)::vs)) (rho:=(ps.zip args).reverse) (om:= []) (oa:=λ_=>0) (by exact aa zl IZ) (by exact aa zl Oe) (λx d hx=>(Gs hv2 hx).elim λv q=>(aj v (by exact aa UH (uz _ q.1)) q.2)) rfl λenv s3 ix m cm he R3 hk hsl=>⟨(O.nolim.keeps λb o q=>hk b o (k2 b o (B.base b o q))),codeAny_func ?_⟩));refine aU (pH he) λT3 N8 T4=>?_;have Z5:hh.objs.size<=s2.heap.objs.size:=by
  refine bq oJ (?_:_<=((hh.push emptyDict).push (qz1 c hh.objs.size)).objs.size);rw [uR,uR];exact EW
 have nL2: ∀b,s2.heap.objs.size<=b->s2.heap.get? b=none:=λb h=>aW (s2:=s2) (λ_ _ e=>e) h;have R4:=Run.claim (x:=hh.objs.size+1) (dx:=hh.objs.size) (c:=c) (s0:=⟨hh,gg,dr,tt,os⟩) (self:=self) k2 x02 B R3 hk (ng _ (uF _)) (ng _ (ur _)) IU iy (by exact aa T3 (nL2 _ (ur _))) (hsl _ _ (by exact aa UH (uE ..)));have Gu:(A2.deeper env).frames=some (env::fr):=by refine(?_:A2.frames.map _=_);refine aa a3 ?_;rfl
 have UD: ∀b∈aO (env::fr),b∈aO fr\/hh.get? b=none:=λb F4=>by
  refine af (dH F4) λen pr eV=> ui (uY.mp pr) ?_ ?_;intro az;subst az;rotate_left;intro pr;rotate_right
  ·replace eV:=eS N8 eV;refine al eV λah=>?_;clear eV;subst ah;exact .inr (ng _ Z5)
  ·exact .inl (List.mem_filterMap.mpr (aj en pr eV))
 have SK:=zJ (A2.deeper env) env _ s3 ix _ m cm _ a2 (by refine(?_:A2.depth+1=_);exact Pe a1) (by refine(?_:A2.units+3<=_);exact Pf a4) Gu UD (λb h=>ng _ (ub Z5 (T4 b h))) R4;rw [SJ] at SK e;refine SK.use e (λa6 H2 e2 s4 yX Nk m2 zx R5=>?_) (λd a6 H2 e2 v s4 yX Nk m2 zx R5 w=>xNS e2) λp q ex s2' h2=>jJ Gu B UD h2 λs3 h3=>aU (de.out B h3) λx y z=>hE p q _ _ x y z;refine a8 (BU e2) λks' ws EB hr hH=> bb (R5.loc.owns _ _ EB) λh1 h2 h3 h4 aI=>d9 aI λdx es nn h5 h6 h7 h8 h9 ts WU=> ai (R5.ownD _ _ _ _ _ EB h8) λnd ho=>?_;have nx:=R5.own _ _ EB;rw [ho] at nx h8;exact⟨rfl,hQ _ hr _ _ R5.ex (hH▸R5.base.hand.out R5.sub B.hand.av) ⟨_,dx,es,nn,rfl,nx,nd,h8,h9,ts,aF.chg (λb o e n=>⟨e,λq=>n (R5.sub b q)⟩) _ _ WU⟩⟩
theorem bM.toC {f:qq0}{vs:List qq0}{mm:M AV}(h:mm=Internal.stuck):SI X A fr Av s H f vs mm:=λr H' e=>by replace e:=h▸e;exact xNS e
theorem lD {C:kh}{a:qq7}(h:C.func a=none):cM C W (n+1) a args=stuck:=by
 refine(?_:(match C.func a with|some fd=>ew C (cM C W n) (mT C W n) W fd args| .none=>stuck)=_);exact aa h rfl
theorem BV {C:kh}{a:qq7}(h:C.func a=some fd):cM C W (n+1) a args=ew C (cM C W n) (mT C W n) W fd args:=by
 refine(?_:(match C.func a with|some fd=>ew C (cM C W n) (mT C W n) W fd args| .none=>stuck)=_);exact aa h rfl
theorem Aa {C:kh}{a:qq7}(h:C.init a=none):mT C W (n+1) a args=stuck:=by
 refine(?_:(match C.init a with|some fi=>(match C.func fi with|some fd=>runInit C (cM C W n) (mT C W n) W a fd args| .none=>stuck)| .none=>stuck)=_);exact aa h rfl
theorem N9 {C:kh}{a fi:qq7}(h:C.init a=some fi)(hf:C.func fi=none):mT C W (n+1) a args=stuck:=by
 refine(?_:(match C.init a with|some fi=>(match C.func fi with|some fd=>runInit C (cM C W n) (mT C W n) W a fd args| .none=>stuck)| .none=>stuck)=_);refine aa h (?_:(match C.func fi with|some fd=>runInit C (cM C W n) (mT C W n) W a fd args| .none=>stuck)=_);exact aa hf rfl
theorem GY {C:kh}{a fi:qq7}(h:C.init a=some fi)(hf:C.func fi=some fd):mT C W (n+1) a args=runInit C (cM C W n) (mT C W n) W a fd args:=by
 refine(?_:(match C.init a with|some fi=>(match C.func fi with|some fd=>runInit C (cM C W n) (mT C W n) W a fd args| .none=>stuck)| .none=>stuck)=_);refine aa h (?_:(match C.func fi with|some fd=>runInit C (cM C W n) (mT C W n) W a fd args| .none=>stuck)=_);exact aa hf rfl
theorem iY (O:cN X)(PF:BQ X): ∀(n:Nat) {A:qqG} {fr:List Env},E8 A fr n 3->iR X A fr (cM X.C W n) (mT X.C W n)
 |0,A,fr,OA=>⟨λAv s H a args vs B hv=>bM.toC rfl,λa args H r e=>(xNS e),λAv s H c args vs B hv=>(λr H' e=>xNS e),λc args H r e=>(xNS e)⟩
 |n+1,A,fr,OA=>by
  have d1:=OA.depth;have u1:=OA.units;refine⟨λAv s H a args vs B hv=>?_,λa args H r e=>?_,λAv s H c args vs B hv=>?_,λc args H r e=>?_⟩
  ·refine cO (X.C.func a) (λhf=>?_) λfd hf=>?_
   ·exact bM.toC (aa (lD hf) rfl)
   ·have:cM X.C W (n+1) a args=ew X.C (cM X.C W n) (mT X.C W n) W fd args:=BV hf;refine aa this (Ja (ia:=0) O (Pg d1) OA.frames B hf hv λenv bs he hb=> aU (pH he) λT3 N8 T4=>?_);have ng: ∀b,s.heap.objs.size<=b->s.heap.get? b=none:=λb h=>aW (s2:=s) (λ_ _ e=>e) h;have Om:E8 (A.deeper env) (env::fr) n 3:=⟨OA.handled,by refine(?_:A.depth+1+4*n+4<1000);exact Ph d1,by refine(?_:A.units+3+40*n+6*3+100<9900);exact Pj u1,by refine(?_:A.frames.map _=_);refine aa OA.frames ?_;rfl⟩;intro s1 ix oa m cm R;exact dw PF _ ⟨⟨O,OA.handled,Om,iY O PF n Om⟩,Om.frames,⟨H,B⟩,λb F4=>by
     refine af (dH F4) λe pr eV=> ui (uY.mp pr) ?_ ?_;intro az;subst az;rotate_left;intro pr;rotate_right
     ·replace eV:=eS N8 eV;refine al eV λah=>?_;clear eV;subst ah;exact .inr (ng _ (ur _))
     ·exact .inl (List.mem_filterMap.mpr (aj e pr eV)),λb h=>ng _ (T4 b h)⟩ R
  ·cases hf:X.C.func a with
   |none=>replace e:=(lD hf)▸e;exact xNS e|some fd=>rfl
  ·refine cO (X.C.init c) (λhi=>?_) λfi hi=>?_
   ·intro r H' e;replace e:=(Aa hi)▸e;exact xNS e
   ·refine cO (X.C.func fi) (λhf=>?_) λfd hf=>?_
    ·intro r H' e;replace e:=(N9 hi hf)▸e;exact xNS e
    ·have:mT X.C W (n+1) c args=runInit X.C (cM X.C W n) (mT X.C W n) W c fd args:=GY hi hf;refine aa this (call_cls O OA.handled (Pk d1) OA.frames B hi hf hv λA' env ae s1 ix oa m cm ia h1 h2 h3 h4 h5 h6 R=>?_);have Om:E8 A' (env::fr) n 3:=⟨h1,by exact Pl d1 h2,by exact Pm u1 h3,h4⟩;exact dw PF _ ⟨⟨O,h1,Om,iY O PF n Om⟩,h4,⟨H,B⟩,h5,h6⟩ R
  ·refine cO (X.C.init c) (λhi=>?_) λfi hi=>?_
   ·replace e:=(Aa hi)▸e;exact xNS e
   ·refine aX O.cfg λpf names gA=>?_;replace hi:=gA▸hi;exact(Dq hi).2.2.1
end
end Mine.Internal
namespace Mine
def Z6 (K:qq9->Frag)(as:List qq7):Prop:= ∀{e: ∀P,as=(K P).map (·.1)}{T:Prop}(hk:Hook)(q:hk=kHook K as e),T
section
set_option hygiene false in
local macro_rules | `(tactic| o_head $H) => `(tactic| exact c $H rfl)
set_option maxRecDepth 100000 in
noncomputable def KA:PSigma λ(x:(qq9->Frag)×List qq7)=>Z6 x.1 x.2->OpenRow.Holds PySem.Challenge.rw_pq0048_01.row:=⟨(_,_),λc=>by k_head⟩
end
noncomputable def K0:qq9->Frag:=KA.1.1
noncomputable def as0:List qq7:=KA.1.2
theorem asK: ∀P,as0=(K0 P).map (·.1):=λP=>by kernel_rfl
end Mine
namespace Mine.Internal
noncomputable def lE:List Str:=(["_law_draw","_law_hand","_law_told","_law_rules","_law_put","_law_term","_law_leaf","_law_paper","_law_within","_law_paths","_law_bent","_law_is_term","_law_has_form","_law_judged","_law_heard",
 "is_variable","variables","placed","parts","parts_of","is_plain_term","are_places","has_form","in_order","want_form","turned","joined","under","tidied","Judge","Rule","PaperFault",
 "len","tuple","list","dict","set","sorted","isinstance","int","range","sum","str","enumerate","super"]:List String).map qqH
noncomputable abbrev PG:qzJ:=PySem.Challenge.rw_pq0048_01.row.prog
@[irreducible] noncomputable def KK (P:qq9):Frag:=K0 P
noncomputable def CC (P:qq9):kh:=nB (KK P) 100 lE
noncomputable def XX (w:World)(h0:qqK)(aH:Option qq7):Cx:=⟨PG,w,KK w.params,CC w.params,h0,aH⟩
noncomputable def jw (K:Frag)(a:qq7):qz3:=match K.lookup a with|some ⟨_,_,.func fd,_⟩=>fd|_=>default
noncomputable def bg (K:Frag)(a:qq7):Obj:=(K.lookup a).getD default
noncomputable def nV (K:Frag)(a:qq7):Array qq0:=match(bg K a).data with| .fields v=>v|_=>#[]
noncomputable def strOf (v:Option qq0):Str:=match v with|some (.str f _)=>f|_=>default
noncomputable def tokOf (v:Option qq0):Tok:=match v with|some (.str _ t)=>t|_=>0
section
variable (P:qq9)
theorem g1:findIn (KK P) (.ref 100) "__getattribute__"=some (some (.builtin "BaseException.__getattribute__")):=by kernel_rfl
theorem g2:findIn (KK P) (.ref 100) "__getattr__"=some none:=by kernel_rfl
theorem g3:excIn (KK P) 100=true:=by kernel_rfl
theorem g4:findIn (KK P) (.ref 100) (ag "place")=some none:=by kernel_rfl
theorem i1:lA (KK P) PG 37 47 25 (jw (KK P) 37) ["self","what"] "self" "what" "what" where
 at_:=(yK (bg (KK P) 37).cls (bg (KK P) 37).dict (bg (KK P) 37).slots (by kernel_rfl))
 clos:=by kernel_rfl
 body:=⟨_,_,_,_,_,_,_,_,_,_,(by kernel_rfl:(jw (KK P) 37).body= .stmts [.Expr (.Call (.Attribute (.Call (.Name "super" {line:=8,col:=8,endLine:=8,endCol:=13}) [] [] {line:=8,col:=8,endLine:=8,endCol:=15}) "__init__" {line:=8,col:=8,endLine:=8,endCol:=24}) [.Name "what" {line:=8,col:=25,endLine:=8,endCol:=29}] [] {line:=8,col:=8,endLine:=8,endCol:=30}) {line:=8,col:=8,endLine:=8,endCol:=30},.Assign [.Attribute (.Name "self" {line:=9,col:=8,endLine:=9,endCol:=12}) "what" {line:=9,col:=8,endLine:=9,endCol:=17}] (.Name "what" {line:=9,col:=20,endLine:=9,endCol:=24}) {line:=9,col:=8,endLine:=9,endCol:=24}]),rfl,rfl⟩
 glb:=by kernel_rfl
 bi:=by kernel_rfl
 pos:=(cV (by kernel_rfl) (by kernel_rfl) (by kernel_rfl) (by kernel_rfl) (by kernel_rfl))
 names:=by kernel_rfl
 nodup:=by decide
 first:=⟨_,rfl⟩
 kind:=by kernel_rfl
 nogen:=⟨by kernel_rfl,by kernel_rfl⟩
 nocell:=by
  have:(jw (KK P) 37).scope.names.all (λx=>x.2 != .cell)=true:=by kernel_rfl
  intro x hx;have:=qqJ.mp this x hx;intro q;replace this:=q▸this;exact di this
 locs:=by
  have:(["self","what"]:List Str).all (λx=>(jw (KK P) 37).scope.names.lookup x==some .local)=true:=by kernel_rfl
  intro x hx;exact beq_iff_eq.mp (qqJ.mp this x hx)
 inw:=by exact .tail _ (.head _)
 ina:=by exact .tail _ (.head _)
 ksup:=by kernel_rfl
 kcls:=by kernel_rfl
 code:=(Kl 36 (bg (KK P) 36).cls (bg (KK P) 36).dict (bg (KK P) 36).slots (nV (KK P) 36) (strOf ((nV (KK P) 36)[2]?)) (tokOf ((nV (KK P) 36)[2]?)) (by kernel_rfl) (by kernel_rfl) (by kernel_rfl) (by kernel_rfl))
 rec_:=by kernel_rfl
 cell:=(yK (bg (KK P) 25).cls (bg (KK P) 25).dict (bg (KK P) 25).slots (by kernel_rfl))
 cls:=⟨(match(bg (KK P) 47).data with| .cls c=>c|_=>default),by kernel_rfl⟩
 top:=by kernel_rfl
 ndebug:=(aQ (by rfl) (by rfl) (by rfl))
theorem i2:lA (KK P) PG 90 100 78 (jw (KK P) 90) ["self","what","place"] "self" "what" "place" where
 at_:=(yK (bg (KK P) 90).cls (bg (KK P) 90).dict (bg (KK P) 90).slots (by kernel_rfl))
 clos:=by kernel_rfl
 body:=⟨_,_,_,_,_,_,_,_,_,_,(by kernel_rfl:(jw (KK P) 90).body= .stmts [.Expr (.Call (.Attribute (.Call (.Name "super" {line:=20,col:=8,endLine:=20,endCol:=13}) [] [] {line:=20,col:=8,endLine:=20,endCol:=15}) "__init__" {line:=20,col:=8,endLine:=20,endCol:=24}) [.Name "what" {line:=20,col:=25,endLine:=20,endCol:=29}] [] {line:=20,col:=8,endLine:=20,endCol:=30}) {line:=20,col:=8,endLine:=20,endCol:=30},.Assign [.Attribute (.Name "self" {line:=21,col:=8,endLine:=21,endCol:=12}) "place" {line:=21,col:=8,endLine:=21,endCol:=18}] (.Name "place" {line:=21,col:=21,endLine:=21,endCol:=26}) {line:=21,col:=8,endLine:=21,endCol:=26}]),rfl,rfl⟩
 glb:=by kernel_rfl
 bi:=by kernel_rfl
 pos:=(cV (by kernel_rfl) (by kernel_rfl) (by kernel_rfl) (by kernel_rfl) (by kernel_rfl))
 names:=by kernel_rfl
 nodup:=by decide
 first:=⟨_,rfl⟩
 kind:=by kernel_rfl
 nogen:=⟨by kernel_rfl,by kernel_rfl⟩
 nocell:=by
  have:(jw (KK P) 90).scope.names.all (λx=>x.2 != .cell)=true:=by kernel_rfl
  intro x hx;have:=qqJ.mp this x hx;intro q;replace this:=q▸this;exact di this
 locs:=by
  have:(["self","what","place"]:List Str).all (λx=>(jw (KK P) 90).scope.names.lookup x==some .local)=true:=by kernel_rfl
  intro x hx;exact beq_iff_eq.mp (qqJ.mp this x hx)
 inw:=by exact .tail _ (.head _)
 ina:=by exact .tail _ (.tail _ (.head _))
 ksup:=by kernel_rfl
 kcls:=by kernel_rfl
 code:=(Kl 89 (bg (KK P) 89).cls (bg (KK P) 89).dict (bg (KK P) 89).slots (nV (KK P) 89) (strOf ((nV (KK P) 89)[2]?)) (tokOf ((nV (KK P) 89)[2]?)) (by kernel_rfl) (by kernel_rfl) (by kernel_rfl) (by kernel_rfl))
 rec_:=by kernel_rfl
 cell:=(yK (bg (KK P) 78).cls (bg (KK P) 78).dict (bg (KK P) 78).slots (by kernel_rfl))
 cls:=⟨(match(bg (KK P) 100).data with| .cls c=>c|_=>default),by kernel_rfl⟩
 top:=by kernel_rfl
 ndebug:=(aQ (by rfl) (by rfl) (by rfl))
end
theorem NA (w:World)(h0:qqK)(aH:Option qq7):iX (XX w h0 aH) 37 47 25 90 78 (jw (KK w.params) 37) (jw (KK w.params) 90) where
 i1:=i1 _
 i2:=i2 _
 m1:=by kernel_rfl
 m2:=by kernel_rfl
 mE:=by kernel_rfl
 mB:=by kernel_rfl
 cd:=(iD (bg (KK w.params) 100).dict (match(bg (KK w.params) 100).data with| .cls c=>c|_=>default) (bg (KK w.params) 100).slots (by kernel_rfl) (by kernel_rfl) (by kernel_rfl))
 t1:=(aj (bg (KK w.params) 37) (by kernel_rfl) (by kernel_rfl))
 t2:=by kernel_rfl
 opq:=by kernel_rfl
 makes:=by kernel_rfl
 init:=by kernel_rfl
 sa:=by kernel_rfl
 tw:=by kernel_rfl
 tp:=by kernel_rfl
 sup:=by kernel_rfl
 fn1:=by kernel_rfl
 kp:=by kernel_rfl
theorem Jv (w:World)(h0:qqK)(aH:Option qq7):BQ (XX w h0 aH):=(OI _ _ _ _ _ _ _ (NA w h0 aH))
set_option tactic.hygienic true in
theorem T5 (w:World)(h0:qqK)(aH:Option qq7)(KI:(KK w.params).In h0)(hl:h0.NoLimit){mg mb:Str->Option qq0}(hg:h0.Ns qqR mg)(hb:h0.Ns qz0 mb)(Jw: ∀x:Str,x≠ "__name__"->mb x=bootBuiltins x):cN (XX w h0 aH) where
 ins:=KI
 nolim:=hl
 glob:=(cq mg mb hg hb (λx v e=>by
  have e':(if lE.contains x then(match nsIn (KK w.params) qqR x with|some (some v)=>some v|some .none=>bootBuiltins x| .none=>.none) else .none)=some v:=e;split at e'
  ·rename_i hc
   split at e'
   ·rename_i q
    refine al e' λah=>?_;clear e';subst ah;exact .inl (mg_of KI hg q)
   ·rename_i q
    refine .inr ⟨mg_none_of KI hg q,?_⟩;rw [Jw x λh=>?_]
    ·exact e'
    ·replace hc:=h▸hc;exact absurd hc (by decide)
   ·exact xNS e'
  ·exact xNS e'))
 big:=(ei 3 (bg (KK w.params) 3) (by exact uj _ _) (KI _ _ (by kernel_rfl)))
 cfg:=(cK 100 lE rfl)
 pfga:=g1 _
 pfgt:=g2 _
 pfex:=g3 _
 pfpl:=(aj none (g4 _) (by kernel_rfl))
noncomputable def Jx:Obj:={cls:= .none,data:= .freed}
noncomputable def Ab (h:qqK)(p:qq7->Bool):qqK:=⟨h.objs.mapIdx λi o=>if p i then o else Jx,h.life⟩
theorem dy (h:qqK)(p:qq7->Bool)(a:qq7):(Ab h p).get? a=if p a then h.get? a else none:=by
 unfold Ab qqK.get?;simp only [Array.getElem?_mapIdx];cases e:h.objs[a]? with
 |none=>simp|some o=>
  dsimp only [vS];cases q:p a with
  |true=>rfl|false=>rfl
theorem Ac {P:qzJ}{w:World}{pf:qq7}{aH:Option qq7}{h:qqK}{Av:qq7->Prop}: ∀{is:List Int} {vs:List qq0},IntsAre vs is->aF P w pf aH h Av (is.map .int) vs
 | [],_,x=>by cases x;rfl
 |i::r,_,x=>by
  cases x with
  |cons _ t h2=>exact(cq _ _ rfl ⟨_,rfl⟩ (Ac h2))
theorem jx {P:qzJ}{w:World}{pf:qq7}{aH aH':Option qq7}{h h':qqK}{Av Av':qq7->Prop}: ∀{is:List Int} {vs:List qq0},aF P w pf aH h Av (is.map .int) vs->aF P w pf aH' h' Av' (is.map .int) vs
 | [],_,x=>x|i::r,_,⟨v,vs,e,h1,h2⟩=>(cq v vs e h1 (jx h2))
theorem GZ {β:Type}{a:qq7}{b:β}: ∀{l:List (qq7×β)},l.lookup a=some b->(a,b)∈l
 | [],h=>by exact xNS h
 |(x,y)::r,h=>by
  replace h:=eS um h;refine cB (a==x) (λq=>?_) λq=>?_
  ·replace h:=q▸h;refine al h λah=>?_;clear h;subst ah;exact aa (beq_iff_eq.mp q) (uE ..)
  ·replace h:=q▸h;exact uz _ (GZ h)
theorem nW: ∀{is:List Int},(dE (is.map .int)).isSome=true
 | []=>rfl|i::r=>by
  refine ac (Option.isSome_iff_exists.mp (nW (is:=r))) λps h=> aa ut (aa (b_ rfl h) ?_);rfl
noncomputable def c9:List Str:= [ag "cells",ag "at",ag "mix"]
noncomputable def cQ (cs:List Int)(m:Int):List AV:= [.list (cs.map .int),.int 0,.int m]
@[irreducible] noncomputable def cv (P:qq9):qz3:=jw (KK P) 360
noncomputable def NB:List Stmt->Stmt
 |s::_=>s| []=>.Pass {line:=0,col:=0,endLine:=0,endCol:=0}
@[irreducible] noncomputable def eZ (P:qq9):Stmt:=NB (bI (cv P))
@[irreducible] noncomputable def fA (P:qq9):List Stmt:=(bI (cv P)).tail
noncomputable def Jy (P:qq9):=cM (CC P) 1000 100
noncomputable def BW (P:qq9):=mT (CC P) 1000 100
noncomputable def eK (P:qq9)(is:List Int):Loc:=⟨(cv P).scope,[(ag "script",.wlist (is.map .int))],[]⟩
def Ad (P:qq9)(is:List Int):Prop:= ∃cs m,cs.length<=1000/\
 Internal.exec (CC P) (Jy P) (BW P) 1000 (eZ P) (eK P is) []=some (.ok (.next,⟨(cv P).scope,(ag "hand",.dict c9 (cQ cs m))::(eK P is).rho,[]⟩),[])/\
 ∃H ae,Internal.execs (CC P) (Jy P) (BW P) 1000 (fA P) ⟨(cv P).scope,(ag "hand",.hand)::(eK P is).rho,[]⟩ (c9.zip (cQ cs m))=some (.ok (.ret (.bool true),ae),H)
theorem Jz (P:qq9):(KK P).all (λp=>match p.2.data with| .dict es _=>!(es.toList.any (·.key.isStr "cells"))|_=>true)=true:=by kernel_rfl
theorem T6 (P:qq9):eG (cv P)=true:=by kernel_rfl
theorem J1 (P:qq9):(KK P).lookup 360=some ⟨(bg (KK P) 360).cls,(bg (KK P) 360).dict,.func (cv P),(bg (KK P) 360).slots⟩:=by kernel_rfl
theorem J7 (P:qq9):bI (cv P)=eZ P::fA P:=by kernel_rfl
theorem J8 (P:qq9):(cv P).params.args.map (·.arg)= [ag "script"]:=by kernel_rfl
theorem J9 (P:qq9):eU (KK P) (cv P)=true:=by kernel_rfl
theorem G_ (P:qq9)(n:Nat):qq6 n (cv P).scope.names []= []:=by kernel_rfl
theorem JA (P:qq9):nsIn (KK P) qqR "law"=some (some (.ref 360)):=by kernel_rfl
theorem Hc {P:qzJ}{w:World}{h:qqK}{a:qq7}{k:Str}{v:qq0}{r:List (Str×qq0)}(D:h.DictOf (strKind P w) a ((k,v)::r)): ∃o es ep,h.get? a=some o/\o.data= .dict es ep/\es.toList.any (·.key.isStr k)=true:=by
 refine eh D λo es ep ho be hd D5 hp Fx=>(iD o es ep ho hd ?_);generalize es.toList=l at hp;cases hp with
 |cons h1 h2 h3=>
  refine ac (qq0.isStrOf_shape h1) λt ht=>?_;simp only [List.any_cons,ht,qq0.isStr,BEq.refl,Bool.true_or]
section
variable {w:World}{s₁:qq1}{mg mb:Str->Option qq0}{is:List Int}{sc:qq7}{T7:List qq0}
noncomputable def iZ (P:qq9)(a:qq7):Bool:=((KK P).lookup a).isSome||a==qz0
noncomputable def Eo (P:qq9)(h:qqK):qqK:=Ab h (iZ P)
def UJ (P:qq9)(h:qqK)(sc:qq7)(b:qq7):Prop:=(∃o,h.get? b=some o)/\iZ P b=false/\b≠sc
theorem Dr {h:qqK}{p:qq7->Bool}{a:qq7}{m:Str->Option qq0}(x:h.Ns a m)(e:p a=true):(Ab h p).Ns a m:=by
 exact aB x λo es ep ho r=>(ct o es ep (by rewrite [dy];exact aa e ho) r)
theorem cx0 (KI:(KK w.params).In s₁.heap)(hl:s₁.heap.NoLimit)(hg:s₁.heap.Ns qqR mg)(hb:s₁.heap.Ns qz0 mb)(Jw: ∀x:Str,x≠ "__name__"->mb x=bootBuiltins x):cN (XX w (Eo w.params s₁.heap) none):=by
 have kp: ∀a o,(KK w.params).lookup a=some o->iZ w.params a=true:=λa o e=>by delta iZ;refine aa e ?_;rfl
 refine T5 w _ _ (λa o e=>?_) (hl.at λo e=>?_) (Dr hg ?_) (Dr hb ?_) Jw
 ·delta Eo;rewrite [dy];exact aa (kp a o e) (KI a o e)
 ·delta Eo;rewrite [dy];exact aa (show iZ w.params cStatics=true by kernel_rfl) e
 ·refine(?_:iZ w.params 3=true);kernel_rfl
 ·refine(?_:iZ w.params 0=true);kernel_rfl
theorem T8 (hs:s₁.heap.IsList sc T7.toArray):ao (XX w (Eo w.params s₁.heap) none) s₁.heap (UJ w.params s₁.heap sc) [] [] where
 base:=λb o e=>by
  have e':(Eo w.params s₁.heap).get? b=some o:=e;delta Eo at e';rw [dy] at e';split at e'
  ·exact e'
  ·exact xNS e'
 off:=λb o e q=>by
  have e':(Eo w.params s₁.heap).get? b=some o:=e;delta Eo at e';rewrite [dy] at e';replace e':=q.2.1▸e';exact xNS e'
 live:=λb q=>q.1
 hand:=rfl
 frok:=λenv h=>by cases h
set_option tactic.hygienic true in
theorem Ep (KI:(KK w.params).In s₁.heap)(hb:s₁.heap.Ns qz0 mb)(Jw: ∀x:Str,x≠ "__name__"->mb x=bootBuiltins x)(hs:s₁.heap.IsList sc T7.toArray){env:Env}{Av:qq7->Prop}{oa:Str->qq7}{m cm:Str->Option qq0}{s2:qq1}{cs:List Int}{mx:Int}
  (he:env.locals=s₁.heap.objs.size) (hf:env.frame=some s₁.heap.objs.size) (hc:env.cells= []) (hg:s₁.gens= #[]) (RK:cs.length<=1000)
  (R:Run (XX w (Eo w.params s₁.heap) none) 0 [] s₁ (UJ w.params s₁.heap sc) env Av oa m cm s2 [] ⟨(cv w.params).scope,(ag "hand",.dict c9 (cQ cs mx))::(eK w.params is).rho,[]⟩):
  ∃a,s₁.heap.get? a=none/\ ∃s0:qq1,(∀b o,s₁.heap.get? b=some o->s0.heap.get? b=some o)/\s0.gens=s₁.gens/\s0.os=s₁.os/\s0.heap.get? env.locals=none/\
   ao (XX w s₁.heap (some a)) s0.heap (λb=>b=a) [] (c9.zip (cQ cs mx))/\
   Run (XX w s₁.heap (some a)) 0 [] s0 (λb=>b=a) env (λb=>b=a\/b=env.locals) oa m cm s2 (c9.zip (cQ cs mx)) ⟨(cv w.params).scope,(ag "hand",.hand)::(eK w.params is).rho,[]⟩:=by
 have L:=R.loc;refine af (L.vals (ag "hand") _ rfl) λv Sp aI=>aP aI λa ws jX na hd yW hvs=> aU yW λRU Y8 hz3=>?_;clear yW;subst jX;have avL:=L.avL;have UK:a≠env.locals:=λq=>na (by exact aa q avL);have LU: ∀b o,s₁.heap.get? b=some o->s2.heap.get? b=some o:=λb o e=>R.ex.keep b o e (λq=>xNS q) (λq=>by cases q);have nL:s₁.heap.get? env.locals=none:=by exact aa he (aW (s2:=s₁) (λ_ _ e=>e) (ur _))
 refine bT (Hc (k:=ag "cells") (v:=ws.headD .none) (r:= [ag "at",ag "mix"].zip ws.tail) (by
  induction ws using List.casesOn with
  |nil=>exact absurd RU (by decide)|cons x r=>exact hd)) ?_;intro o2 DK Ux fg Hd jn
 have fa:s₁.heap.get? a=none:=by
  cases q:s₁.heap.get? a with
  |none=>rfl|some o=>
   exfalso;have q2:=LU a o q;replace q2:=eS fg q2;refine al q2 λah=>?_;clear q2;subst ah;refine cB (iZ w.params a) (λkq=>?_) λkq=>?_
   ·unfold iZ at kq;refine ui (qxR .. |>.mp kq) (λkq=>?_) λkq=>?_
    ·refine ac (Option.isSome_iff_exists.mp kq) λok hk=>?_;have q3:=KI a ok hk;replace q3:=eS q q3;refine al q3 λah=>?_;clear q3;subst ah;have hm:(a,_)∈KK w.params:=GZ hk;have:=qqJ.mp (Jz w.params) _ hm;simp only [Hd] at this;replace jn:=(show((ag "cells":Str))=("cells":Str) from rfl)▸jn;replace this:=jn▸this;exact di this
    ·have:a=qz0:=beq_iff_eq.mp kq;replace q:=this▸q;refine gE hb λo' es' ep' d6 fF dX hn=>?_;replace d6:=eS q d6;refine al d6 λah=>?_;clear d6;subst ah;replace fF:=eS Hd fF;cases fF;have h1:=hn "cells";replace h1:=Eq.trans h1 (Jw "cells" (by decide));replace h1:=Eq.trans h1 (show bootBuiltins "cells"=none by kernel_rfl);unfold nsFind findBy at h1;replace h1:=Eq.symm Array.find?_toList▸h1;refine af (List.any_eq_true.mp jn) λe he hek=>?_;have:DK.toList.find? (λe=>e.key.isStr "cells")≠none:=λq=>by
      have:=List.find?_eq_none.mp q e he;exact this hek
     refine cO (DK.toList.find? (λe=>e.key.isStr "cells")) (λz=>?_) λy z=>?_
     ·exact this z
     ·replace h1:=z▸h1;exact oz h1
   ·by_cases Z7:a=sc
    ·replace q:=Z7▸q;refine af hs λo' d6 hx=>?_;replace d6:=eS q d6;refine al d6 λah=>?_;clear d6;subst ah;refine ai hx λaz aI=>ac aI λn hn=>?_;replace hn:=eS Hd hn;cases hn
    ·exact na (R.sub a (aQ ⟨_,q⟩ kq Z7))
 refine a8 hvs λv1 r1 ak c8 hvr=>aP c8 λc Tp jX nc pl zl ci=>?_;clear c8;subst jX;subst ak;have dl: ∀b vs,s2.heap.IsList b vs->b≠a:=λb vs q e=>by
  refine aC q λo ho ak aI=>ac aI λn hn=>?_;replace ho:=e▸ho;replace ho:=eS fg ho;refine al ho λah=>?_;clear ho;subst ah;replace hn:=eS Hd hn;cases hn
 have ca:c≠a:=by
  refine ac pl λk hk=>?_;intro e;replace hk:=e▸hk;replace hk:=eS fg hk;refine al hk λah=>?_;clear hk;subst ah;cases Hd
 have cL:c≠env.locals:=λq=>nc (by exact aa q avL);have CZ: ∃o,s2.heap.get? env.locals=some o/\o.cls= .type "frame"/\ ∀vs,o.data≠ .fields vs:=by
  refine ai (R.base.frok env (uE ..)) λaz aI=>eg aI λL1 o e1 FD A6 yW e2 e3 e4=>?_;replace e1:=eS hf e1;refine al e1 λah=>?_;clear e1;subst ah;exact aa he ((aV o e2 e3 e4))
 let s0:qq1:={s2 with heap:=Ab s2.heap (λb=>b !=env.locals)}
 have g0: ∀b,b≠env.locals->s0.heap.get? b=s2.heap.get? b:=λb n=>by
  refine(?_:(Ab s2.heap _).get? b=_);rewrite [dy];exact aa (if_pos (bne_iff_ne.mpr n)) rfl
 have gL:s0.heap.get? env.locals=none:=by
  refine(?_:(Ab s2.heap _).get? _=_);rewrite [dy];exact aa (if_neg (by simp)) rfl
 have UL: ∀b o,s₁.heap.get? b=some o->s0.heap.get? b=some o:=λb o e=>by
  exact aa (g0 b λq=>by replace e:=q▸e;replace e:=eS nL e;exact xNS e) (LU b o e)
 have hand: ∀(h:qqK) (Av':qq7->Prop),h.get? a=s2.heap.get? a->h.get? c=s2.heap.get? c->Av' a-> ¬Av' c->au (XX w s₁.heap (some a)) h Av' (c9.zip (cQ cs mx)):=λh Av' ha W9 va vc=>by
  refine⟨va,.ref c::r1,?_,RU.symm,?_,?_⟩
  ·exact aB hd λo es ep ho r=>(ct o es ep (ha.trans ho) r)
  ·refine ac pl λk hk=> a8 hvr λv2 r2 ak c8 aI=>ac c8 λt2 gm=>?_;clear c8;subst gm;refine a8 aI λv3 r3 jX FD A6=>ac FD λt3 Us=>?_;clear FD;subst Us;subst jX;subst A6;subst ak;exact⟨_,_,rfl,(mJ c Tp rfl vc ⟨k,W9.trans hk⟩ zl (jx ci)),_,_,rfl,⟨t2,rfl⟩,_,_,rfl,⟨t3,rfl⟩,rfl⟩
  ·intro x hx;have iz:x∈ [(ag "cells",AV.list (cs.map .int)),(ag "at",.int 0),(ag "mix",.int mx)]:=hx;simp only [uY,List.not_mem_nil,or_false] at iz;rcases iz with rfl|rfl|rfl
   ·refine(?_:((dE (cs.map .int)).map _).isSome=true);exact aa vP nW
   ·rfl
   ·rfl
 refine⟨a,fa,s0,UL,R.ex.gens,R.ex.os,gL,⟨UL,λb o e q=>?_,λb q=>?_,?_,λenv h=>(by cases h)⟩,⟨⟨λb o e _ _=>?_,λb o e _ q=>(by cases q),rfl,rfl⟩,?_,?_,λb q=>.inl q,λb q=>?_,λx ob e=>(xNS e),λx c ks vs dx e=>(xNS e)⟩⟩
 ·have e2:s₁.heap.get? b=some o:=e;replace e2:=q▸e2;replace e2:=eS fa e2;exact xNS e2
 ·refine aa q ?_;exact⟨o2,by exact aa (g0 a UK) fg⟩
 ·exact hand _ _ (g0 a UK) (g0 c cL) rfl ca
 ·have e':(Ab s2.heap _).get? b=some o:=e;rw [dy] at e';split at e'
  ·exact e'
  ·exact xNS e'
 ·refine⟨λb o e=>LU b o e,λb o (e:s₁.heap.get? b=some o) q=>?_,λb q=>?_,hand _ _ rfl rfl (.inl rfl) (λq=>q.elim ca cL),λen h=>?_⟩
  ·refine ui q (λq=>?_) λq=>?_
   ·replace e:=q▸e;replace e:=eS fa e;exact xNS e
   ·replace e:=q▸e;replace e:=eS nL e;exact xNS e
  ·refine ui q ?_ ?_;(all_goals clear q);intro az;subst az;rotate_left;intro q;rotate_right
   ·exact⟨o2,fg⟩
   ·exact aa q (CZ.imp λo h=>h.1)
  ·refine ui (uY.mp h) ?_ ?_;intro az;subst az;rotate_left;intro h;rotate_right
   ·refine ai (R.base.frok en (uE ..)) λk aI=>eg aI λL1 o e1 FD A6 yW e2 e3 e4=>?_;have eL:L1=en.locals:=by replace e1:=eS hf e1;refine al e1 λah=>?_;clear e1;subst ah;exact aa he rfl
    subst eL;exact⟨k,_,o,e1,.inr rfl,λq=>UK (by refine al q λah=>?_;clear q;subst ah;rfl),nL,e2,e3,e4⟩
   ·cases h
 ·refine{kind:=L.kind,glb:=L.glb,bi:=L.bi,dbg:=L.dbg,cdt:=L.cdt,kinds:=L.kinds,ns:=L.ns,cells:=L.cells,hasc:=L.hasc,avL:= .inr rfl,avC:=λx c e=>(by replace e:=hc▸e;exact xNS e),apart:=L.apart,vals:=λx d e=>?_,owns:=λx ob e=>(xNS e),inj:=λx y ob ob' e=>(xNS e),solo:=λx y c ks vs ob e=>(xNS e),nL:=λq=>UK (by refine al q λah=>?_;clear q;subst ah;rfl)};have e':(if x==ag "hand" then some AV.hand else(if x==ag "script" then some (.wlist (is.map .int)) else none))=some d:=by
   refine bq e (?_:_=List.lookup x [(ag "hand",AV.hand),(ag "script",.wlist (is.map .int))]);refine aa um (aa um ?_);cases x==ag "hand"<;>cases x==ag "script"<;>rfl
  split at e'
  ·rename_i q
   refine al e' λah=>?_;clear e';subst ah;refine aa (beq_iff_eq.mp q) ?_;exact⟨_,Sp,a,rfl,rfl⟩
  ·split at e'
   ·rename_i q
    refine al e' λah=>?_;clear e';subst ah;refine af (L.vals (ag "script") (.wlist (is.map .int)) rfl) λv h1 aI=>aP aI λb bs jX nb Z8 zb ib=>?_;clear aI;subst jX;refine aa (beq_iff_eq.mp q) ?_;exact⟨_,h1,b,bs,rfl,λq=>q.elim (dl b _ Z8) (λq=>nb (by exact aa q avL)),Z8,zb,jx ib⟩
   ·exact xNS e'
 ·refine ui q (λq=>?_) λq=>?_
  ·exact .inl q
  ·exact aa q (.inr gL)
set_option tactic.hygienic true in
theorem JB (plain:Ad w.params is)(KI:(KK w.params).In s₁.heap)(hl:s₁.heap.NoLimit)(UM:s₁.heap.Ns qqR mg)(hb:s₁.heap.Ns qz0 mb)(Jw: ∀x:Str,x≠ "__name__"->mb x=bootBuiltins x)
  (hs:s₁.heap.IsList sc T7.toArray) (hi:IntsAre T7 is) (hn:is.length<=1000) (hg:s₁.gens= #[]):
  qq3 (qq5 PG w) callerA (PySem.call (.ref 360) [.ref sc]) (λv s'=>v= .bool true/\(∀b o,s₁.heap.get? b=some o->s'.heap.get? b=some o)/\s'.os=s₁.os/\s'.gens= #[]) (λ_ _=>False) s₁:=by
 refine a8 plain λcs mx RK e1 aI=>aX aI λHF aaC e2=>?_;have O:=cx0 KI hl UM hb Jw;have B:=T8 (w:=w) hs;have fK:=T6 w.params;refine oy (fu fK) λf1 f2 f3 f4 f5 f6 f7 f8 f9 U7 U8 U9 aI=>yH aI λUA UB IZ Oe UC yW=> ac yW λbody I_=>?_;have SJ:bI (cv w.params)=body:=by delta bI;exact aa I_ rfl
 have ha:=J8 w.params;have T0:(cv w.params).params.args.length=1:=by have:=congrArg List.length ha;simpa using this
 have lB:=eD (fd:=cv w.params) (vs:= [.ref sc]) f6 f7 f8 f9 f5 (by refine aa T0 ?_;rfl) IZ;refine qzF (codeAny_call_function (o:=⟨_,_,.func (cv w.params),_⟩) (by exact uj _ _) (KI _ _ (J1 w.params)) rfl f2 f3 I_ (codeRec_of KI (J9 w.params)) (aa lB ?_));have zl:(((cv w.params).params.args.map (·.arg)).zip [qq0.ref sc]).map (·.1)=(cv w.params).params.args.map (·.arg):=by refine aa ha ?_;rfl
 refine ud (?_:qq3 (qq5 (XX w (Eo w.params s₁.heap) none).P (XX w (Eo w.params s₁.heap) none).w) _ _ _ _ _);refine hX (fd:=cv w.params) (a:=360) (X:=XX w (Eo w.params s₁.heap) none) (Av:=UJ w.params s₁.heap sc) (ia:=0) fK (λa q=>xNS q) B (binds:=((cv w.params).params.args.map (·.arg)).zip [qq0.ref sc]) (rho:=(eK w.params is).rho) (om:= []) (oa:=λ_=>0) (by exact aa zl IZ) (by exact aa zl Oe) (λx d hx=>?_) rfl ?_
 ·have e':(if x==ag "script" then some (AV.wlist (is.map .int)) else none)=some d:=by
   refine bq hx (?_:_=List.lookup x [(ag "script",AV.wlist (is.map .int))]);refine aa um ?_;cases x==ag "script"<;>rfl
  split at e'
  ·rename_i q
   refine al e' λah=>?_;clear e';subst ah;refine⟨.ref sc,by refine aa ha (aa (beq_iff_eq.mp q) ?_);exact uE ..,sc,T7.toArray,rfl,λq=>q.2.2 rfl,hs,by simpa using hn,Ac hi⟩
  ·exact xNS e'
 ·intro env s2 ix m cm he R hk _;refine⟨(O.nolim.keeps λb o q=>hk b o (B.base b o q)),codeAny_func ?_⟩;refine aU (pH he) λT3 N8 T4=>?_;have hc:env.cells= []:=by exact aa he (G_ w.params _)
  have nz: ∀b,s₁.heap.objs.size<=b->s₁.heap.get? b=none:=λb h=>aW (s2:=s₁) (λ_ _ e=>e) h;have Gu:(callerA.deeper env).frames=some [env]:=rfl;have OA:E8 (callerA.deeper env) [env] 100 3:=⟨rfl,(by refine(?_:(301:Nat)+1+4*100+4<1000);exact uj _ _),(by refine(?_:(4:Nat)+3+40*100+6*3+100<9900);exact uj _ _),rfl⟩;have G0:c5 (XX w (Eo w.params s₁.heap) none) (callerA.deeper env) [] s₁ (UJ w.params s₁.heap sc) env 100 3 (Jy w.params) (BW w.params):=
   ⟨⟨O,rfl,OA,iY O (Jv _ _ _) 100 OA⟩,rfl,⟨[],B⟩,λb F4=>by
    refine af (dH F4) λe pr eV=> ui (uY.mp pr) ?_ ?_;intro az;subst az;rotate_left;intro pr;rotate_right
    ·replace eV:=eS N8 eV;refine al eV λah=>?_;clear eV;subst ah;exact .inr (nz _ (ur _))
    ·exact(OC pr),λb h=>nz _ (T4 b h)⟩
  have XB:body=eZ w.params::fA w.params:=by exact bq SJ (J7 _)
  refine aa XB (ua (Dp (Jv _ _ _) (eZ w.params) G0 R _ _ e1 _ _ (λf a6 q fl s3 yX Nk m2 zx R2 Ie=>?_) (λp q=>xO q)));refine jO q λah=>?_;clear q;refine yJ ah ?_;clear ah;intro ah ak;subst ah;subst ak;cases fl<;>first|exact Ie.elim|skip
  refine af (Ep KI hb Jw hs T3 N8 hc hg RK R2) λa fa aI=>Kf aI λs0 UL hg0 ho0 gL B1 R1=>?_;have O1:=T5 w s₁.heap (some a) KI hl UM hb Jw;have G1:c5 (XX w s₁.heap (some a)) (callerA.deeper env) [] s0 (λb=>b=a) env 100 3 (Jy w.params) (BW w.params):=
   ⟨⟨O1,rfl,OA,iY O1 (Jv _ _ _) 100 OA⟩,rfl,⟨_,B1⟩,λb F4=>by
    refine af (dH F4) λe pr eV=> ui (uY.mp pr) ?_ ?_;intro az;subst az;rotate_left;intro pr;rotate_right
    ·replace eV:=eS N8 eV;replace eV:=Eq.symm T3▸eV;refine al eV λah=>?_;clear eV;subst ah;exact .inr gL
    ·exact(OC pr),λb h=>by
     refine ui h ?_ ?_;(all_goals clear h);intro h;rotate_left;intro az;refine ac az λx h=>?_;rotate_right
     ·exact aa h gL
     ·replace h:=hc▸h;exact xNS h⟩
  refine dw (Jv _ _ _) (fA w.params) G1 R1 _ _ e2 _ _ (λf a6 q fl s4 Xo oa3 m3 WD R3 Ie=>?_) (λp q=>xO q);refine jO q λah=>?_;clear q;refine yJ ah ?_;clear ah;intro ah ak;subst ah;subst ak;cases fl<;>first|exact Ie.elim|skip
  exact(gF Ie (λb o e=>R3.ex.keep b o (UL b o e) (λq=>by refine al q λah=>?_;clear q;subst ah;replace e:=eS fa e;exact xNS e) (λq=>by cases q)) (R3.ex.os.trans ho0) ((R3.ex.gens.trans hg0).trans hg))
set_option genInjectivity true in
inductive Tm where
 |a
 |b
 |f (x:Tm)
 |g (x y:Tm)
 deriving DecidableEq
noncomputable def tA:Tm->AV
 | .a=>.tup [.str (ag "a")]| .b=>.tup [.str (ag "b")]| .f x=>.tup [.str (ag "f"),tA x]| .g x y=>.tup [.str (ag "g"),tA x,tA y]
noncomputable def tP:Tm->PyData
 | .a=>.tuple [.str (ag "a")]| .b=>.tuple [.str (ag "b")]| .f x=>.tuple [.str (ag "f"),tP x]| .g x y=>.tuple [.str (ag "g"),tP x,tP y]
noncomputable def ht:Tm->Nat
 | .a=>1| .b=>1| .f x=>ht x+1| .g x y=>max (ht x) (ht y)+1
theorem lF: ∀t,jc (tA t)=some (tP t)
 | .a=>rfl| .b=>rfl| .f x=>gk (b_ rfl (b_ (lF x) rfl))| .g x y=>gk (b_ rfl (b_ (lF x) (b_ (lF y) rfl)))
theorem lG: ∀t,(tP t).canLay0=true
 | .a=>by kernel_rfl
 | .b=>by kernel_rfl
 | .f x=>by
  have h:=lG x;simp [tP,qx3,qz6,h];kernel_rfl
 | .g x y=>by
  have h:=lG x;have h2:=lG y;simp [tP,qx3,qz6,h,h2];kernel_rfl
theorem lH: ∀t,(tP t).depth<=ht t+1
 | .a=>by exact uH _
 | .b=>by exact uH _
 | .f x=>by
  have h:=lH x;simp [tP,PyData.depth,qzI,ht];exact OY h
 | .g x y=>by
  have h:=lH x;have h2:=lH y;simp [tP,PyData.depth,qzI,ht];exact Pn h h2
theorem lI: ∀s t,PyData.eqv (tP s) (tP t)=decide (s=t)
 | .a,.a=>by kernel_rfl
 | .a,.b=>by kernel_rfl
 | .a,.f _=>by kernel_rfl
 | .a,.g _ _=>by kernel_rfl
 | .b,.a=>by kernel_rfl
 | .b,.b=>by kernel_rfl
 | .b,.f _=>by kernel_rfl
 | .b,.g _ _=>by kernel_rfl
 | .f _,.a=>by kernel_rfl
 | .f _,.b=>by kernel_rfl
 | .f x,.f y=>by
  have h:=lI x y;refine(?_:(PyData.eqv (.str (ag "f")) (.str (ag "f")) && (PyData.eqv (tP x) (tP y) && qzY [] []))=_);refine aa h ?_;simp [PyData.eqv,qzY]
 | .f _,.g _ _=>by kernel_rfl
 | .g _ _,.a=>by kernel_rfl
 | .g _ _,.b=>by kernel_rfl
 | .g _ _,.f _=>by kernel_rfl
 | .g x y,.g x' y'=>by
  have h:=lI x x';have h2:=lI y y';refine(?_:(PyData.eqv (.str (ag "g")) (.str (ag "g")) && (PyData.eqv (tP x) (tP x') && (PyData.eqv (tP y) (tP y') && qzY [] [])))=_);refine aa h (aa h2 ?_);simp [PyData.eqv,qzY]
theorem He {t:Tm}(h:ht t<=60):Cg (tA t)=some (tP t):=oB (lF t) (lG t) (ub (lH t) (ub (uh h) (by exact uj _ _)))
theorem Ae {s t:Tm}(hs:ht s<=60)(h:ht t<=60):gR (tA s) (tA t)=some (decide (s=t)):=by
 refine aa (oE (He hs) (He h)) ?_;rewrite [lI];rfl
inductive Pa where
 |at_ (i:Nat)
 |turn (p:Pa)
 |join (p q:Pa)
 |unF (p:Pa)
 |unG (p q:Pa)
 |join1 (p:Pa)
 |unQ (p:Pa)
noncomputable def t4:Nat->Tm
 |0=>.a|1=>.b|2=>.f .b|_=>.g .a .b
noncomputable def a7 (x:String):AV:= .str (ag x)
noncomputable def tX (t:AV):AV:= .tup [a7 "?x",t]
noncomputable def tY (t:AV):AV:= .tup [a7 "?y",t]
noncomputable def cX (i:Nat):AV:=
 if i=0 then .tup [a7 "told",a7 "t1"] else if i=1 then .tup [a7 "told",a7 "t2"] else if i=2 then .tup [a7 "told",a7 "t3"]
 else if i<7 then .tup [a7 "same",tA (t4 (i-3))]
 else if i<11 then .tup [a7 "rule",a7 "r",.tup [tX (tA (t4 (i-7)))]]
 else if i<27 then .tup [a7 "rule",a7 "s",.tup [tX (tA (t4 ((i-11)/4))),tY (tA (t4 ((i-11)%4)))]]
 else match i with
  |27=>.tup [a7 "told",a7 "t4"]|28=>.tup [a7 "rule",a7 "q",.tup []]|29=>.tup [a7 "rule",a7 "r",.tup []]|30=>.tup [a7 "rule",a7 "r",.tup [tX (tA .a),tY (tA .a)]]|31=>.tup [a7 "same",tA (.f .a)]|32=>.tup [a7 "rule",a7 "s",.tup [tY (tA .a),tX (tA .b)]]|33=>.tup [a7 "same",.tup [a7 "?x"]]|34=>.tup [a7 "turn"]|35=>.tup [a7 "told",.int 5]|36=>.tup []|37=>.tup [a7 "same",.tup [a7 "f",a7 "a"]]|38=>.tup [a7 "rule",a7 "r",.tup [tX (.tup [a7 "?x"])]]|39=>a7 "told"|40=>a7 "same"|41=>a7 "rule"|42=>a7 "turn"|43=>a7 "join"|_=>a7 "under"
noncomputable def av:Pa->AV
 | .at_ i=>cX i| .turn p=>.tup [a7 "turn",av p]| .join p q=>.tup [a7 "join",av p,av q]| .unF p=>.tup [a7 "under",a7 "f",.tup [av p]]| .unG p q=>.tup [a7 "under",a7 "g",.tup [av p,av q]]| .join1 p=>.tup [a7 "join",av p]| .unQ p=>.tup [a7 "under",a7 "?f",.tup [av p]]
noncomputable abbrev Sd:=Tm×Tm
noncomputable def jA (i:Nat):Option Sd:=
 if i=0 then some (.a,.b) else if i=1 then some (.b,.f .a) else if i=2 then some (.f .a,.a)
 else if i<7 then some (t4 (i-3),t4 (i-3))
 else if i<11 then some (.f (t4 (i-7)),.g (t4 (i-7)) .a)
 else if i<27 then some (.g (t4 ((i-11)/4)) (t4 ((i-11)%4)),.g (t4 ((i-11)%4)) (t4 ((i-11)/4)))
 else if i=31 then some (.f .a,.f .a) else none
noncomputable def J:Pa->Except (List Int) Sd
 | .at_ i=>match jA i with
  |some s=>.ok s|none=>.error []
 | .turn p=>match J p with
  | .error e=>.error (0::e)| .ok s=>.ok (s.2,s.1)
 | .join p q=>match J p with
  | .error e=>.error (0::e)| .ok s=>match J q with
   | .error e=>.error (1::e)| .ok t=>if s.2=t.1 then .ok (s.1,t.2) else .error []
 | .unF p=>match J p with
  | .error e=>.error (0::e)| .ok s=>.ok (.f s.1,.f s.2)
 | .unG p q=>match J p with
  | .error e=>.error (0::e)| .ok s=>match J q with
   | .error e=>.error (1::e)| .ok t=>.ok (.g s.1 t.1,.g s.2 t.2)
 | .join1 _=>.error []| .unQ _=>.error []
noncomputable def Fm:Pa->Option (List Int)
 | .at_ i=>if i<32 then none else some []
 | .turn p=>(Fm p).map (0:: ·)| .join p q=>match Fm p with
  |some e=>some (0::e)|none=>(Fm q).map (1:: ·)
 | .unF p=>(Fm p).map (0:: ·)| .unG p q=>match Fm p with
  |some e=>some (0::e)|none=>(Fm q).map (1:: ·)
 | .join1 _=>some []| .unQ _=>some []
noncomputable def cz:Pa->Bool
 | .at_ i=>decide (i<32)| .join1 _=>false| .unQ _=>false|_=>true
noncomputable def ij:Pa->List Pa
 | .turn p=>[p]
 | .join p q=>[p,q]
 | .unF p=>[p]
 | .unG p q=>[p,q]
 |_=>[]
noncomputable def dp:Pa->Nat
 | .turn p=>dp p+1| .join p q=>max (dp p) (dp q)+1| .unF p=>dp p+1| .unG p q=>max (dp p) (dp q)+1|_=>0
noncomputable def sz:Pa->Nat
 | .turn p=>sz p+1| .join p q=>sz p+sz q+1| .unF p=>sz p+1| .unG p q=>sz p+sz q+1|_=>1
noncomputable def ok:Pa->Prop
 | .at_ i=>i<45| .turn p=>ok p| .join p q=>ok p/\ok q| .unF p=>ok p| .unG p q=>ok p/\ok q| .join1 _=>True| .unQ _=>True
noncomputable def CN (P:qq9)(n:Nat):qq7->List AV->M AV:=cM (CC P) 1000 n
noncomputable def MN (P:qq9)(n:Nat):qq7->List AV->M AV:=mT (CC P) 1000 n
noncomputable def bd (P:qq9)(f:qq7):List Stmt:=bI (jw (KK P) f)
noncomputable def d2 (P:qq9)(f:qq7):Scope:=(jw (KK P) f).scope
noncomputable def a9 (P:qq9)(f:qq7)(i:Nat):Stmt:=(bd P f).getD i (.Pass {line:=0,col:=0,endLine:=0,endCol:=0})
noncomputable abbrev EX (P:qq9)(cl mk:qq7->List AV->M AV):=Internal.exec (CC P) cl mk 1000
noncomputable abbrev br (P:qq9)(cl mk:qq7->List AV->M AV):=Internal.execs (CC P) cl mk 1000
noncomputable def fY:Fl×Loc->M AV:=λ(f,_)=>match f with
 | .next=>M.pure .none| .ret v=>M.pure v
end
section
variable {α β:Type}{H H1:HS}{cl mk:qq7->List AV->M AV}{P:qq9}{v s1 s2 u u1 u2 y:AV}{d i:Nat}{ae aK:Loc}{vs r:List AV}{R:Rs AV}{G:AV->Prop}
theorem mb {m:M α}{f:α->M β}{a:α}{r:Rs β}(h:m H=some (.ok a,H1))(k:f a H1=r):M.bind m f H=r:=by
 delta M.bind;exact aa h k
theorem me {m:M α}{f:α->M β}{e:AV}(h:m H=some (.error e,H1)):M.bind m f H=some (.error e,H1):=by
 delta M.bind;exact aa h rfl
theorem ay {s:Stmt}{r:List Stmt}{aK:Loc}{R:Rs (Fl×Loc)}(h:EX P cl mk s ae H=some (.ok (.next,aK),H1))(k:br P cl mk r aK H1=R):br P cl mk (s::r) ae H=R:=mb h k
theorem b8 {s:Stmt}{r:List Stmt}(h:EX P cl mk s ae H=some (.ok (.ret v,aK),H1)):br P cl mk (s::r) ae H=some (.ok (.ret v,aK),H1):=mb h rfl
theorem ik {s:Stmt}{r:List Stmt}{e:AV}(h:EX P cl mk s ae H=some (.error e,H1)):br P cl mk (s::r) ae H=some (.error e,H1):=me h
theorem aM {n:Nat}{f:qq7}{args:List AV}{rho:List (Str×AV)}{aK:Loc}(e:CN P (n+1) f args H=M.bind (br P (CN P n) (MN P n) (bd P f) ⟨d2 P f,rho,[]⟩) fY H)
  (h:br P (CN P n) (MN P n) (bd P f) ⟨d2 P f,rho,[]⟩ H=some (.ok (.ret v,aK),H1)):CN P (n+1) f args H=some (.ok v,H1):=by exact aa e (mb h rfl)
theorem kA {n:Nat}{f:qq7}{args:List AV}{rho:List (Str×AV)}{p:AV}(e:CN P (n+1) f args H=M.bind (br P (CN P n) (MN P n) (bd P f) ⟨d2 P f,rho,[]⟩) fY H)
  (h:br P (CN P n) (MN P n) (bd P f) ⟨d2 P f,rho,[]⟩ H=some (.error p,H1)):CN P (n+1) f args H=some (.error p,H1):=by exact aa e (me h)
theorem bh {f g:Nat->α}{n:Nat}(h:(List.range n).map f=(List.range n).map g)(hi:i<n):f i=g i:=List.map_inj_left.mp h i (List.mem_range.mpr hi)
noncomputable def i_ (s:Sd):AV:= .tup [tA s.1,tA s.2]
noncomputable def jR (kf:AV):Option Sd->AV
 |some s=>.tup [i_ s,.none]|none=>.tup [.none,kf]
section
variable (P:qq9)(n:Nat)(H:HS)(kf:AV)
theorem Er:(List.range 45).map (λi=>CN P (n+12) 348 [cX i,kf,.bool false] H)=(List.range 45).map (λi=>some (.ok (jR kf (jA i)),H)):=by kernel_rfl
theorem JC:(List.range 45).map (λi=>CN P (n+12) 150 [cX i] H)=(List.range 45).map (λi=>some (.ok (.bool (cz (.at_ i))),H)):=by kernel_rfl
theorem Hg:(List.range 45).map (λi=>CN P (n+12) 343 [cX i] H)=(List.range 45).map (λi=>some (.ok (.bool (cz (.at_ i))),H)):=by kernel_rfl
end
noncomputable def E0:Expr:= .Tuple [] 0 {line:=0,col:=0,endLine:=0,endCol:=0}
noncomputable def XC:List Comprehension->List Expr
 | [⟨t,i,f,_⟩]=>t::i::f|_=>[]
noncomputable def pJ:Expr->List Expr
 | .Call f as _ _=>f::as| .ListComp e gs _ _=>e::XC gs| .Compare a _ _ _=>[a]
 | .BinOp a _ b _=>[a,b]
 | .Subscript o i _=>[o,i]
 | .Dict _ vs _=>vs|_=>[]
noncomputable def pE (i:Nat)(e:Expr):Expr:=(pJ e).getD i E0
noncomputable def BX:Stmt->List Expr×List Stmt×List Stmt
 | .Assign ts e _=>(e::ts,[],[])
 | .For t i b _ _=>([t,i],b,[])
 | .While t b _ _=>([t],b,[])
 | .If t b o _=>([t],b,o)
 | .Return v _=>(v.toList,[],[])
 | .Expr e _=>([e],[],[])
 |_=>([],[],[])
noncomputable def pS (i:Nat)(s:Stmt):Expr:=(BX s).1.getD i E0
noncomputable def bS (s:Stmt):List Stmt:=(BX s).2.1
noncomputable def pK (s:Stmt):Expr:=pS 0 s
noncomputable def Es (s:Stmt):Expr:=pS 1 s
noncomputable def gB (s:Stmt):Expr:=pS 1 s
noncomputable def bC (P:qq9)(f:qq7)(i j:Nat):Stmt:=(bS (a9 P f i)).getD j (.Pass {line:=0,col:=0,endLine:=0,endCol:=0})
noncomputable def bQ (P:qq9)(cl mk:qq7->List AV->M AV)(s:Stmt)(v:AV)(ae:Loc):M (Fl×Loc):=M.bind (aR (pK s) v ae) λa6=>br P cl mk (bS s) a6
noncomputable def pv (w:List Int):AV:= .tup (w.map .int)
variable {pp p q fl s s':AV}{w:List Int}{k:Int}{so:List AV}
noncomputable def bR (p kf fl:AV):List (Str×AV):= [(ag "is_form_alone",fl),(ag "way",kf),(ag "paper",p)]
noncomputable def XD (x:Option AV):List (Str×AV):=match x with|some s=>[(ag "bad",.none),(ag "sides",s)]|none=>[]
noncomputable def jL (P:qq9)(r:List (Str×AV))(so:List AV):Loc:=⟨d2 P 348,r,[(ag "some",.list so)]⟩
theorem Z9 (x:Option AV)(hw:w.length<=6):
  EX P cl mk (bC P 348 2 0) (jL P ((ag "part",p)::(ag "k",.int k)::XD x++bR pp (pv w) fl) so) H=M.bind (M.bind (cl 348 [p,pv (w++ [k]),fl]) λr=>aR (gB (bC P 348 2 0)) r (jL P ((ag "part",p)::(ag "k",.int k)::XD x++bR pp (pv w) fl) so)) next H:=by
 match x,w,hw with
 |none,[],_=>kernel_rfl|none,[_],_=>kernel_rfl|none,[_,_],_=>kernel_rfl|none,[_,_,_],_=>kernel_rfl|none,[_,_,_,_],_=>kernel_rfl|none,[_,_,_,_,_],_=>kernel_rfl|none,[_,_,_,_,_,_],_=>kernel_rfl|some _,[],_=>kernel_rfl|some _,[_],_=>kernel_rfl|some _,[_,_],_=>kernel_rfl|some _,[_,_,_],_=>kernel_rfl|some _,[_,_,_,_],_=>kernel_rfl|some _,[_,_,_,_,_],_=>kernel_rfl|some _,[_,_,_,_,_,_],_=>kernel_rfl|_,_::_::_::_::_::_::_::r,h=>exact absurd h (by simp)
theorem Hh (x:Option AV):aR (pK (a9 P 348 2)) (.tup [.int k,p]) (jL P (match x with|some s=>(ag "bad",.none)::(ag "sides",s)::(ag "part",q)::(ag "k",.int 0)::bR pp (pv w) fl|none=>bR pp (pv w) fl) so) H=some (.ok (jL P ((ag "part",p)::(ag "k",.int k)::XD x++bR pp (pv w) fl) so),H):=by
 cases x<;>kernel_rfl
theorem cR (x:Option AV)(hw:w.length<=6)(hs:so= []\/ ∃t,so= [t])(h:cl 348 [p,pv (w++ [k]),fl] H=some (.ok (.tup [s,.none]),H)):
  bQ P cl mk (a9 P 348 2) (.tup [.int k,p]) (jL P (match x with|some s=>(ag "bad",.none)::(ag "sides",s)::(ag "part",q)::(ag "k",.int 0)::bR pp (pv w) fl|none=>bR pp (pv w) fl) so) H
   =some (.ok (.next,jL P ((ag "bad",.none)::(ag "sides",s)::(ag "part",p)::(ag "k",.int k)::bR pp (pv w) fl) (so++ [s])),H):=by
 refine mb (Hh x) (aa (show bS (a9 P 348 2)= [bC P 348 2 0,bC P 348 2 1,bC P 348 2 2] by kernel_rfl) (ay (H1:=H) (aK:=jL P ((ag "bad",.none)::(ag "sides",s)::(ag "part",p)::(ag "k",.int k)::bR pp (pv w) fl) so) ?_ ?_))
 ·refine aa (Z9 x hw) (mb (mb h ?_) rfl);cases x<;>kernel_rfl
 ·refine ay (H1:=H) (aK:=jL P ((ag "bad",.none)::(ag "sides",s)::(ag "part",p)::(ag "k",.int k)::bR pp (pv w) fl) so) (by kernel_rfl) (ay (H1:=H) ?_ rfl)
  (refine ui hs ?_ ?_;(all_goals clear hs);intro az;subst az;rotate_left;intro az;refine ac az λt gm=>?_;clear az;subst gm;rotate_right)<;>kernel_rfl
theorem cj (x:Option AV){e:List Int}(hw:w.length<=6)(h:cl 348 [p,pv (w++ [k]),fl] H=some (.ok (.tup [.none,pv e]),H)):
  ∃a6,bQ P cl mk (a9 P 348 2) (.tup [.int k,p]) (jL P (match x with|some s=>(ag "bad",.none)::(ag "sides",s)::(ag "part",q)::(ag "k",.int 0)::bR pp (pv w) fl|none=>bR pp (pv w) fl) so) H
   =some (.ok (.ret (.tup [.none,pv e]),a6),H):=by
 refine⟨jL P ((ag "bad",pv e)::(ag "sides",.none)::(ag "part",p)::(ag "k",.int k)::bR pp (pv w) fl) so,mb (Hh x) ?_⟩;refine aa (show bS (a9 P 348 2)= [bC P 348 2 0,bC P 348 2 1,bC P 348 2 2] by kernel_rfl) (ay (H1:=H) (aK:=jL P ((ag "bad",pv e)::(ag "sides",.none)::(ag "part",p)::(ag "k",.int k)::bR pp (pv w) fl) so) ?_ ?_)
 ·refine aa (Z9 x hw) (mb (mb h ?_) rfl);cases x<;>kernel_rfl
 ·exact b8 (by kernel_rfl)
theorem XE {ks:List AV}(h:cl 321 [pp] H=some (.ok (.tup ks),H)):EX P cl mk (a9 P 348 2) (jL P (bR pp (pv w) fl) []) H=bU (bQ P cl mk (a9 P 348 2)) (cZ ks) (jL P (bR pp (pv w) fl) []) H:=by
 have e:EX P cl mk (a9 P 348 2) (jL P (bR pp (pv w) fl) [])=M.bind (yG (CC P) cl mk 3 (pK (a9 P 348 2)) (Es (a9 P 348 2)) (jL P (bR pp (pv w) fl) []) (ev (CC P) cl mk 3 (Es (a9 P 348 2)) (jL P (bR pp (pv w) fl) []))) λitems=>bU (bQ P cl mk (a9 P 348 2)) items (jL P (bR pp (pv w) fl) []):=by kernel_rfl
 refine aa e (mb ?_ rfl);have e2:yG (CC P) cl mk 3 (pK (a9 P 348 2)) (Es (a9 P 348 2)) (jL P (bR pp (pv w) fl) []) (ev (CC P) cl mk 3 (Es (a9 P 348 2)) (jL P (bR pp (pv w) fl) [])) H=yG (CC P) (λ_ _ _=>cl 321 [pp] H) mk 3 (pK (a9 P 348 2)) (Es (a9 P 348 2)) (jL P (bR pp (pv w) fl) []) (ev (CC P) (λ_ _ _=>cl 321 [pp] H) mk 3 (Es (a9 P 348 2)) (jL P (bR pp (pv w) fl) [])) H:=by kernel_rfl
 refine aa e2 (aa h ?_);kernel_rfl
noncomputable def jW (w:List Int):Except (List Int) Sd->AV
 | .ok s=>.tup [i_ s,.none]| .error e=>.tup [.none,pv (w++e)]
theorem Ds: ∀i,ht (t4 i)<=2
 |0=>by exact uH _
 |1=>by exact uH _
 |2=>by exact ur _
 |_+3=>by refine(?_:ht (.g .a .b)<=2);exact ur _
theorem T9 {s:Sd}(h:jA i=some s):ht s.1<=3/\ht s.2<=3:=by
 delta jA at h;have a:=Ds (i-3);have b:=Ds (i-7);have c:=Ds ((i-11)/4);have d:=Ds ((i-11)%4)
 repeat' split at h
 all_goals first|(exact xNS h;done)|(refine al h λah=>?_;clear h;subst ah;dsimp only [ht];(first|(exact Po)|(exact Pp)|(exact Pq)|(exact Pr a)|(exact Pt b)|(exact Pu c d)|(exact Pw)))
theorem il: ∀{p:Pa} {s:Sd},J p= .ok s->ht s.1<=3+dp p/\ht s.2<=3+dp p
 | .at_ i,s,h=>by
  unfold J at h;refine cO (jA i) (λq=>?_) λt q=>?_
  ·replace h:=q▸h;exact xE h
  ·replace h:=q▸h;refine jO h λah=>?_;clear h;subst ah;have:=T9 q;dsimp only [dp];exact Px this
 | .turn p,s,h=>by
  unfold J at h;cases q:J p with
  |error e=>replace h:=q▸h;exact xE h|ok t=>replace h:=q▸h;refine jO h λah=>?_;clear h;subst ah;have:=il q;dsimp only [dp];exact Py this
 | .join p r,s,h=>by
  unfold J at h;cases q:J p with
  |error e=>replace h:=q▸h;exact xE h|ok t=>
   cases q2:J r with
   |error e=>replace h:=q▸h;replace h:=q2▸h;exact xE h|ok u=>
    replace h:=q▸h;replace h:=q2▸h;dsimp only at h;split at h
    ·refine jO h λah=>?_;clear h;subst ah;have:=il q;have:=il q2;dsimp only [dp];omega
    ·exact xE h
 | .unF p,s,h=>by
  unfold J at h;cases q:J p with
  |error e=>replace h:=q▸h;exact xE h|ok t=>replace h:=q▸h;refine jO h λah=>?_;clear h;subst ah;have:=il q;dsimp only [dp,ht];exact Pz this
 | .unG p r,s,h=>by
  unfold J at h;cases q:J p with
  |error e=>replace h:=q▸h;exact xE h|ok t=>
   cases q2:J r with
   |error e=>replace h:=q▸h;replace h:=q2▸h;exact xE h|ok u=>replace h:=q▸h;replace h:=q2▸h;refine jO h λah=>?_;clear h;subst ah;have:=il q;have:=il q2;dsimp only [dp,ht];omega
 | .join1 _,s,h=>by exact xE h
 | .unQ _,s,h=>by exact xE h
variable {n:Nat}
theorem TA {p:Pa}(h:ok p):CN P (n+12) 343 [av p] H=some (.ok (.bool (cz p)),H):=by
 cases p with
 |at_ i=>exact bh (Hg P n H) h|turn p=>kernel_rfl|join p q=>kernel_rfl|unF p=>kernel_rfl|unG p q=>kernel_rfl|join1 p=>kernel_rfl|unQ p=>kernel_rfl
theorem Hi {p:Pa}(h:ok p):CN P (n+12) 150 [av p] H=some (.ok (.bool (cz p)),H):=by
 cases p with
 |at_ i=>exact bh (JC P n H) h|turn p=>kernel_rfl|join p q=>kernel_rfl|unF p=>kernel_rfl|unG p q=>kernel_rfl|join1 p=>kernel_rfl|unQ p=>kernel_rfl
noncomputable def big:Pa->Bool
 | .turn _| .join _ _| .unF _| .unG _ _=>true
 |_=>false
theorem pN {p:Pa}(h:big p=true):CN P (n+12) 321 [av p] H=some (.ok (.tup ((ij p).map av)),H):=by
 cases p with
 |turn p=>kernel_rfl|join p q=>kernel_rfl|unF p=>kernel_rfl|unG p q=>kernel_rfl|at_ i=>exact di h|join1 p=>exact di h|unQ p=>exact di h
theorem TC:bd P 348= [a9 P 348 0,a9 P 348 1,a9 P 348 2,a9 P 348 3,a9 P 348 4,a9 P 348 5,a9 P 348 6,a9 P 348 7,a9 P 348 8]:=by kernel_rfl
variable {cl mk:qq7->List AV->M AV}{pp fl:AV}{w:List Int}
theorem js0 {b:Bool}(h:cl 343 [pp] H=some (.ok (.bool b),H)):EX P cl mk (a9 P 348 0) ⟨d2 P 348,bR pp (pv w) fl,[]⟩ H=(if b then some (.ok (.next,⟨d2 P 348,bR pp (pv w) fl,[]⟩),H) else some (.ok (.ret (.tup [.none,pv w]),⟨d2 P 348,bR pp (pv w) fl,[]⟩),H)):=by
 have e:EX P cl mk (a9 P 348 0) ⟨d2 P 348,bR pp (pv w) fl,[]⟩ H=EX P (λ_ _ _=>cl 343 [pp] H) mk (a9 P 348 0) ⟨d2 P 348,bR pp (pv w) fl,[]⟩ H:=by kernel_rfl
 refine aa e (aa h ?_);cases b<;>kernel_rfl
theorem dU {m:Nat}:CN P (m+1) 348 [p,pv w,fl] H=M.bind (br P (CN P m) (MN P m) (bd P 348) ⟨d2 P 348,bR p (pv w) fl,[]⟩) fY H:=by kernel_rfl
noncomputable def gC (p:AV)(k:Int)(s pp:AV)(w:List Int)(fl:AV):List (Str×AV):=(ag "bad",.none)::(ag "sides",s)::(ag "part",p)::(ag "k",.int k)::bR pp (pv w) fl
theorem Et {p s1 s2:AV}: ∃ae,br P cl mk [a9 P 348 3,a9 P 348 4,a9 P 348 5,a9 P 348 6,a9 P 348 7,a9 P 348 8] (jL P (gC p 0 (.tup [s1,s2]) (.tup [a7 "turn",p]) w (.bool false)) [.tup [s1,s2]]) H=some (.ok (.ret (.tup [.tup [s2,s1],.none]),ae),H):=
 ⟨jL P (gC p 0 (.tup [s1,s2]) (.tup [a7 "turn",p]) w (.bool false)) [.tup [s1,s2]],by kernel_rfl⟩
theorem Hj {p s1 s2:AV}: ∃ae,br P cl mk [a9 P 348 3,a9 P 348 4,a9 P 348 5,a9 P 348 6,a9 P 348 7,a9 P 348 8] (jL P (gC p 0 (.tup [s1,s2]) (.tup [a7 "under",a7 "f",.tup [p]]) w (.bool false)) [.tup [s1,s2]]) H=some (.ok (.ret (.tup [.tup [.tup [a7 "f",s1],.tup [a7 "f",s2]],.none]),ae),H):=
 ⟨jL P (gC p 0 (.tup [s1,s2]) (.tup [a7 "under",a7 "f",.tup [p]]) w (.bool false)) [.tup [s1,s2]],by kernel_rfl⟩
theorem Hk {p q s1 s2 u1 u2:AV}: ∃ae,br P cl mk [a9 P 348 3,a9 P 348 4,a9 P 348 5,a9 P 348 6,a9 P 348 7,a9 P 348 8] (jL P (gC q 1 (.tup [u1,u2]) (.tup [a7 "under",a7 "g",.tup [p,q]]) w (.bool false)) [.tup [s1,s2],.tup [u1,u2]]) H=some (.ok (.ret (.tup [.tup [.tup [a7 "g",s1,u1],.tup [a7 "g",s2,u2]],.none]),ae),H):=
 ⟨jL P (gC q 1 (.tup [u1,u2]) (.tup [a7 "under",a7 "g",.tup [p,q]]) w (.bool false)) [.tup [s1,s2],.tup [u1,u2]],by kernel_rfl⟩
set_option tactic.hygienic true in
theorem Eu {p q s1 s2 u1 u2:AV}{b:Bool}(h:gR s2 u1=some b): ∃ae,br P cl mk [a9 P 348 3,a9 P 348 4,a9 P 348 5,a9 P 348 6,a9 P 348 7,a9 P 348 8] (jL P (gC q 1 (.tup [u1,u2]) (.tup [a7 "join",p,q]) w (.bool false)) [.tup [s1,s2],.tup [u1,u2]]) H
  =some (.ok (.ret (if b then .tup [.tup [s1,u2],.none] else .tup [.none,pv w]),ae),H):=by
 refine⟨jL P (gC q 1 (.tup [u1,u2]) (.tup [a7 "join",p,q]) w (.bool false)) [.tup [s1,s2],.tup [u1,u2]],?_⟩;refine ay (H1:=H) (aK:=jL P (gC q 1 (.tup [u1,u2]) (.tup [a7 "join",p,q]) w (.bool false)) [.tup [s1,s2],.tup [u1,u2]]) (by kernel_rfl) (ay (H1:=H) (aK:=jL P (gC q 1 (.tup [u1,u2]) (.tup [a7 "join",p,q]) w (.bool false)) [.tup [s1,s2],.tup [u1,u2]]) (by kernel_rfl) (ay (H1:=H) (aK:=jL P (gC q 1 (.tup [u1,u2]) (.tup [a7 "join",p,q]) w (.bool false)) [.tup [s1,s2],.tup [u1,u2]]) (by kernel_rfl) (ay (H1:=H) (aK:=jL P (gC q 1 (.tup [u1,u2]) (.tup [a7 "join",p,q]) w (.bool false)) [.tup [s1,s2],.tup [u1,u2]]) (by kernel_rfl) ?_)));have e:EX P cl mk (a9 P 348 7) (jL P (gC q 1 (.tup [u1,u2]) (.tup [a7 "join",p,q]) w (.bool false)) [.tup [s1,s2],.tup [u1,u2]]) H
   =M.bind (M.bind (M.bind (lift (gR s2 u1)) λc=>if c then M.pure (.tup [.tup [s1,u2],.none]) else M.pure (.tup [.none,pv w])) λv=>M.pure (Fl.ret v,jL P (gC q 1 (.tup [u1,u2]) (.tup [a7 "join",p,q]) w (.bool false)) [.tup [s1,s2],.tup [u1,u2]])) (λx=>match x with|(.next,a6)=>M.pure (.next,a6)|(.ret v,a6)=>M.pure (.ret v,a6)) H:=by kernel_rfl
 refine b8 (aa e (aa h ?_));cases b<;>rfl
theorem Hl:EX P cl mk (a9 P 348 1) ⟨d2 P 348,bR pp (pv w) fl,[]⟩ H=some (.ok (.next,jL P (bR pp (pv w) fl) []),H):=by kernel_rfl
set_option tactic.hygienic true in
theorem cD {m:Nat}{p:Pa}{R:Rs (Fl×Loc)}(hb:big p=true)(ho:ok p)
  (h:M.bind (bU (bQ P (CN P (m+12)) (MN P (m+12)) (a9 P 348 2)) (cZ ((ij p).map av)) (jL P (bR (av p) (pv w) fl) [])) (λ(f,a6)=>match f with
   | .next=>br P (CN P (m+12)) (MN P (m+12)) [a9 P 348 3,a9 P 348 4,a9 P 348 5,a9 P 348 6,a9 P 348 7,a9 P 348 8] a6| .ret v=>M.pure (.ret v,a6)) H=R):
  br P (CN P (m+12)) (MN P (m+12)) (bd P 348) ⟨d2 P 348,bR (av p) (pv w) fl,[]⟩ H=R:=by
 have hf:cz p=true:=by cases p<;>first|rfl|exact di hb
 refine aa TC (ay (H1:=H) (aK:=⟨d2 P 348,bR (av p) (pv w) fl,[]⟩) (by refine aa (js0 (TA ho)) (aa hf ?_);rfl) ?_);refine ay (H1:=H) (aK:=jL P (bR (av p) (pv w) fl) []) Hl (?_:M.bind (EX P _ _ (a9 P 348 2) _) _ H=R);unfold M.bind at h⊢;exact aa (XE (pN hb)) h
theorem im: ∀(p:Pa) (w:List Int) (N:Nat),ok p->dp p<=50->w.length+dp p<=7->dp p+12<=N->CN P N 348 [av p,pv w,.bool false] H=some (.ok (jW w (J p)),H)
 | .at_ i,w,N,ho,hd,hw,hN=>by
  refine ac (⟨N-12,by dsimp only [dp] at hN;exact mK hN⟩: ∃m,N=m+12) ?_;intro m ah;subst ah;refine(bh (Er P m H (pv w)) (show i<45 from ho)).trans ?_;unfold J;cases jA i with
  |none=>refine(?_:_=some (Except.ok (AV.tup [AV.none,pv (w++ [])]),H));rw [uN];rfl|some s=>rfl
 | .turn p,w,N,ho,hd,hw,hN=>by
  simp only [dp] at hd hw hN;refine ac (⟨N-13,by exact Cv hN⟩: ∃m,N=m+12+1) λm ah=>?_;subst ah;have h1:=im p (w++ [0]) (m+12) ho (Cw hw) (by simp;exact gH hw) (Cy hN);cases q:J p with
  |error e=>
   replace h1:=q▸h1;refine ac (cj (P:=P) (mk:=MN P (m+12)) (H:=H) (pp:=av (.turn p)) (q:= .none) (so:= []) (k:=0) none (e:=(w++ [0])++e) (mM hw) h1) λa6 h2=>(aM dU (cD (p:= .turn p) rfl ho (mb (H1:=H) (mb h2 rfl) rfl))).trans ?_;simp only [J,q,jW,up];rfl
  |ok s=>
   replace h1:=q▸h1;have h2:=cR (P:=P) (mk:=MN P (m+12)) (H:=H) (pp:=av (.turn p)) (q:= .none) (so:= []) (k:=0) none (mM hw) (.inl rfl) h1;refine ac (Et (P:=P) (H:=H) (cl:=CN P (m+12)) (mk:=MN P (m+12)) (w:=w) (p:=av p) (s1:=tA s.1) (s2:=tA s.2)) λae h3=>(aM dU (cD (p:= .turn p) rfl ho (mb (H1:=H) (mb h2 rfl) h3))).trans ?_;simp only [J,q,jW];rfl
 | .unF p,w,N,ho,hd,hw,hN=>by
  simp only [dp] at hd hw hN;refine ac (⟨N-13,by exact Cv hN⟩: ∃m,N=m+12+1) λm ah=>?_;subst ah;have h1:=im p (w++ [0]) (m+12) ho (Cw hw) (by simp;exact gH hw) (Cy hN);cases q:J p with
  |error e=>
   replace h1:=q▸h1;refine ac (cj (P:=P) (mk:=MN P (m+12)) (H:=H) (pp:=av (.unF p)) (q:= .none) (so:= []) (k:=0) none (e:=(w++ [0])++e) (mM hw) h1) λa6 h2=>(aM dU (cD (p:= .unF p) rfl ho (mb (H1:=H) (mb h2 rfl) rfl))).trans ?_;simp only [J,q,jW,up];rfl
  |ok s=>
   replace h1:=q▸h1;have h2:=cR (P:=P) (mk:=MN P (m+12)) (H:=H) (pp:=av (.unF p)) (q:= .none) (so:= []) (k:=0) none (mM hw) (.inl rfl) h1;refine ac (Hj (P:=P) (H:=H) (cl:=CN P (m+12)) (mk:=MN P (m+12)) (w:=w) (p:=av p) (s1:=tA s.1) (s2:=tA s.2)) λae h3=>(aM dU (cD (p:= .unF p) rfl ho (mb (H1:=H) (mb h2 rfl) h3))).trans ?_;simp only [J,q,jW];rfl
 | .join p r,w,N,ho,hd,hw,hN=>by
  simp only [dp] at hd hw hN;refine ac (⟨N-13,by exact Cz hN⟩: ∃m,N=m+12+1) λm ah=>?_;subst ah;have h1:=im p (w++ [0]) (m+12) ho.1 (C0 hw) (by simp;exact gI hw) (C1 hN);cases q:J p with
  |error e=>
   replace h1:=q▸h1;refine ac (cj (P:=P) (mk:=MN P (m+12)) (H:=H) (pp:=av (.join p r)) (q:= .none) (so:= []) (k:=0) none (e:=(w++ [0])++e) (gJ hw) h1) λa6 h2=>(aM dU (cD (p:= .join p r) rfl ho (mb (H1:=H) (mb h2 rfl) rfl))).trans ?_;simp only [J,q,jW,up];rfl
  |ok s=>
   replace h1:=q▸h1;have h2:=cR (P:=P) (mk:=MN P (m+12)) (H:=H) (pp:=av (.join p r)) (q:= .none) (so:= []) (k:=0) none (gJ hw) (.inl rfl) h1;have g1:=im r (w++ [1]) (m+12) ho.2 (C2 hw) (by simp;exact gK hw) (C3 hN);cases q2:J r with
   |error e=>
    replace g1:=q2▸g1;refine ac (cj (P:=P) (mk:=MN P (m+12)) (H:=H) (pp:=av (.join p r)) (q:=av p) (so:= [i_ s]) (k:=1) (some (i_ s)) (e:=(w++ [1])++e) (gJ hw) g1) λa6 g2=>(aM dU (cD (p:= .join p r) rfl ho (mb (H1:=H) (mb h2 (mb g2 rfl)) rfl))).trans ?_;simp only [J,q,q2,jW,up];rfl
   |ok t=>
    replace g1:=q2▸g1;have g2:=cR (P:=P) (mk:=MN P (m+12)) (H:=H) (pp:=av (.join p r)) (q:=av p) (so:= [i_ s]) (k:=1) (some (i_ s)) (gJ hw) (.inr ⟨_,rfl⟩) g1;have b1:=il q;have b2:=il q2;refine ac (Eu (P:=P) (H:=H) (cl:=CN P (m+12)) (mk:=MN P (m+12)) (w:=w) (p:=av p) (q:=av r) (s1:=tA s.1) (s2:=tA s.2) (u1:=tA t.1) (u2:=tA t.2) (Ae (Km hw b1) (Kn hw b2))) λae h3=>(aM dU (cD (p:= .join p r) rfl ho (mb (H1:=H) (mb h2 (mb g2 rfl)) h3))).trans ?_;simp only [J,q,q2];by_cases z:s.2=t.1
    ·simp only [z,if_true,decide_true,jW];rfl
    ·simp only [z,if_false,decide_false,jW,uN];rfl
 | .unG p r,w,N,ho,hd,hw,hN=>by
  simp only [dp] at hd hw hN;refine ac (⟨N-13,by exact Cz hN⟩: ∃m,N=m+12+1) λm ah=>?_;subst ah;have h1:=im p (w++ [0]) (m+12) ho.1 (C0 hw) (by simp;exact gI hw) (C1 hN);cases q:J p with
  |error e=>
   replace h1:=q▸h1;refine ac (cj (P:=P) (mk:=MN P (m+12)) (H:=H) (pp:=av (.unG p r)) (q:= .none) (so:= []) (k:=0) none (e:=(w++ [0])++e) (gJ hw) h1) λa6 h2=>(aM dU (cD (p:= .unG p r) rfl ho (mb (H1:=H) (mb h2 rfl) rfl))).trans ?_;simp only [J,q,jW,up];rfl
  |ok s=>
   replace h1:=q▸h1;have h2:=cR (P:=P) (mk:=MN P (m+12)) (H:=H) (pp:=av (.unG p r)) (q:= .none) (so:= []) (k:=0) none (gJ hw) (.inl rfl) h1;have g1:=im r (w++ [1]) (m+12) ho.2 (C2 hw) (by simp;exact gK hw) (C3 hN);cases q2:J r with
   |error e=>
    replace g1:=q2▸g1;refine ac (cj (P:=P) (mk:=MN P (m+12)) (H:=H) (pp:=av (.unG p r)) (q:=av p) (so:= [i_ s]) (k:=1) (some (i_ s)) (e:=(w++ [1])++e) (gJ hw) g1) λa6 g2=>(aM dU (cD (p:= .unG p r) rfl ho (mb (H1:=H) (mb h2 (mb g2 rfl)) rfl))).trans ?_;simp only [J,q,q2,jW,up];rfl
   |ok t=>
    replace g1:=q2▸g1;have g2:=cR (P:=P) (mk:=MN P (m+12)) (H:=H) (pp:=av (.unG p r)) (q:=av p) (so:= [i_ s]) (k:=1) (some (i_ s)) (gJ hw) (.inr ⟨_,rfl⟩) g1;refine ac (Hk (P:=P) (H:=H) (cl:=CN P (m+12)) (mk:=MN P (m+12)) (w:=w) (p:=av p) (q:=av r) (s1:=tA s.1) (s2:=tA s.2) (u1:=tA t.1) (u2:=tA t.2)) λae h3=>(aM dU (cD (p:= .unG p r) rfl ho (mb (H1:=H) (mb h2 (mb g2 rfl)) h3))).trans ?_;simp only [J,q,q2,jW];rfl
 | .join1 p,w,N,ho,hd,hw,hN=>by
  dsimp only [dp] at hN;refine ac (⟨N-12,by exact mK hN⟩: ∃m,N=m+12) λm ah=>?_;subst ah;refine Eq.trans (by kernel_rfl:_=some (Except.ok (AV.tup [AV.none,pv w]),H)) ?_;simp only [J,jW,uN]
 | .unQ p,w,N,ho,hd,hw,hN=>by
  dsimp only [dp] at hN;refine ac (⟨N-12,by exact mK hN⟩: ∃m,N=m+12) λm ah=>?_;subst ah;refine Eq.trans (by kernel_rfl:_=some (Except.ok (AV.tup [AV.none,pv w]),H)) ?_;simp only [J,jW,uN]
noncomputable def kg:AV->AV
 | .tup (_::x::_)=>x|_=>.none
noncomputable def Ev (p:AV)(w:List Int):Option (List Int)->AV
 |none=>.tup [.tup [kg p,kg p],.none]|some e=>.tup [.none,pv (w++e)]
theorem BY (P:qq9)(n:Nat)(H:HS)(kf:AV):(List.range 45).map (λi=>CN P (n+12) 348 [cX i,kf,.bool true] H)=(List.range 45).map (λi=>some (.ok (if i<32 then AV.tup [.tup [kg (cX i),kg (cX i)],.none] else .tup [.none,kf]),H)):=by kernel_rfl
theorem LX {p:Pa}{x s:AV}(hb:big p=true):br P cl mk [a9 P 348 3,a9 P 348 4,a9 P 348 5,a9 P 348 6,a9 P 348 7,a9 P 348 8] (jL P (gC x k s (av p) w (.bool true)) so) H
  =some (.ok (.ret (Ev (av p) w none),jL P (gC x k s (av p) w (.bool true)) so),H):=by
 cases p with
 |turn p=>kernel_rfl|join p q=>kernel_rfl|unF p=>kernel_rfl|unG p q=>kernel_rfl|at_ i=>exact di hb|join1 p=>exact di hb|unQ p=>exact di hb
theorem JD: ∀(p:Pa) (w:List Int) (N:Nat),ok p->w.length+dp p<=7->dp p+12<=N->CN P N 348 [av p,pv w,.bool true] H=some (.ok (Ev (av p) w (Fm p)),H):=by
 have one: ∀(p q:Pa),big q=true->ok q->ij q= [p]->Fm q=(Fm p).map (0:: ·)-> ∀(w:List Int) (m:Nat),w.length<=6->CN P (m+12) 348 [av p,pv (w++ [0]),.bool true] H=some (.ok (Ev (av p) (w++ [0]) (Fm p)),H)->CN P (m+12+1) 348 [av q,pv w,.bool true] H=some (.ok (Ev (av q) w (Fm q)),H):=by
  intro p q hb ho hk hF w m hw h1;refine cO (Fm p) (λf=>?_) λe f=>?_
  ·replace h1:=f▸h1;have h2:=cR (P:=P) (mk:=MN P (m+12)) (H:=H) (pp:=av q) (q:= .none) (so:= []) (k:=0) none hw (.inl rfl) h1;refine(aM dU (cD hb ho (by exact aa hk (mb (H1:=H) (mb h2 rfl) (LX hb))))).trans ?_;simp only [hF,f];rfl
  ·replace h1:=f▸h1;refine ac (cj (P:=P) (mk:=MN P (m+12)) (H:=H) (pp:=av q) (q:= .none) (so:= []) (k:=0) none (e:=(w++ [0])++e) hw h1) λa6 h2=>(aM dU (cD hb ho (by exact aa hk (mb (H1:=H) (mb h2 rfl) rfl)))).trans ?_;simp only [hF,f,Ev,up];rfl
 have TD: ∀(p r q:Pa),big q=true->ok q->ij q= [p,r]->Fm q=(match Fm p with|some e=>some (0::e)|none=>(Fm r).map (1:: ·))-> ∀(w:List Int) (m:Nat),w.length<=6->CN P (m+12) 348 [av p,pv (w++ [0]),.bool true] H=some (.ok (Ev (av p) (w++ [0]) (Fm p)),H)->
   CN P (m+12) 348 [av r,pv (w++ [1]),.bool true] H=some (.ok (Ev (av r) (w++ [1]) (Fm r)),H)->CN P (m+12+1) 348 [av q,pv w,.bool true] H=some (.ok (Ev (av q) w (Fm q)),H):=by
  intro p r q hb ho hk hF w m hw h1 g1;refine cO (Fm p) (λf=>?_) λe f=>?_
  ·replace h1:=f▸h1;have h2:=cR (P:=P) (mk:=MN P (m+12)) (H:=H) (pp:=av q) (q:= .none) (so:= []) (k:=0) none hw (.inl rfl) h1;refine cO (Fm r) (λf2=>?_) λe f2=>?_
   ·replace g1:=f2▸g1;have g2:=cR (P:=P) (mk:=MN P (m+12)) (H:=H) (pp:=av q) (q:=av p) (so:= [.tup [kg (av p),kg (av p)]]) (k:=1) (some (.tup [kg (av p),kg (av p)])) hw (.inr ⟨_,rfl⟩) g1;refine(aM dU (cD hb ho (by exact aa hk (mb (H1:=H) (mb h2 (mb g2 rfl)) (LX hb))))).trans ?_;simp only [hF,f,f2];rfl
   ·replace g1:=f2▸g1;refine ac (cj (P:=P) (mk:=MN P (m+12)) (H:=H) (pp:=av q) (q:=av p) (so:= [.tup [kg (av p),kg (av p)]]) (k:=1) (some (.tup [kg (av p),kg (av p)])) (e:=(w++ [1])++e) hw g1) λa6 g2=>(aM dU (cD hb ho (by exact aa hk (mb (H1:=H) (mb h2 (mb g2 rfl)) rfl)))).trans ?_;simp only [hF,f,f2,Ev,up];rfl
  ·replace h1:=f▸h1;refine ac (cj (P:=P) (mk:=MN P (m+12)) (H:=H) (pp:=av q) (q:= .none) (so:= []) (k:=0) none (e:=(w++ [0])++e) hw h1) λa6 h2=>(aM dU (cD hb ho (by exact aa hk (mb (H1:=H) (mb h2 rfl) rfl)))).trans ?_;simp only [hF,f,Ev,up];rfl
 intro p
 induction p with
 |at_ i=>
  intro w N ho hw hN;refine ac (⟨N-12,by dsimp only [dp] at hN;exact mK hN⟩: ∃m,N=m+12) ?_;intro m ah;subst ah;refine(bh (BY P m H (pv w)) (show i<45 from ho)).trans ?_;unfold Fm;split
  ·rfl
  ·refine(?_:_=some (Except.ok (AV.tup [AV.none,pv (w++ [])]),H));rw [uN]
 |turn p ih=>
  intro w N ho hw hN;simp only [dp] at hw hN;refine ac (⟨N-13,by exact Cv hN⟩: ∃m,N=m+12+1) λm ah=>?_;subst ah;exact one p _ rfl ho rfl rfl w m (mM hw) (ih _ _ ho (by simp;exact gH hw) (Cy hN))
 |unF p ih=>
  intro w N ho hw hN;simp only [dp] at hw hN;refine ac (⟨N-13,by exact Cv hN⟩: ∃m,N=m+12+1) λm ah=>?_;subst ah;exact one p _ rfl ho rfl rfl w m (mM hw) (ih _ _ ho (by simp;exact gH hw) (Cy hN))
 |join p r ih Hm=>
  intro w N ho hw hN;simp only [dp] at hw hN;refine ac (⟨N-13,by exact Cz hN⟩: ∃m,N=m+12+1) λm ah=>?_;subst ah;exact TD p r _ rfl ho rfl rfl w m (gJ hw) (ih _ _ ho.1 (by simp;exact gI hw) (C1 hN)) (Hm _ _ ho.2 (by simp;exact gK hw) (C3 hN))
 |unG p r ih Hm=>
  intro w N ho hw hN;simp only [dp] at hw hN;refine ac (⟨N-13,by exact Cz hN⟩: ∃m,N=m+12+1) λm ah=>?_;subst ah;exact TD p r _ rfl ho rfl rfl w m (gJ hw) (ih _ _ ho.1 (by simp;exact gI hw) (C1 hN)) (Hm _ _ ho.2 (by simp;exact gK hw) (C3 hN))
 |join1 p ih=>
  intro w N ho hw hN;dsimp only [dp] at hN;refine ac (⟨N-12,by exact mK hN⟩: ∃m,N=m+12) λm ah=>?_;subst ah;refine Eq.trans (by kernel_rfl:_=some (Except.ok (AV.tup [AV.none,pv w]),H)) ?_;simp only [Fm,Ev,uN]
 |unQ p ih=>
  intro w N ho hw hN;dsimp only [dp] at hN;refine ac (⟨N-12,by exact mK hN⟩: ∃m,N=m+12) λm ah=>?_;subst ah;refine Eq.trans (by kernel_rfl:_=some (Except.ok (AV.tup [AV.none,pv w]),H)) ?_;simp only [Fm,Ev,uN]
noncomputable def po:List Int->Pa->List (List Int×Pa)
 |w,.turn p=>po (w++ [0]) p++ [(w,.turn p)]|w,.join p q=>po (w++ [0]) p++po (w++ [1]) q++ [(w,.join p q)]|w,.unF p=>po (w++ [0]) p++ [(w,.unF p)]|w,.unG p q=>po (w++ [0]) p++po (w++ [1]) q++ [(w,.unG p q)]|w,p=>[(w,p)]
noncomputable def je (x:List Int×Pa):AV:= .tup [pv x.1,av x.2]
theorem cJ: ∀(p:Pa) (w:List Int),(po w p).length=sz p
 | .turn p,w=>by simp [po,sz,cJ p]
 | .join p q,w=>by simp [po,sz,cJ p,cJ q];exact Ko
 | .unF p,w=>by simp [po,sz,cJ p]
 | .unG p q,w=>by simp [po,sz,cJ p,cJ q];exact Ko
 | .at_ i,w=>rfl| .join1 p,w=>rfl| .unQ p,w=>rfl
noncomputable def NC (x:Option (AV×AV))(p:AV):List (Str×AV):=match x with
 |some (w,o)=>[(ag "one",o),(ag "path",w),(ag "paper",p)]
 |none=>[(ag "paper",p)]
noncomputable def iOm (b:Bool)(F Wt:List AV):List (Str×OB):=if b then [(ag "found",.list F),(ag "waiting",.list Wt)] else [(ag "waiting",.list Wt),(ag "found",.list F)]
noncomputable def iL (P:qq9)(b:Bool)(x:Option (AV×AV))(p:AV)(F Wt:List AV):Loc:=⟨d2 P 155,NC x p,iOm b F Wt⟩
noncomputable def ND (s:Stmt):Expr:=pS 0 s
noncomputable def Dt (s:Stmt):Expr:=pE 1 (pS 0 s)
noncomputable def cT (e:Expr):Expr:=pE 1 e
noncomputable def cI (e:Expr):Expr:=pE 2 e
noncomputable def cF (e:Expr):List Expr:=(pJ e).drop 3
noncomputable def cE (e:Expr):Expr:=pE 0 e
noncomputable def cS (d:Scope):Expr->Scope
 | .ListComp _ _ s _=>s|_=>d
noncomputable def m0 (P:qq9)(cl mk:qq7->List AV->M AV)(c:Expr)(ae:Loc):AV->M Bool:=bA (cT c) λbs=>mG (CC P) cl mk 2 (cF c) {aA (cS ae.sc c) ae with rho:=bs++(aA (cS ae.sc c) ae).rho}
noncomputable def Du (P:qq9)(cl mk:qq7->List AV->M AV)(c:Expr)(ae:Loc):AV->M AV:=bA (cT c) λbs=>ev (CC P) cl mk 2 (cE c) {aA (cS ae.sc c) ae with rho:=bs++(aA (cS ae.sc c) ae).rho}
noncomputable def fZ (P:qq9)(cl mk:qq7->List AV->M AV)(c:Expr)(ae:Loc)(items:List AV):M AV:=if items.length<=1000 then M.bind (ck (m0 P cl mk c ae) (Du P cl mk c ae) items) λys=>M.pure (.list ys) else stuck
theorem lJ (h:w.length<=900):binop .Add (pv w) (.tup [.int k])=some (pv (w++ [k])):=by
 refine(?_:(if(w.map AV.int).length+1<=1000 then some (AV.tup (w.map .int++ [.int k])) else none)=_);refine aa (if_pos (by rw [uQ];exact P0 h)) ?_;simp [pv]
variable {H2:HS}
theorem bF {m:Option α}{a:α}(h:m=some a):lift m H=some (.ok a,H):=by refine aa h ?_;rfl
theorem cU {T:AV->M Bool}{E:AV->M AV}{a y:AV}{r ys:List AV}(h1:T a H=some (.ok true,H))(h2:E a H=some (.ok y,H1))(h3:ck T E r H1=some (.ok ys,H2)):ck T E (a::r) H=some (.ok (y::ys),H2):=
 mb h1 (mb h2 (mb h3 rfl))
theorem pO {m:M α}{a:α}(h:m H=some (.ok a,H1)):i9 m H=some (.ok a,H1):=congrArg (λx:Option (Except AV α×HS)=>Option.bind x λy=>Yt y.2 y.1) h
noncomputable def lK (w:List Int)(l:List AV):List AV:=(List.range l.length).zipWith (λ(i:Nat) v=>.tup [pv (w++ [(i:Int)]),v]) l
variable {b:Bool}{x:Option (AV×AV)}{one:AV}{F Wt:List AV}
theorem ZA:EX P cl mk (bC P 155 1 0) (iL P b x p F (Wt++ [.tup [pv w,one]])) H=some (.ok (.next,iL P false (some (pv w,one)) p F Wt),H):=by
 have e: ∀l,EX P cl mk (bC P 155 1 0) (iL P b x p F l) H=M.bind (match l.getLast? with|some v=>M.bind (cw (ag "waiting") (.list l.dropLast) (iL P b x p F l)) λa6=>aR (gB (bC P 155 1 0)) v a6|none=>stuck) next H:=by
  intro l;cases b<;>cases x<;>kernel_rfl
 rewrite [e];refine aa List.getLast?_concat ?_;refine aa List.dropLast_concat ?_;cases b<;>cases x<;>kernel_rfl
theorem XF:EX P cl mk (bC P 155 1 1) (iL P false (some (pv w,one)) p F Wt) H=M.bind (if F.length<1000 then cw (ag "found") (.list (F++ [AV.tup [pv w,one]])) (iL P false (some (pv w,one)) p F Wt) else stuck) next H:=by kernel_rfl
theorem XG:M.bind (cw (ag "found") (.list (F++ [AV.tup [pv w,one]])) (iL P false (some (pv w,one)) p F Wt)) next H=some (.ok (.next,iL P true (some (pv w,one)) p (F++ [.tup [pv w,one]]) Wt),H):=by kernel_rfl
theorem ZB (h:F.length<1000):EX P cl mk (bC P 155 1 1) (iL P false (some (pv w,one)) p F Wt) H=some (.ok (.next,iL P true (some (pv w,one)) p (F++ [.tup [pv w,one]]) Wt),H):=by
 refine aa XF (aa (if_pos h) ?_);exact XG
theorem NE (h:cl 150 [one] H=some (.ok (.bool false),H)):EX P cl mk (bC P 155 1 2) (iL P true (some (pv w,one)) p F Wt) H=some (.ok (.next,iL P true (some (pv w,one)) p F Wt),H):=by
 have e:EX P cl mk (bC P 155 1 2) (iL P true (some (pv w,one)) p F Wt) H=M.bind (M.bind (cl 150 [one]) (λv=>lift (A5 v))) (λc=>if c then br P cl mk (bS (bC P 155 1 2)) (iL P true (some (pv w,one)) p F Wt) else br P cl mk [] (iL P true (some (pv w,one)) p F Wt)) H:=by kernel_rfl
 exact aa e (mb (mb h rfl) rfl)
noncomputable abbrev iC (P:qq9):Expr:=Dt ((bS (bC P 155 1 2)).headD (a9 P 155 0))
theorem TF {l:List AV}(hw:w.length<=900)(hl:l= []\/(∃u,l= [u])\/ ∃u v,l= [u,v])(h:cl 131 [one] H=some (.ok (.tup l),H)):
  ev (CC P) cl mk 3 (Dt ((bS (bC P 155 1 2)).headD (a9 P 155 0))) (iL P true (some (pv w,one)) p F Wt) H=some (.ok (.list (lK w l)),H):=by
 have e:ev (CC P) cl mk 3 (iC P) (iL P true (some (pv w,one)) p F Wt)=M.bind (yG (CC P) cl mk 3 (cT (iC P)) (cI (iC P)) (iL P true (some (pv w,one)) p F Wt) (ev (CC P) cl mk 3 (cI (iC P)) (iL P true (some (pv w,one)) p F Wt))) (fZ P cl mk (iC P) (iL P true (some (pv w,one)) p F Wt)):=by kernel_rfl
 have e2:yG (CC P) cl mk 3 (cT (iC P)) (cI (iC P)) (iL P true (some (pv w,one)) p F Wt) (ev (CC P) cl mk 3 (cI (iC P)) (iL P true (some (pv w,one)) p F Wt)) H=yG (CC P) (λ_ _ _=>cl 131 [one] H) mk 3 (cT (iC P)) (cI (iC P)) (iL P true (some (pv w,one)) p F Wt) (ev (CC P) (λ_ _ _=>cl 131 [one] H) mk 3 (cI (iC P)) (iL P true (some (pv w,one)) p F Wt)) H:=by kernel_rfl
 refine(?_:ev (CC P) cl mk 3 (iC P) _ H=_);refine aa e (mb (H1:=H) (a:=cZ l) (by refine aa e2 (aa h ?_);kernel_rfl) ?_);have t: ∀(k:Int) u,m0 P cl mk (iC P) (iL P true (some (pv w,one)) p F Wt) (.tup [.int k,u]) H=some (.ok true,H):=λk u=>by kernel_rfl
 have el: ∀(k:Int) u,Du P cl mk (iC P) (iL P true (some (pv w,one)) p F Wt) (.tup [.int k,u]) H=some (.ok (.tup [pv (w++ [k]),u]),H):=λk u=>by
  exact aa (show Du P cl mk (iC P) (iL P true (some (pv w,one)) p F Wt) (.tup [.int k,u]) H=i9 (M.bind (M.bind (lift (binop .Add (pv w) (.tup [.int k]))) λv=>M.bind (M.pure [u]) λvs=>M.pure (v::vs)) λvs=>M.pure (.tup vs)) H by kernel_rfl) (pO (mb (mb (bF (lJ hw)) rfl) rfl))
 rcases hl with h|⟨u,h⟩|⟨u,v,h⟩<;>refine aa h ?_
 ·exact rfl
 ·exact mb (H1:=H) (cU (H1:=H) (H2:=H) (t 0 u) (el 0 u) rfl) rfl
 ·exact mb (H1:=H) (cU (H1:=H) (H2:=H) (t 0 u) (el 0 u) (cU (H1:=H) (H2:=H) (t 1 v) (el 1 v) rfl)) rfl
theorem pP {l:List AV}:(lK w l).length=l.length:=by delta lK;simp
theorem JE {l:List AV}(hw:w.length<=900)(hl:l= []\/(∃u,l= [u])\/ ∃u v,l= [u,v])(hs:Wt.length+l.length<=1000)(h:cl 150 [one] H=some (.ok (.bool true),H))(h2:cl 131 [one] H=some (.ok (.tup l),H)):
  EX P cl mk (bC P 155 1 2) (iL P true (some (pv w,one)) p F Wt) H=some (.ok (.next,iL P false (some (pv w,one)) p F (Wt++lK w l)),H):=by
 have e:EX P cl mk (bC P 155 1 2) (iL P true (some (pv w,one)) p F Wt) H=M.bind (M.bind (cl 150 [one]) (λv=>lift (A5 v))) (λc=>if c then br P cl mk (bS (bC P 155 1 2)) (iL P true (some (pv w,one)) p F Wt) else br P cl mk [] (iL P true (some (pv w,one)) p F Wt)) H:=by kernel_rfl
 refine aa e (mb (mb h rfl) (?_:br P cl mk (bS (bC P 155 1 2)) (iL P true (some (pv w,one)) p F Wt) H=_));refine aa (show bS (bC P 155 1 2)= [(bS (bC P 155 1 2)).headD (a9 P 155 0)] by kernel_rfl) (ay (H1:=H) ?_ rfl);have e2:EX P cl mk ((bS (bC P 155 1 2)).headD (a9 P 155 0)) (iL P true (some (pv w,one)) p F Wt) H=M.bind (M.bind (ev (CC P) cl mk 3 (Dt ((bS (bC P 155 1 2)).headD (a9 P 155 0))) (iL P true (some (pv w,one)) p F Wt)) λv=>match v with
   | .list r=>if Wt.length+r.length<=1000 then cw (ag "waiting") (.list (Wt++r)) (iL P true (some (pv w,one)) p F Wt) else stuck
   | .tup r=>if Wt.length+r.length<=1000 then cw (ag "waiting") (.list (Wt++r)) (iL P true (some (pv w,one)) p F Wt) else stuck
   |_=>stuck) next H:=by kernel_rfl
 refine aa e2 (mb (mb (TF hw hl h2) (by show(if _ then _ else stuck) _=_;refine aa (if_pos (by exact aa pP hs)) ?_;exact rfl)) ?_);kernel_rfl
theorem Hn (P:qq9)(n:Nat)(H:HS):(List.range 32).map (λi=>CN P (n+12) 131 [cX i] H)=(List.range 32).map (λi=>some (.ok (.tup []),H)):=by kernel_rfl
theorem BZ {n:Nat}{p:Pa}(hf:cz p=true):CN P (n+12) 131 [av p] H=some (.ok (.tup ((ij p).map av)),H):=by
 cases p with
 |at_ i=>exact bh (Hn P n H) (of_decide_eq_true hf)|turn p=>kernel_rfl|join p q=>kernel_rfl|unF p=>kernel_rfl|unG p q=>kernel_rfl|join1 p=>exact di hf|unQ p=>exact di hf
noncomputable def lL (P:qq9)(cl mk:qq7->List AV->M AV)(ae:Loc):M Bool:=EO (CC P) cl mk 3 (ND (a9 P 155 1)) ae (ev (CC P) cl mk 3 (ND (a9 P 155 1)) ae)
noncomputable def jP (P:qq9)(cl mk:qq7->List AV->M AV)(ae:Loc):M (Fl×Loc):=br P cl mk (bS (a9 P 155 1)) ae
theorem LY:lL P cl mk (iL P b x p F Wt) H=some (.ok (decide ((Wt.length:Int)>0)),H):=by
 cases b<;>cases x<;>kernel_rfl
theorem TG {m:Nat}{b:Bool}{x:Option (AV×AV)}{q:AV}{p:Pa}{w:List Int}{F Wt:List AV}(ho:ok p)(hw:w.length<=7)(hF:F.length<1000)(hs:Wt.length+2<=1000):
  ∃b',jP P (CN P (m+12)) (MN P (m+12)) (iL P b x q F (Wt++ [.tup [pv w,av p]])) H=some (.ok (.next,iL P b' (some (pv w,av p)) q (F++ [.tup [pv w,av p]]) (Wt++(if cz p then lK w ((ij p).map av) else []))),H):=by
 have hb:bS (a9 P 155 1)= [bC P 155 1 0,bC P 155 1 1,bC P 155 1 2]:=by kernel_rfl
 delta jP;refine aa hb ?_;cases hf:cz p with
 |false=>
  refine⟨true,ay (H1:=H) ZA (ay (H1:=H) (ZB hF) (ay (H1:=H) (NE ?_) ?_))⟩
  ·exact aa (Hi ho) (aa hf rfl)
  ·simp only [uX,if_false,uN];rfl
 |true=>
  refine⟨false,ay (H1:=H) ZA (ay (H1:=H) (ZB hF) (ay (H1:=H) (JE (ub hw (by exact uj _ _)) (l:=(ij p).map av) ?_ ?_ ?_ (BZ hf)) ?_))⟩
  ·cases p<;>simp [ij]
  ·cases p<;>simp [ij]<;>(first|(exact P1 hs)|(exact P2 hs)|(exact P4 hs))
  ·exact aa (Hi ho) (aa hf rfl)
  ·simp only [if_true];rfl
theorem TH {m:Nat}{q:AV}: ∀(p:Pa) (w:List Int) (F Wt:List AV) (b:Bool) (x:Option (AV×AV)) (k:Nat),ok p->w.length+dp p<=7->F.length+sz p<=1000->Wt.length+sz p+2<=1000->
  ∃b' x',fE (lL P (CN P (m+12)) (MN P (m+12))) (jP P (CN P (m+12)) (MN P (m+12))) (sz p+k) (iL P b x q F (Wt++ [je (w,p)])) H
   =fE (lL P (CN P (m+12)) (MN P (m+12))) (jP P (CN P (m+12)) (MN P (m+12))) k (iL P b' x' q (F++((po w p).map je).reverse) Wt) H:=by
 have step: ∀(p:Pa) (w:List Int) (F Wt:List AV) (b:Bool) (x:Option (AV×AV)) (k:Nat),ok p->w.length<=7->F.length<1000->Wt.length+2<=1000->
   ∃b',fE (lL P (CN P (m+12)) (MN P (m+12))) (jP P (CN P (m+12)) (MN P (m+12))) (k+1) (iL P b x q F (Wt++ [je (w,p)])) H
    =fE (lL P (CN P (m+12)) (MN P (m+12))) (jP P (CN P (m+12)) (MN P (m+12))) k (iL P b' (some (pv w,av p)) q (F++ [je (w,p)]) (Wt++(if cz p then lK w ((ij p).map av) else []))) H:=by
  intro p w F Wt b x k ho hw hF hs;refine ac (TG (P:=P) (H:=H) (m:=m) (b:=b) (x:=x) (q:=q) (p:=p) (w:=w) (F:=F) (Wt:=Wt) ho hw hF hs) λb' h=>?_;refine⟨b',?_⟩;refine mb (H1:=H) (LY.trans (by refine aa (decide_eq_true (by simp)) ?_;rfl)) ?_;exact mb h rfl
 intro p
 induction p with
 |at_ i=>
  intro w F Wt b x k ho hw hF hs;simp only [sz] at hF hs⊢;refine ac (step (.at_ i) w F Wt b x k ho (by dsimp only [dp] at hw;exact fD hw) (C4 hF) (EY hs)) ?_;intro b' h;refine(cK b' (some (pv w,av (.at_ i))) ((vH 1 k▸h).trans ?_));have:(if cz (.at_ i) then lK w ((ij (.at_ i)).map av) else [])= []:=by split<;>rfl
  refine aa this ?_;rewrite [uN];rfl
 |join1 p ih=>
  intro w F Wt b x k ho hw hF hs;simp only [sz] at hF hs⊢;refine ac (step (.join1 p) w F Wt b x k ho (by dsimp only [dp] at hw;exact fD hw) (C4 hF) (EY hs)) ?_;intro b' h;refine(cK b' (some (pv w,av (.join1 p))) ((vH 1 k▸h).trans ?_));refine(?_:fE _ _ k (iL P b' _ q _ (Wt++ [])) H=_);rw [uN];rfl
 |unQ p ih=>
  intro w F Wt b x k ho hw hF hs;simp only [sz] at hF hs⊢;refine ac (step (.unQ p) w F Wt b x k ho (by dsimp only [dp] at hw;exact fD hw) (C4 hF) (EY hs)) ?_;intro b' h;refine(cK b' (some (pv w,av (.unQ p))) ((vH 1 k▸h).trans ?_));refine(?_:fE _ _ k (iL P b' _ q _ (Wt++ [])) H=_);rw [uN];rfl
 |turn p ih=>
  intro w F Wt b x k ho hw hF hs;simp only [sz,dp] at hw hF hs⊢;refine ac (step (.turn p) w F Wt b x (sz p+k) ho (mN hw) (Kp hF) (Kq hs)) λb' h=>?_;refine aX (ih (w++ [0]) (F++ [je (w,.turn p)]) Wt b' (some (pv w,av (.turn p))) k ho (by simp;exact gH hw) (by simp;exact Kr hF) (Ks hs)) ?_;intro b2 x2 h2;refine(cK b2 x2 ?_);refine aa (show sz p+1+k=sz p+k+1 by exact Kt) ?_;refine h.trans (h2.trans ?_);simp only [po,uA,vW,ut,qxV,vw,qxI,vx,up,qxJ]
 |unF p ih=>
  intro w F Wt b x k ho hw hF hs;simp only [sz,dp] at hw hF hs⊢;refine ac (step (.unF p) w F Wt b x (sz p+k) ho (mN hw) (Kp hF) (Kq hs)) λb' h=>?_;refine aX (ih (w++ [0]) (F++ [je (w,.unF p)]) Wt b' (some (pv w,av (.unF p))) k ho (by simp;exact gH hw) (by simp;exact Kr hF) (Ks hs)) ?_;intro b2 x2 h2;refine(cK b2 x2 ?_);refine aa (show sz p+1+k=sz p+k+1 by exact Kt) ?_;refine h.trans (h2.trans ?_);simp only [po,uA,vW,ut,qxV,vw,qxI,vx,up,qxJ]
 |join p r ih Hm=>
  intro w F Wt b x k ho hw hF hs;simp only [sz,dp] at hw hF hs⊢;refine ac (step (.join p r) w F Wt b x (sz r+(sz p+k)) ho (j3 hw) (Ku hF) (Kv hs)) λb' h=>?_;refine aX (Hm (w++ [1]) (F++ [je (w,.join p r)]) (Wt++ [je (w++ [0],p)]) b' (some (pv w,av (.join p r))) (sz p+k) ho.2 (by simp;exact gK hw) (by simp;exact Kw hF) (by simp;exact Ky hs)) ?_;intro b2 x2 h2;refine aX (ih (w++ [0]) (F++ [je (w,.join p r)]++((po (w++ [1]) r).map je).reverse) Wt b2 x2 k ho.1 (by simp;exact gI hw) (by simp [cJ];exact Kz hF) (K4 hs)) ?_;intro b3 x3 h3;refine(cK b3 x3 ?_);refine aa (show sz p+sz r+1+k=sz r+(sz p+k)+1 by exact K5) ?_;refine h.trans (Eq.trans ?_ (h2.trans (h3.trans ?_)))
  ·rw [up Wt];rfl
  ·simp only [po,uA,vW,ut,qxV,vw,qxI,vx,up,qxJ]
 |unG p r ih Hm=>
  intro w F Wt b x k ho hw hF hs;simp only [sz,dp] at hw hF hs⊢;refine ac (step (.unG p r) w F Wt b x (sz r+(sz p+k)) ho (j3 hw) (Ku hF) (Kv hs)) λb' h=>?_;refine aX (Hm (w++ [1]) (F++ [je (w,.unG p r)]) (Wt++ [je (w++ [0],p)]) b' (some (pv w,av (.unG p r))) (sz p+k) ho.2 (by simp;exact gK hw) (by simp;exact Kw hF) (by simp;exact Ky hs)) ?_;intro b2 x2 h2;refine aX (ih (w++ [0]) (F++ [je (w,.unG p r)]++((po (w++ [1]) r).map je).reverse) Wt b2 x2 k ho.1 (by simp;exact gI hw) (by simp [cJ];exact Kz hF) (K4 hs)) ?_;intro b3 x3 h3;refine(cK b3 x3 ?_);refine aa (show sz p+sz r+1+k=sz r+(sz p+k)+1 by exact K5) ?_;refine h.trans (Eq.trans ?_ (h2.trans (h3.trans ?_)))
  ·rw [up Wt];rfl
  ·simp only [po,uA,vW,ut,qxV,vw,qxI,vx,up,qxJ]
theorem TJ:bd P 155= [a9 P 155 0,a9 P 155 1,a9 P 155 2,a9 P 155 3]:=by kernel_rfl
theorem TK {m:Nat}:CN P (m+1) 155 [p] H=M.bind (br P (CN P m) (MN P m) (bd P 155) ⟨d2 P 155,[(ag "paper",p)],[]⟩) fY H:=by kernel_rfl
theorem Af {m:Nat}{p:Pa}(ho:ok p)(hd:dp p<=7)(hs:sz p<=900):CN P (m+13) 155 [av p] H=some (.ok (.list ((po [] p).map je)),H):=by
 refine aX (TH (P:=P) (H:=H) (m:=m) (q:=av p) p [] [] [] true none (1000-sz p) ho (by simpa using hd) (by simp;exact EZ hs) (by simp;exact P5 hs)) ?_;intro b x h;replace h:=(show sz p+(1000-sz p)=1000 by exact P6 hs)▸h;refine ac (⟨1000-sz p-1,by exact P7 hs⟩: ∃k,1000-sz p=k+1) λk hk=>?_;replace h:=hk▸h;have XH:fE (lL P (CN P (m+12)) (MN P (m+12))) (jP P (CN P (m+12)) (MN P (m+12))) (k+1) (iL P b x (av p) ([]++((po [] p).map je).reverse) []) H=some (.ok (.next,iL P b x (av p) ((po [] p).map je).reverse []),H):=by
  rw [vx];exact mb (H1:=H) LY rfl
 refine(aM (aK:=⟨d2 P 155,NC x (av p),[(ag "found",.list ((po [] p).map je)),(ag "waiting",.list [])]⟩) TK ?_);refine aa TJ (ay (H1:=H) (aK:=iL P true none (av p) [] [je ([],p)]) (by kernel_rfl) (ay (H1:=H) (aK:=iL P b x (av p) ((po [] p).map je).reverse []) ?_ ?_))
 ·have e:EX P (CN P (m+12)) (MN P (m+12)) (a9 P 155 1) (iL P true none (av p) [] [je ([],p)]) H=fE (lL P (CN P (m+12)) (MN P (m+12))) (jP P (CN P (m+12)) (MN P (m+12))) 1000 (iL P true none (av p) [] ([]++ [je ([],p)])) H:=by kernel_rfl
  exact aa e (aa h (aa XH rfl))
 ·have e: ∀l,br P (CN P (m+12)) (MN P (m+12)) [a9 P 155 2,a9 P 155 3] (iL P b x (av p) l []) H=some (.ok (.ret (.list l.reverse),⟨d2 P 155,NC x (av p),[(ag "found",.list l.reverse),(ag "waiting",.list [])]⟩),H):=by
   intro l;cases b<;>cases x<;>kernel_rfl
  rw [e,List.reverse_reverse]
noncomputable def LZ (n:String)(l r:AV):AV:= .inst 258 [ag "name",ag "left",ag "right",ag "needs"] [.str (ag n),l,r,.tup []]
noncomputable def ba:AV:= .inst 232 [ag "rules",ag "told"] [.dict [ag "r",ag "s"] [LZ "r" (.tup [a7 "f",.tup [a7 "?x"]]) (.tup [a7 "g",.tup [a7 "?x"],.tup [a7 "a"]]),LZ "s" (.tup [a7 "g",.tup [a7 "?x"],.tup [a7 "?y"]]) (.tup [a7 "g",.tup [a7 "?y"],.tup [a7 "?x"]])],
 .dict [ag "t1",ag "t2",ag "t3"] [.tup [tA .a,tA .b],.tup [tA .b,tA (.f .a)],.tup [tA (.f .a),tA .a]]]
noncomputable def UN:List Nat:= [0,1,2,3,4,5,6,7,8,9,10,11,12,13,14,15,16,17,18,19,20,21,22,23,24,25,26,31]
noncomputable def JF (kf:AV)(H:HS):Option Sd->Rs AV
 |some s=>some (.ok (i_ s),H)|none=>some (.error kf,H)
section
variable (P:qq9)(n:Nat)(H:HS)
theorem TL (kf:AV):UN.map (λi=>CN P (n+12) 217 [ba,cX i,kf,.list []] H)=UN.map (λi=>JF kf H (jA i)):=by kernel_rfl
theorem f_ (a b c d e f g:Int): [27,28,29,30].map (λi=>[[],[a],[a,b],[a,b,c],[a,b,c,d],[a,b,c,d,e],[a,b,c,d,e,f],[a,b,c,d,e,f,g]].map λw=>CN P (n+12) 217 [ba,cX i,pv w,.list []] H)
  = [27,28,29,30].map (λi=>[[],[a],[a,b],[a,b,c],[a,b,c,d],[a,b,c,d,e],[a,b,c,d,e,f],[a,b,c,d,e,f,g]].map λw=>JF (pv w) H (jA i)):=by kernel_rfl
end
theorem TM (hi:i<32)(hw:w.length<=7):CN P (n+12) 217 [ba,cX i,pv w,.list []] H=JF (pv w) H (jA i):=by
 by_cases h:i∈UN
 ·exact List.map_inj_left.mp (TL P n H (pv w)) i h
 ·have hb:i∈ [27,28,29,30]:=by
   have: ∀j<32,j∉UN->j∈ [27,28,29,30]:=by decide
   exact this i hi h
  match w,hw with
  | [],_=>exact List.map_inj_left.mp (List.map_inj_left.mp (f_ P n H 0 0 0 0 0 0 0) i hb) [] (by exact .head _)| [a],_=>exact List.map_inj_left.mp (List.map_inj_left.mp (f_ P n H a 0 0 0 0 0 0) i hb) [a] (by exact .tail _ (.head _))| [a,b],_=>exact List.map_inj_left.mp (List.map_inj_left.mp (f_ P n H a b 0 0 0 0 0) i hb) [a,b] (by exact .tail _ (.tail _ (.head _)))| [a,b,c],_=>exact List.map_inj_left.mp (List.map_inj_left.mp (f_ P n H a b c 0 0 0 0) i hb) [a,b,c] (by simp)| [a,b,c,d],_=>exact List.map_inj_left.mp (List.map_inj_left.mp (f_ P n H a b c d 0 0 0) i hb) [a,b,c,d] (by simp)| [a,b,c,d,e],_=>exact List.map_inj_left.mp (List.map_inj_left.mp (f_ P n H a b c d e 0 0) i hb) [a,b,c,d,e] (by simp)| [a,b,c,d,e,f],_=>exact List.map_inj_left.mp (List.map_inj_left.mp (f_ P n H a b c d e f 0) i hb) [a,b,c,d,e,f] (by simp)| [a,b,c,d,e,f,g],_=>exact List.map_inj_left.mp (List.map_inj_left.mp (f_ P n H a b c d e f g) i hb) [a,b,c,d,e,f,g] (by simp)|_::_::_::_::_::_::_::_::r,h=>exact absurd h (by simp)
theorem JG:CN P (n+12) 217 [ba,.tup [a7 "turn",p],pv w,.list [.tup [s1,s2]]] H=some (.ok (.tup [s2,s1]),H):=by kernel_rfl
theorem NF:CN P (n+12) 217 [ba,.tup [a7 "under",a7 "f",.tup [p]],pv w,.list [.tup [s1,s2]]] H=some (.ok (.tup [.tup [a7 "f",s1],.tup [a7 "f",s2]]),H):=by kernel_rfl
theorem NG:CN P (n+12) 217 [ba,.tup [a7 "under",a7 "g",.tup [p,q]],pv w,.list [.tup [s1,s2],.tup [u1,u2]]] H=some (.ok (.tup [.tup [a7 "g",s1,u1],.tup [a7 "g",s2,u2]]),H):=by kernel_rfl
noncomputable def ga (p:AV)(w:List Int)(ss:AV):List (Str×AV):= [(ag "kind",a7 "join"),(ag "sides",ss),(ag "path",pv w),(ag "paper",p),(ag "self",ba)]
set_option tactic.hygienic true in
theorem JH {p q s1 u2:AV}(hw:w.length<=7)(h:gR s2 u1=some b):CN P (n+12) 217 [ba,.tup [a7 "join",p,q],pv w,.list [.tup [s1,s2],.tup [u1,u2]]] H=(if b then some (.ok (.tup [s1,u2]),H) else some (.error (pv w),H)):=by
 have e0:bd P 217= [a9 P 217 0,a9 P 217 1,a9 P 217 2,a9 P 217 3,a9 P 217 4,a9 P 217 5,a9 P 217 6]:=by kernel_rfl
 have e1:CN P (n+11+1) 217 [ba,.tup [a7 "join",p,q],pv w,.list [.tup [s1,s2],.tup [u1,u2]]] H=M.bind (br P (CN P (n+11)) (MN P (n+11)) (bd P 217) ⟨d2 P 217,[(ag "sides",.list [.tup [s1,s2],.tup [u1,u2]]),(ag "path",pv w),(ag "paper",.tup [a7 "join",p,q]),(ag "self",ba)],[]⟩) fY H:=by kernel_rfl
 have e2: ∀R,br P (CN P (n+11)) (MN P (n+11)) [a9 P 217 5,a9 P 217 6] ⟨d2 P 217,ga (.tup [a7 "join",p,q]) w (.list [.tup [s1,s2],.tup [u1,u2]]),[]⟩ H=R->br P (CN P (n+11)) (MN P (n+11)) (bd P 217) ⟨d2 P 217,[(ag "sides",.list [.tup [s1,s2],.tup [u1,u2]]),(ag "path",pv w),(ag "paper",.tup [a7 "join",p,q]),(ag "self",ba)],[]⟩ H=R:=by
  intro R hR;exact aa e0 (ay (H1:=H) (aK:=⟨d2 P 217,ga (.tup [a7 "join",p,q]) w (.list [.tup [s1,s2],.tup [u1,u2]]),[]⟩) (by kernel_rfl) (ay (H1:=H) (aK:=⟨d2 P 217,ga (.tup [a7 "join",p,q]) w (.list [.tup [s1,s2],.tup [u1,u2]]),[]⟩) (by kernel_rfl) (ay (H1:=H) (aK:=⟨d2 P 217,ga (.tup [a7 "join",p,q]) w (.list [.tup [s1,s2],.tup [u1,u2]]),[]⟩) (by kernel_rfl) (ay (H1:=H) (aK:=⟨d2 P 217,ga (.tup [a7 "join",p,q]) w (.list [.tup [s1,s2],.tup [u1,u2]]),[]⟩) (by kernel_rfl) (ay (H1:=H) (aK:=⟨d2 P 217,ga (.tup [a7 "join",p,q]) w (.list [.tup [s1,s2],.tup [u1,u2]]),[]⟩) (by kernel_rfl) hR)))))
 have e3:EX P (CN P (n+11)) (MN P (n+11)) (a9 P 217 5) ⟨d2 P 217,ga (.tup [a7 "join",p,q]) w (.list [.tup [s1,s2],.tup [u1,u2]]),[]⟩ H
   =M.bind (M.pure true) (λc=>if c then M.bind (M.bind (lift ((gR s2 u1).map (!·))) λc=>if c then br P (CN P (n+11)) (MN P (n+11)) (bS ((bS (a9 P 217 5)).headD (a9 P 217 0))) ⟨d2 P 217,ga (.tup [a7 "join",p,q]) w (.list [.tup [s1,s2],.tup [u1,u2]]),[]⟩ else M.pure (.next,⟨d2 P 217,ga (.tup [a7 "join",p,q]) w (.list [.tup [s1,s2],.tup [u1,u2]]),[]⟩))
     (λx=>match x with|(.next,a6)=>br P (CN P (n+11)) (MN P (n+11)) ((bS (a9 P 217 5)).tail) a6|(.ret v,a6)=>M.pure (.ret v,a6)) else M.pure (.next,⟨d2 P 217,ga (.tup [a7 "join",p,q]) w (.list [.tup [s1,s2],.tup [u1,u2]]),[]⟩)) H:=by kernel_rfl
 refine(?_:CN P (n+11+1) _ _ _=_)
 induction b using Bool.casesOn with
 |true=>
  refine aM (n:=n+11) (f:=217) (aK:=⟨d2 P 217,ga (.tup [a7 "join",p,q]) w (.list [.tup [s1,s2],.tup [u1,u2]]),[]⟩) e1 (e2 _ (b8 ?_));refine aa e3 (aa h ?_);kernel_rfl
 |false=>
  refine kA (n:=n+11) (f:=217) e1 (e2 _ (ik ?_));refine aa e3 (aa h ?_);clear e0 e1 e2 e3 h;rcases w with _|⟨a,_|⟨b,_|⟨c,_|⟨d,_|⟨e,_|⟨f,_|⟨g,_|⟨x,r⟩⟩⟩⟩⟩⟩⟩⟩<;>first|(exfalso;simp at hw;done)|kernel_rfl
theorem L_ {m:Nat}:CN P (m+1) 162 [p,pv w] H=M.bind (br P (CN P m) (MN P m) (bd P 162) ⟨d2 P 162,[(ag "path",pv w),(ag "paper",p)],[]⟩) fY H:=by kernel_rfl
theorem Ho {p:Pa}(ho:ok p)(hw:w.length<=7):CN P (n+13) 162 [av p,pv w] H=(if cz p then some (.ok .none,H) else some (.error (pv w),H)):=by
 have e0:bd P 162= [a9 P 162 0]:=by kernel_rfl
 have e:EX P (CN P (n+12)) (MN P (n+12)) (a9 P 162 0) ⟨d2 P 162,[(ag "path",pv w),(ag "paper",av p)],[]⟩ H=EX P (λ_ _ _=>CN P (n+12) 150 [av p] H) (MN P (n+12)) (a9 P 162 0) ⟨d2 P 162,[(ag "path",pv w),(ag "paper",av p)],[]⟩ H:=by
  generalize CN P (n+12)=cl;generalize MN P (n+12)=mk;generalize av p=pp;kernel_rfl
 replace e:=(Hi ho)▸e;cases hf:cz p with
 |true=>
  replace e:=hf▸e;refine(?_:CN P (n+12+1) _ _ _=_);refine aa L_ (aa e0 ?_);refine(?_:M.bind (M.bind (EX P _ _ _ _) _) _ H=_);refine mb (H1:=H) (mb (H1:=H) (e.trans (by kernel_rfl:_=some (Except.ok (Fl.next,(⟨d2 P 162,[(ag "path",pv w),(ag "paper",av p)],[]⟩:Loc)),H))) rfl) rfl
 |false=>
  replace e:=hf▸e;refine kA L_ (aa e0 (ik (e.trans ?_)));clear e;rcases w with _|⟨a,_|⟨b,_|⟨c,_|⟨d,_|⟨e,_|⟨f,_|⟨g,_|⟨x,r⟩⟩⟩⟩⟩⟩⟩⟩<;>first|(exfalso;simp at hw;done)|kernel_rfl
noncomputable def ja (s:Stmt):Expr:=pS 0 s
noncomputable def TN (e:Expr):Expr:=pE 0 e
noncomputable def TO (e:Expr):Expr:=pE 1 e
noncomputable def Hp (e:Expr):List Expr:=(pJ e).tail
noncomputable def Dv:List Expr->Expr
 | []=>E0| [e]=>e|_::r=>Dv r
theorem e_: ∀w:List Int,d4 (pv w)=some w
 | []=>rfl|a::r=>by
  have h:=e_ r;refine(?_:(cY (r.map .int)).map (a:: ·)=_);refine aa (show cY (r.map .int)=some r from h) ?_;rfl
theorem nX (p:List Int)(v:AV): ∀l,List.lookup p (c_ p v l)=some v
 | []=>List.lookup_cons_self|(q,u)::r=>by
  refine aa eQ ?_;by_cases h:q=p
  ·subst h;exact aa (if_pos rfl) (aa List.lookup_cons_self rfl)
  ·refine aa (if_neg h) ?_;have: ¬p=q:=λe=>h e.symm;exact aa um (aa (beq_eq_false_iff_ne.mpr this) (nX p v r))
theorem lM {p q:List Int}(v:AV)(h:q≠p): ∀l,List.lookup q (c_ p v l)=List.lookup q l
 | []=>by refine(?_:List.lookup q [(p,v)]=none);refine aa um (aa (beq_eq_false_iff_ne.mpr h) ?_);rfl
 |(a,u)::r=>by
  refine aa eQ ?_;by_cases e:a=p
  ·subst e;refine aa (if_pos rfl) (aa um ?_);exact aa um (aa (beq_eq_false_iff_ne.mpr h) rfl)
  ·refine aa (if_neg e) (aa um ?_);refine aa um ?_;cases q==a with
   |true=>rfl|false=>exact lM v h r
theorem jQ (p:List Int)(v:AV): ∀l,(c_ p v l).length<=l.length+1
 | []=>ur _|(a,u)::r=>by
  refine aa eQ ?_;by_cases e:a=p
  ·exact aa (if_pos e) (uF _)
  ·exact aa (if_neg e) (uh (jQ p v r))
noncomputable def XI (x:Option (AV×AV))(p:AV):List (Str×AV):=match x with
 |some (w,o)=>[(ag "one",o),(ag "path",w),(ag "paper",p),(ag "self",ba)]
 |none=>[(ag "paper",p),(ag "self",ba)]
noncomputable def sL (P:qq9)(x:Option (AV×AV))(p:AV)(kd:List (List Int×AV)):Loc:=⟨d2 P 222,XI x p,[(ag "known",.kd kd)]⟩
noncomputable abbrev sC (P:qq9):Expr:=Dv (Hp (ja (bC P 222 1 1)))
variable {kd:List (List Int×AV)}
theorem FW:aR (pK (a9 P 222 1)) (.tup [pv w,one]) (sL P x p kd) H=some (.ok (sL P (some (pv w,one)) p kd),H):=by
 cases x<;>kernel_rfl
theorem ZC (h:cl 162 [one,pv w] H=R):EX P cl mk (bC P 222 1 0) (sL P (some (pv w,one)) p kd) H=EX P (λ_ _ _=>R) mk (bC P 222 1 0) (sL P (some (pv w,one)) p kd) H:=by
 subst h;kernel_rfl
theorem Hq (h:cl 162 [one,pv w] H=some (.ok .none,H)):EX P cl mk (bC P 222 1 0) (sL P (some (pv w,one)) p kd) H=some (.ok (.next,sL P (some (pv w,one)) p kd),H):=by
 refine aa (ZC h) ?_;kernel_rfl
theorem JI {e:AV}(h:cl 162 [one,pv w] H=some (.error e,H)):EX P cl mk (bC P 222 1 0) (sL P (some (pv w,one)) p kd) H=some (.error e,H):=by
 refine aa (ZC h) ?_;kernel_rfl
theorem TP {l:List AV}(hw:w.length<=900)(hp:cl 131 [one] H=some (.ok (.tup l),H))
  (hl:(l= []/\vs= [])\/(∃u a,l= [u]/\vs= [a]/\kd.lookup (w++ [0])=some a)\/ ∃u v a b,l= [u,v]/\vs= [a,b]/\kd.lookup (w++ [0])=some a/\kd.lookup (w++ [1])=some b):
  ev (CC P) cl mk 3 (sC P) (sL P (some (pv w,one)) p kd) H=some (.ok (.list vs),H):=by
 have e:ev (CC P) cl mk 3 (sC P) (sL P (some (pv w,one)) p kd)=M.bind (yG (CC P) cl mk 3 (cT (sC P)) (cI (sC P)) (sL P (some (pv w,one)) p kd) (ev (CC P) cl mk 3 (cI (sC P)) (sL P (some (pv w,one)) p kd))) (fZ P cl mk (sC P) (sL P (some (pv w,one)) p kd)):=by kernel_rfl
 have e2:yG (CC P) cl mk 3 (cT (sC P)) (cI (sC P)) (sL P (some (pv w,one)) p kd) (ev (CC P) cl mk 3 (cI (sC P)) (sL P (some (pv w,one)) p kd)) H=yG (CC P) (λ_ _ _=>cl 131 [one] H) mk 3 (cT (sC P)) (cI (sC P)) (sL P (some (pv w,one)) p kd) (ev (CC P) (λ_ _ _=>cl 131 [one] H) mk 3 (cI (sC P)) (sL P (some (pv w,one)) p kd)) H:=by kernel_rfl
 have el: ∀k:Int,∀a,kd.lookup (w++ [k])=some a->Du P cl mk (sC P) (sL P (some (pv w,one)) p kd) (.int k) H=some (.ok a,H):=by
  intro k a h;have e3:Du P cl mk (sC P) (sL P (some (pv w,one)) p kd) (.int k) H=i9 (M.bind (lift (binop .Add (pv w) (.tup [.int k]))) λiv=>lift ((d4 iv).bind λp=>List.lookup p kd)) H:=by kernel_rfl
  refine aa e3 (pO (mb (bF (lJ hw)) (bF ?_)));rw [e_];exact h
 refine aa e ?_;rcases hl with⟨rfl,rfl⟩|⟨u,a,rfl,rfl,ha⟩|⟨u,v,a,b,rfl,rfl,ha,hb⟩
 ·refine mb (H1:=H) (a:= []) (by refine aa e2 (aa hp ?_);kernel_rfl) ?_;kernel_rfl
 ·refine mb (H1:=H) (a:= [aE 0]) (by refine aa e2 (aa hp ?_);kernel_rfl) ?_;exact mb (H1:=H) (cU (H1:=H) (H2:=H) (by kernel_rfl) (el 0 a ha) rfl) rfl
 ·refine mb (H1:=H) (a:= [aE 0,aE 1]) (by refine aa e2 (aa hp ?_);kernel_rfl) ?_;exact mb (H1:=H) (cU (H1:=H) (H2:=H) (by kernel_rfl) (el 0 a ha) (cU (H1:=H) (H2:=H) (by kernel_rfl) (el 1 b hb) rfl)) rfl
theorem RV (h:ev (CC P) cl mk 3 (sC P) (sL P (some (pv w,one)) p kd) H=some (.ok (.list vs),H))(h2:cl 217 [ba,one,pv w,.list vs] H=R):
  ev (CC P) cl mk 3 (ja (bC P 222 1 1)) (sL P (some (pv w,one)) p kd) H=R:=by
 have e:ev (CC P) cl mk 3 (ja (bC P 222 1 1)) (sL P (some (pv w,one)) p kd) H=M.bind (M.bind (M.bind (M.bind (ev (CC P) cl mk 3 (sC P) (sL P (some (pv w,one)) p kd)) λv=>M.pure [v]) λr=>M.pure (pv w::r)) λr=>M.pure (one::r)) (λr=>cl 217 (ba::r)) H:=by kernel_rfl
 exact aa e (mb (mb (mb (mb h rfl) rfl) rfl) h2)
theorem NH (hk:kd.length<1000)(h:ev (CC P) cl mk 3 (ja (bC P 222 1 1)) (sL P (some (pv w,one)) p kd) H=some (.ok v,H)):
  EX P cl mk (bC P 222 1 1) (sL P (some (pv w,one)) p kd) H=some (.ok (.next,sL P (some (pv w,one)) p (c_ w v kd)),H):=by
 have e:EX P cl mk (bC P 222 1 1) (sL P (some (pv w,one)) p kd) H=M.bind (M.bind (ev (CC P) cl mk 3 (ja (bC P 222 1 1)) (sL P (some (pv w,one)) p kd)) λv=>(match d4 (pv w) with|some q=>if kd.length<1000 then cw (ag "known") (.kd (c_ q v kd)) (sL P (some (pv w,one)) p kd) else stuck|none=>stuck)) next H:=by kernel_rfl
 refine aa e (mb (mb h ?_) rfl);rw [e_];dsimp only;refine aa (if_pos hk) ?_;kernel_rfl
theorem JJ (h:ev (CC P) cl mk 3 (ja (bC P 222 1 1)) (sL P (some (pv w,one)) p kd) H=some (.error v,H)):
  EX P cl mk (bC P 222 1 1) (sL P (some (pv w,one)) p kd) H=some (.error v,H):=by
 have e:EX P cl mk (bC P 222 1 1) (sL P (some (pv w,one)) p kd) H=M.bind (M.bind (ev (CC P) cl mk 3 (ja (bC P 222 1 1)) (sL P (some (pv w,one)) p kd)) λv=>(match d4 (pv w) with|some q=>if kd.length<1000 then cw (ag "known") (.kd (c_ q v kd)) (sL P (some (pv w,one)) p kd) else stuck|none=>stuck)) next H:=by kernel_rfl
 exact aa e (me (me h))
theorem NI {body:AV->Loc->M (Fl×Loc)}(h:body v ae H=some (.ok (.next,aK),H)):bU body (v::r) ae H=bU body r aK H:=mb h rfl
theorem JK {body:AV->Loc->M (Fl×Loc)}{v e:AV}(h:body v ae H=some (.error e,H)):bU body (v::r) ae H=some (.error e,H):=me h
theorem B_ {w u:List Int}(k:Int)(h: ¬w<+:u): ¬(w++ [k])<+:u:=λq=>h ((List.prefix_append w [k]).trans q)
theorem NJ: ¬(w++ [1])<+:(w++ [0]):=λq=>by
 have:=q.eq_of_length (by simp);have:=List.append_cancel_left this;cases this
theorem Hr {w u:List Int}(v:AV)(kd:List (List Int×AV))(h: ¬w<+:u):List.lookup u (c_ w v kd)=List.lookup u kd:=lM v (λe=>h (by exact aa e (List.prefix_refl _))) kd
variable {ξ:Type}{body:AV->Loc->M (Fl×Loc)}{L:ξ->List (List Int×AV)->Loc}{t:AV}
noncomputable def Out (body:AV->Loc->M (Fl×Loc))(L:ξ->List (List Int×AV)->Loc)(H:HS)(w:List Int)(t:AV)(x:ξ)(kd:List (List Int×AV)):Except (List Int) (AV->Prop)->Prop
 | .error e=>e= []/\body t (L x kd) H=some (.error (pv w),H)| .ok G=>∃x' v,G v/\body t (L x kd) H=some (.ok (.next,L x' (c_ w v kd)),H)
noncomputable def nY (body:AV->Loc->M (Fl×Loc))(L:ξ->List (List Int×AV)->Loc)(H:HS)(w:List Int)(n:Nat)(l rest:List AV)(x:ξ)(kd:List (List Int×AV)):Except (List Int) (AV->Prop)->Prop
 | .error e=>bU body (l++rest) (L x kd) H=some (.error (pv (w++e)),H)| .ok G=>∃x' AC v,bU body (l++rest) (L x kd) H=bU body rest (L x' AC) H/\AC.lookup w=some v/\G v/\(∀u,¬w<+:u->AC.lookup u=kd.lookup u)/\AC.length<=kd.length+n
def SW (body:AV->Loc->M (Fl×Loc))(L:ξ->List (List Int×AV)->Loc)(H:HS)(w:List Int)(n:Nat)(l:List AV)(r:Except (List Int) (AV->Prop)):Prop:= ∀(rest:List AV) (x:ξ) (kd:List (List Int×AV)),kd.length+n<=1000->nY body L H w n l rest x kd r
theorem pQ {r:Except (List Int) (AV->Prop)}{x:ξ}(h:Out body L H w t x kd r)(rest:List AV):nY body L H w 1 [t] rest x kd r:=by
 induction r using Except.casesOn with
 |error e=>
  refine ai h ?_;clear h;intro az h;subst az;refine(?_:_=some (Except.error (pv (w++ [])),H));rw [uN];exact JK h
 |ok G=>
  exact aY h λx' v g e=>(j2 x' _ v (NI e) (nX _ _ _) g (λu hu=>Hr _ _ hu) (jQ _ _ _))
theorem gx {r:Except (List Int) (AV->Prop)}(h: ∀x kd,kd.length<1000->Out body L H w t x kd r):SW body L H w 1 [t] r:=λrest x kd hl=>pQ (h x kd (C4 hl)) rest
theorem gb {l l':List AV}{e:List Int}(h:SW body L H (w++ [k]) n l (.error e))(n':Nat):SW body L H w (n+n') (l++l') (.error (k::e)):=λrest x kd hl=>by
 have:=h (l'++rest) x kd (P8 hl);refine(?_:bU _ (l++l'++rest) _ _=_);rw [up];exact this.trans (by rw [up];rfl)
theorem pR {l:List AV}{r:Except (List Int) (AV->Prop)}(h:SW body L H (w++ [0]) n l (.ok G))(h2: ∀v x kd,G v->kd.length<1000->kd.lookup (w++ [0])=some v->Out body L H w t x kd r):SW body L H w (n+1) (l++ [t]) r:=λrest x kd hl=>by
 refine cG (h ([t]++rest) x kd (P9 hl)) λx' AC v e1 k1 g1 u1 l1=>?_;have a:=pQ (h2 v x' AC g1 (PA hl l1) k1) rest;delta nY;rw [up]
 induction r using Except.casesOn with
 |error e=>exact e1.trans a|ok G'=>
  exact cG a λx2 XJ v2 e2 k2 g2 u2 l2=>(j2 x2 XJ v2 (e1.trans e2) k2 g2 (λu hu=>(u2 u hu).trans (u1 u (B_ 0 hu))) (PB l1 l2))
theorem kC {n n2:Nat}{l l2 l':List AV}{e:List Int}(h:SW body L H (w++ [0]) n l (.ok G))(h2:SW body L H (w++ [1]) n2 l2 (.error e))(n':Nat):SW body L H w (n+n2+n') (l++l2++l') (.error (1::e)):=λrest x kd hl=>by
 refine cG (h (l2++(l'++rest)) x kd (PC hl)) λx' AC v e1 be dX D5 l1=>?_;have:=h2 (l'++rest) x' AC (PD hl l1);refine(?_:bU _ (l++l2++l'++rest) _ _=_);rw [up,up];exact e1.trans (this.trans (by rw [up];rfl))
theorem pT {n n2:Nat}{l l2:List AV}{r:Except (List Int) (AV->Prop)}{G G2:AV->Prop}(h:SW body L H (w++ [0]) n l (.ok G))(hh:SW body L H (w++ [1]) n2 l2 (.ok G2))
  (h2: ∀v v2 x kd,G v->G2 v2->kd.length<1000->kd.lookup (w++ [0])=some v->kd.lookup (w++ [1])=some v2->Out body L H w t x kd r):SW body L H w (n+n2+1) (l++l2++ [t]) r:=λrest x kd hl=>by
 refine cG (h (l2++([t]++rest)) x kd (PH hl)) λx' AC v e1 k1 g1 u1 l1=> cG (hh ([t]++rest) x' AC (PJ hl l1)) λx3 kd3 v3 e3 k3 g3 u3 l3=>?_;have a:=pQ (h2 v v3 x3 kd3 g1 g3 (PK hl l1 l3) ((u3 _ NJ).trans k1) k3) rest;delta nY;rw [up,up]
 induction r using Except.casesOn with
 |error e=>exact e1.trans (e3.trans a)|ok G'=>
  exact cG a λx2 XJ v2 e2 k2 g2 u2 l2=>(j2 x2 XJ v2 (e1.trans (e3.trans e2)) k2 g2 (λu hu=>(u2 u hu).trans ((u3 u (B_ 1 hu)).trans (u1 u (B_ 0 hu)))) (PL l1 l3 l2))
variable {m:Nat}
noncomputable def jS (P:qq9)(N:Nat):AV->Loc->M (Fl×Loc):=bQ P (CN P N) (MN P N) (a9 P 222 1)
theorem Hs:bS (a9 P 222 1)= [bC P 222 1 0,bC P 222 1 1]:=by kernel_rfl
def pU (kd:List (List Int×AV))(w:List Int)(l vs:List AV):Prop:=
 (l= []/\vs= [])\/(∃u a,l= [u]/\vs= [a]/\kd.lookup (w++ [0])=some a)\/ ∃u v a b,l= [u,v]/\vs= [a,b]/\kd.lookup (w++ [0])=some a/\kd.lookup (w++ [1])=some b
noncomputable def TQ:Option Sd->Except (List Int) (AV->Prop)
 |some s=>.ok λv=>v=i_ s
 |none=>.error []
theorem ip {p:Pa}(ho:ok p)(hw:w.length<=7)(hf:cz p=false):Out (jS P (m+13)) (λx kd=>sL P x q kd) H w (je (w,p)) x kd (.error []):=by
 refine⟨rfl,?_⟩;unfold jS bQ;exact mb FW (aa Hs (ik (JI (by refine aa (Ho ho hw) (aa hf ?_);rfl))))
theorem nZ {p:Pa}{o:Option Sd}(ho:ok p)(hw:w.length<=7)(hl:kd.length<1000)(hf:cz p=true)(hk:pU kd w ((ij p).map av) vs)(h:CN P (m+13) 217 [ba,av p,pv w,.list vs] H=JF (pv w) H o):
  Out (jS P (m+13)) (λx kd=>sL P x q kd) H w (je (w,p)) x kd (TQ o):=by
 have h1:=TP (P:=P) (cl:=CN P (m+13)) (mk:=MN P (m+13)) (H:=H) (p:=q) (kd:=kd) (ub hw (by exact uj _ _)) (BZ (n:=m+1) hf) hk
 induction o using Option.casesOn with
 |none=>
  refine⟨rfl,?_⟩;unfold jS bQ;exact mb FW (aa Hs (ay (Hq (by refine aa (Ho ho hw) (aa hf ?_);rfl)) (ik (JJ (RV h1 h)))))
 |some s=>
  refine(ei (some (pv w,av p)) (i_ s) rfl ?_);unfold jS bQ;exact mb FW (aa Hs (ay (Hq (by refine aa (Ho ho hw) (aa hf ?_);rfl)) (ay (NH hl (RV h1 h)) rfl)))
noncomputable def toG (r:Except (List Int) Sd):Except (List Int) (AV->Prop):=match r with
 | .error e=>.error e| .ok s=>.ok λv=>v=i_ s
theorem iq: ∀(p:Pa) (w:List Int),ok p->dp p<=50->w.length+dp p<=7->SW (jS P (m+13)) (λx kd=>sL P x q kd) H w (sz p) ((po w p).map je) (toG (J p))
 | .at_ i,w,ho,hd,hw=>by
  dsimp only [dp] at hw;refine gx λx kd hl=>?_;by_cases hi:i<32
  ·have h:=nZ (m:=m) (x:=x) (q:=q) (p:= .at_ i) ho (fD hw) hl (decide_eq_true hi) (.inl ⟨rfl,rfl⟩) (TM (P:=P) (n:=m+1) (H:=H) (w:=w) hi (fD hw));refine(?_:Out _ _ _ _ _ _ _ (toG (match jA i with|some s=>.ok s|none=>.error [])));cases hj:jA i with
   |none=>replace h:=hj▸h;exact h|some s=>replace h:=hj▸h;exact h
  ·have hj:jA i=none:=by
    delta jA;have:i≠31:=by exact PM hi
    refine aa (if_neg (PN hi)) (aa (if_neg (PO hi)) ?_);refine aa (if_neg (PP hi)) (aa (if_neg (PQ hi)) ?_);exact aa (if_neg (PR hi)) (aa (if_neg (PS hi)) (aa (if_neg this) rfl))
   refine(?_:Out _ _ _ _ _ _ _ (toG (match jA i with|some s=>.ok s|none=>.error [])));exact aa hj (ip (p:= .at_ i) ho (fD hw) (decide_eq_false hi))
 | .turn p,w,ho,hd,hw=>by
  simp only [dp] at hd hw;have h1:=iq p (w++ [0]) ho (Cw hw) (by simp;exact gH hw);refine(?_:SW _ _ _ _ _ _ (toG (match J p with| .error e=>.error (0::e)| .ok s=>.ok (s.2,s.1))));cases hp:J p with
  |error e=>replace h1:=hp▸h1;simp only [po,uA];exact gb h1 1|ok s=>
   replace h1:=hp▸h1;simp only [po,uA];exact pR h1 λv x kd g hl hk=>by
    subst g;exact nZ (p:= .turn p) (o:=some (s.2,s.1)) ho (mN hw) hl rfl (.inr (.inl (cq _ _ rfl rfl hk))) (JG (n:=m+1))
 | .unF p,w,ho,hd,hw=>by
  simp only [dp] at hd hw;have h1:=iq p (w++ [0]) ho (Cw hw) (by simp;exact gH hw);refine(?_:SW _ _ _ _ _ _ (toG (match J p with| .error e=>.error (0::e)| .ok s=>.ok (.f s.1,.f s.2))));cases hp:J p with
  |error e=>replace h1:=hp▸h1;simp only [po,uA];exact gb h1 1|ok s=>
   replace h1:=hp▸h1;simp only [po,uA];exact pR h1 λv x kd g hl hk=>by
    subst g;exact nZ (p:= .unF p) (o:=some (.f s.1,.f s.2)) ho (mN hw) hl rfl (.inr (.inl (cq _ _ rfl rfl hk))) (NF (n:=m+1))
 | .join p r,w,ho,hd,hw=>by
  simp only [dp] at hd hw;have h1:=iq p (w++ [0]) ho.1 (C0 hw) (by simp;exact gI hw);have h2:=iq r (w++ [1]) ho.2 (C2 hw) (by simp;exact gK hw);refine(?_:SW _ _ _ _ _ _ (toG (match J p with| .error e=>.error (0::e)| .ok s=>match J r with| .error e=>.error (1::e)| .ok t=>if s.2=t.1 then .ok (s.1,t.2) else .error [])));cases hp:J p with
  |error e=>replace h1:=hp▸h1;simp only [po,uA];rewrite [up];exact aa (show sz (.join p r)=sz p+(sz r+1) from uV ..) (gb h1 _)|ok s=>
   replace h1:=hp▸h1;cases hr:J r with
   |error e=>replace h2:=hr▸h2;simp only [po,uA];exact kC h1 h2 1|ok t=>
    replace h2:=hr▸h2;simp only [po,uA];refine pT h1 h2 λv v2 x kd g g2 hl hk zr=>?_;subst g;subst g2;have b1:=il hp;have b2:=il hr;have h:=JH (P:=P) (n:=m+1) (H:=H) (p:=av p) (q:=av r) (s1:=tA s.1) (u2:=tA t.2) (w:=w) (j3 hw) (Ae (s:=s.2) (t:=t.1) (Km hw b1) (Kn hw b2));by_cases z:s.2=t.1
    ·replace h:=(decide_eq_true z)▸h;exact aa (if_pos z) (nZ (p:= .join p r) (o:=some (s.1,t.2)) ho (j3 hw) hl rfl (.inr (.inr (eN _ _ _ _ rfl rfl hk zr))) h)
    ·replace h:=(decide_eq_false z)▸h;exact aa (if_neg z) (nZ (p:= .join p r) (o:=none) ho (j3 hw) hl rfl (.inr (.inr (eN _ _ _ _ rfl rfl hk zr))) h)
 | .unG p r,w,ho,hd,hw=>by
  simp only [dp] at hd hw;have h1:=iq p (w++ [0]) ho.1 (C0 hw) (by simp;exact gI hw);have h2:=iq r (w++ [1]) ho.2 (C2 hw) (by simp;exact gK hw);refine(?_:SW _ _ _ _ _ _ (toG (match J p with| .error e=>.error (0::e)| .ok s=>match J r with| .error e=>.error (1::e)| .ok t=>.ok (.g s.1 t.1,.g s.2 t.2))));cases hp:J p with
  |error e=>replace h1:=hp▸h1;simp only [po,uA];rewrite [up];exact aa (show sz (.unG p r)=sz p+(sz r+1) from uV ..) (gb h1 _)|ok s=>
   replace h1:=hp▸h1;cases hr:J r with
   |error e=>replace h2:=hr▸h2;simp only [po,uA];exact kC h1 h2 1|ok t=>
    replace h2:=hr▸h2;simp only [po,uA];refine pT h1 h2 λv v2 x kd g g2 hl hk zr=>?_;subst g;subst g2;exact nZ (p:= .unG p r) (o:=some (.g s.1 t.1,.g s.2 t.2)) ho (j3 hw) hl rfl (.inr (.inr (eN _ _ _ _ rfl rfl hk zr))) (NG (n:=m+1))
 | .join1 p,w,ho,hd,hw=>by
  dsimp only [dp] at hw;exact gx λx kd hl=>ip (p:= .join1 p) ho (fD hw) rfl
 | .unQ p,w,ho,hd,hw=>by
  dsimp only [dp] at hw;exact gx λx kd hl=>ip (p:= .unQ p) ho (fD hw) rfl
noncomputable def sR (H:HS):Except (List Int) Sd->Rs AV
 | .ok s=>some (.ok (i_ s),H)| .error e=>some (.error (pv e),H)
theorem Ma:bd P 222= [a9 P 222 0,a9 P 222 1,a9 P 222 2]:=by kernel_rfl
theorem Mb:CN P (m+1) 222 [ba,p] H=M.bind (br P (CN P m) (MN P m) (bd P 222) ⟨d2 P 222,[(ag "paper",p),(ag "self",ba)],[]⟩) fY H:=by kernel_rfl
theorem lN {p:Pa}(ho:ok p)(hd:dp p<=7)(hs:sz p<=900):CN P (m+14) 222 [ba,av p] H=sR H (J p):=by
 have S:=iq (P:=P) (H:=H) (m:=m) (q:=av p) p [] ho (PT hd) (by simpa using hd);have e0:EX P (CN P (m+13)) (MN P (m+13)) (a9 P 222 0) ⟨d2 P 222,[(ag "paper",av p),(ag "self",ba)],[]⟩ H=some (.ok (.next,sL P none (av p) []),H):=by
  generalize av p=pp;kernel_rfl
 have e1:EX P (CN P (m+13)) (MN P (m+13)) (a9 P 222 1) (sL P none (av p) []) H=M.bind (M.bind (CN P (m+13) 155 [av p]) λr=>lift (fN r)) (λitems=>bU (jS P (m+13)) items (sL P none (av p) [])) H:=by
  delta jS;generalize CN P (m+13)=cl;generalize MN P (m+13)=mk;generalize av p=pp;kernel_rfl
 have e2: ∀x kd,EX P (CN P (m+13)) (MN P (m+13)) (a9 P 222 2) (sL P x (av p) kd) H=M.bind (lift (List.lookup [] kd)) (λv=>M.pure (.ret v,sL P x (av p) kd)) H:=by
  intro x kd;generalize CN P (m+13)=cl;generalize MN P (m+13)=mk;generalize av p=pp;cases x<;>kernel_rfl
 have a:=S [] none [] (by simp;exact EZ hs);unfold nY at a;rw [uN] at a;have CH:=Af (P:=P) (m:=m) (H:=H) ho hd hs;cases hJ:J p with
 |error e=>
  replace a:=hJ▸a;refine kA (n:=m+13) Mb (aa Ma (ay e0 (ik ?_)));exact aa e1 (mb (mb CH rfl) a)
 |ok s=>
  replace a:=hJ▸a;refine cG a λx' AC v a1 a2 dX D5 mY=>?_;clear a;subst dX;refine aM (n:=m+13) (aK:=sL P x' (av p) AC) Mb (aa Ma (ay e0 (ay (H1:=H) (aK:=sL P x' (av p) AC) ?_ (b8 ?_))))
  ·exact aa e1 (mb (mb CH rfl) a1)
  ·rw [e2];exact mb (bF a2) rfl
def d_ (d:Nat)(v:AV):Prop:= ∃q,jc v=some q/\q.canLay0=true/\q.depth<=d
def aD (d:Nat)(l:List AV):Prop:= ∃q,dE l=some q/\qz6 q=true/\qzI q<=d
theorem d_.mono {d e:Nat}(h:d_ d v)(k:d<=e):d_ e v:=by
 exact aC h λq a b c=>(aV q a b (ub c k))
theorem aD.nil:aD d []:=(aV ([]) rfl rfl (uG _))
theorem aD.cons {d:Nat}{l:List AV}(h:d_ d v)(k:aD d l):aD d (v::l):=by
 refine aC h λq a b c=> aC k λr a2 b2 c2=>(aV (q::r) ?_ ?_ ?_)
 ·exact b_ a a2
 ·unfold qz6;refine aa b (aa b2 ?_);rfl
 ·unfold qzI;exact K6 c c2
theorem aD.tup {l:List AV}(h:aD d l):d_ (d+1) (.tup l):=by
 refine aC h λq a b c=>(aV (.tuple q) ?_ ?_ ?_)
 ·exact gk a
 ·unfold qx3;exact b
 ·unfold PyData.depth;exact mP c
theorem aD.uncons {l:List AV}(h:aD d (v::l)):d_ d v/\aD d l:=by
 refine aC h λq a b c=> a8 (fP a) λp r h1 h2 e=>?_;rw [<-e] at b c;have c:max p.depth (qzI r)<=d:=c;exact⟨(aV p h1 (tt b).1 (ub (uW _ _) c)),r,h2,(tt b).2,ub (uS _ _) c⟩
theorem aD.head {l:List AV}(h:aD d (v::l)):d_ d v:=h.uncons.1
theorem aD.tail {l:List AV}(h:aD d (v::l)):aD d l:=h.uncons.2
theorem d_.untup {l:List AV}(h:d_ (d+1) (.tup l)):aD d l:=by
 refine aC h λq a b c=> af (d5 (show(dE l).map PyData.tuple=some q from a)) λr h1 e=>?_;rw [<-e] at b c;exact(aV r h1 b (vp c))
theorem Ht {d:Nat}{l:List AV}(h:aD d l)(hd:d<=60):gR (.list l) (.list [])=some l.isEmpty:=by
 refine aC h λq a b c=> aa (oE (oB (yQ a) b (uh (ub c (ub hd (by exact uj _ _))))) (by kernel_rfl:Cg (.list [])=some (.list []))) ?_
 induction l using List.casesOn with
 |nil=>refine bq (ug (show some []=some q from a)) ?_;rfl|cons v r=>
  refine a8 (fP a) λp ps ak c8 e=> bq e ?_;rfl
noncomputable def lO:List String:= ["told","rule","same","join","under"]
inductive Good:Nat->AV->Prop
 |leaf {d:Nat} {k:String} {x:AV} {r:List AV} (hk:k∈lO) (h:d_ d (.tup (a7 k::x::r))):Good d (.tup (a7 k::x::r))
 |turn {d:Nat} {x:AV} (h:Good d x):Good (d+1) (.tup [a7 "turn",x])
theorem fb {k:String}(h:(PyData.str (ag k)).canLay0=true):d_ 1 (a7 k):=(aV (.str (ag k)) rfl h (by unfold PyData.depth;exact yM))
theorem Ew:d_ 1 (a7 "turn"):=fb (by kernel_rfl)
theorem Ey:d_ 1 (a7 "join"):=fb (by kernel_rfl)
theorem n_:d_ 1 (a7 "same"):=fb (by kernel_rfl)
theorem lP:d_ 1 (a7 "under"):=fb (by kernel_rfl)
theorem Good.fine (h:Good d v):d_ (d+1) v:=by
 induction h with
 |leaf hk h=>exact h.mono (uF _)|turn h ih=>exact(aD.cons (Ew.mono (C5)) (aD.cons ih aD.nil)).tup
theorem Good.mono {d e:Nat}(h:Good d v)(k:d<=e):Good e v:=by
 induction h generalizing e with
 |leaf hk h=>exact .leaf hk (h.mono k)|turn h ih=>
  refine ac (⟨e-1,by exact PU k⟩: ∃e',e=e'+1) λe' ah=>?_;subst ah;exact .turn (ih (PV k))
noncomputable def lQ:List String:= "turn"::lO
theorem Good.shape (h:Good d v): ∃k x r,k∈lQ/\v= .tup (a7 k::x::r):=by
 cases h with
 |leaf hk h=>exact(ct _ _ _ (uz _ hk) rfl)|turn h=>exact(ct _ _ _ (uE ..) rfl)
noncomputable def Hu (d:Nat)(v:AV):Bool:=match jc v with
 |some q=>q.canLay0 && decide (q.depth<=d)|none=>false
theorem Hv (h:Hu d v=true):d_ d v:=by
 delta Hu at h;refine cO (jc v) (λe=>?_) λq e=>?_
 ·replace h:=e▸h;exact di h
 ·replace h:=e▸h;have h:=uv .. |>.mp h;exact(aV q (rfl.trans e) h.1 (of_decide_eq_true h.2))
noncomputable def Hw:AV->Option (Str×List AV)
 | .tup (.str s::r)=>some (s,r)|_=>none
noncomputable def Hx (v:AV):Bool:=match Hw v with
 |some x=>lO.any (λk=>decide (ag k=x.1)) && !x.2.isEmpty && Hu 6 v|none=>false
theorem Ca {x:Str×List AV}(h:Hw v=some x):v= .tup (.str x.1::x.2):=by
 induction v using AV.casesOn with
 |tup l=>
  induction l using List.casesOn with
  |nil=>exact xNS h|cons y r=>
   induction y using AV.casesOn with
   |str s=>exact ug h▸rfl|_=>exact xNS h
 |_=>exact xNS h
theorem Hy (h:Hx v=true):Good 6 v:=by
 delta Hx at h;refine cO (Hw v) (λq=>?_) λx q=>?_
 ·replace h:=q▸h;exact di h
 ·replace h:=q▸h;refine ai (tt h) λh h2=> ai (tt h) λh h3=> af (List.any_eq_true.mp h) λk hk e=>?_;have q:=Ca q;obtain⟨s,l⟩:=x
  induction l using List.casesOn with
  |nil=>exact di h3|cons y r=>
   rw [q,<-of_decide_eq_true e] at h2⊢;exact .leaf hk (Hv h2)
theorem JL:(List.range 32).all (λi=>Hx (cX i))=true:=by kernel_rfl
set_option tactic.hygienic true in
theorem Hz (h:Good d v): ∃u,Good (d+1) u/\CN P (n+12) 169 [v] H=some (.ok u,H):=by
 cases h with
 |turn h=>exact(aj _ (h.mono (EW)) (by kernel_rfl))|leaf hk h=>
  rename_i k x r
  have e:lO.map (λk=>CN P (n+12) 169 [.tup (a7 k::x::r)] H)=lO.map (λk=>some (.ok (if k= "same" then .tup (a7 k::x::r) else .tup [a7 "turn",.tup (a7 k::x::r)]),H)):=by kernel_rfl
  refine(aj _ ?_ (List.map_inj_left.mp e k hk));split
  ·exact .leaf hk (h.mono (C6))
  ·exact .turn (.leaf hk h)
theorem H7 {d:Nat}(h:Good d v)(h2:Good d u): ∃y,Good (d+2) y/\CN P (n+12) 176 [v,u] H=some (.ok y,H):=by
 refine aB h.shape λk x r hk be=>?_;subst be;refine aB h2.shape λk' x' r' jY be=>?_;subst be;have e:lQ.map (λk=>lQ.map λk'=>CN P (n+12) 176 [.tup (a7 k::x::r),.tup (a7 k'::x'::r')] H)=lQ.map (λk=>lQ.map λk'=>some (.ok (if k= "same" then .tup (a7 k'::x'::r') else if k'= "same" then .tup (a7 k::x::r) else .tup [a7 "join",.tup (a7 k::x::r),.tup (a7 k'::x'::r')]),H)):=by kernel_rfl
 refine(aj _ ?_ (List.map_inj_left.mp (List.map_inj_left.mp e k hk) k' jY));split
 ·exact h2.mono (E_)
 ·split
  ·exact h.mono (E_)
  ·exact .leaf (by decide) (aD.cons (Ey.mono (C5)) (aD.cons h.fine (aD.cons h2.fine aD.nil))).tup
noncomputable def H8 (e:Expr):Expr:=pE 0 e
noncomputable def uL (P:qq9)(o:AV)(l:List AV):Loc:=⟨d2 P 181,[(ag "papers",.list l),(ag "op",o)],[]⟩
variable {o:AV}{l:List AV}
theorem Mc:CN P (m+1) 181 [o,.list l] H=M.bind (br P (CN P m) (MN P m) (bd P 181) (uL P o l)) fY H:=by kernel_rfl
theorem Md:bd P 181= [a9 P 181 0,a9 P 181 1]:=by kernel_rfl
theorem ZD:EX P cl mk (a9 P 181 0) (uL P o l) H=M.bind (M.bind (ev (CC P) cl mk 3 (H8 (ND (a9 P 181 0))) (uL P o l)) λx=>lift (gR x (.list []))) (λc=>if c then br P cl mk (bS (a9 P 181 0)) (uL P o l) else br P cl mk [] (uL P o l)) H:=by kernel_rfl
theorem Z2:br P cl mk [a9 P 181 1] (uL P o l) H=some (.ok (.ret (.tup [a7 "under",o,.tup l]),uL P o l),H):=by kernel_rfl
theorem NK {d:Nat}(h:ev (CC P) (CN P m) (MN P m) 3 (H8 (ND (a9 P 181 0))) (uL P o l) H=some (.ok (.list (v::r)),H))(hf:aD d (v::r))(hd:d<=60):CN P (m+1) 181 [o,.list l] H=some (.ok (.tup [a7 "under",o,.tup l]),H):=by
 refine aM (aK:=uL P o l) (rho:= [(ag "papers",.list l),(ag "op",o)]) Mc (?_:br P _ _ (bd P 181) (uL P o l) H=_);refine aa Md (ay (H1:=H) (aK:=uL P o l) ?_ Z2);exact aa ZD (mb (mb h (bF (Ht hf hd))) rfl)
theorem Me (h:ev (CC P) (CN P m) (MN P m) 3 (H8 (ND (a9 P 181 0))) (uL P o l) H=some (.ok (.list []),H))(h2:br P (CN P m) (MN P m) (bS (a9 P 181 0)) (uL P o l) H=some (.ok (.ret u,uL P o l),H)):CN P (m+1) 181 [o,.list l] H=some (.ok u,H):=by
 refine aM (aK:=uL P o l) (rho:= [(ag "papers",.list l),(ag "op",o)]) Mc (?_:br P _ _ (bd P 181) (uL P o l) H=_);exact aa Md (b8 (aa ZD (mb (mb h (bF (Ht (d:=0) aD.nil (PW)))) h2)))
theorem H9 (h:Good d v)(hd:d<=50)(ho:d_ 1 o): ∃u,Good (d+3) u/\CN P (m+1) 181 [o,.list [v]] H=some (.ok u,H):=by
 have hF:=h.fine;refine aB h.shape λk x r hk be=>?_;subst be;have e:lQ.map (λk=>ev (CC P) (CN P m) (MN P m) 3 (H8 (ND (a9 P 181 0))) (uL P o [.tup (a7 k::x::r)]) H)=lQ.map (λk=>some (.ok (.list (if k= "same" then [] else [.tup (a7 k::x::r)])),H)):=by kernel_rfl
 have e:=List.map_inj_left.mp e k hk;have hg:Good (d+3) (.tup [a7 "under",o,.tup [.tup (a7 k::x::r)]]):= .leaf (by decide) (aD.cons (lP.mono (mQ)) (aD.cons (ho.mono (mQ)) (aD.cons (aD.cons hF aD.nil).tup aD.nil))).tup;by_cases hs:k= "same"
 ·subst hs;refine(aj (.tup [a7 "same",.tup [o,x]]) ?_ (Me e (by kernel_rfl)));have hx:d_ d x:=hF.untup.tail.head;exact .leaf (by exact .tail _ (.tail _ (.head _))) (aD.cons (n_.mono (mQ)) (aD.cons ((aD.cons (d:=d+1) (ho.mono (C5)) (aD.cons (hx.mono (C6)) aD.nil)).tup) aD.nil)).tup
 ·replace e:=(if_neg hs)▸e;exact(aj _ hg (NK e (aD.cons hF aD.nil) (Fa hd)))
theorem HA {d:Nat}(h:Good d v)(h2:Good d u)(hd:d<=50)(ho:d_ 1 o): ∃y,Good (d+3) y/\CN P (m+1) 181 [o,.list [v,u]] H=some (.ok y,H):=by
 have hF:=h.fine;have UO:=h2.fine;refine aB h.shape λk x r hk be=>?_;subst be;refine aB h2.shape λk' x' r' jY be=>?_;subst be;have e:lQ.map (λk=>lQ.map λk'=>ev (CC P) (CN P m) (MN P m) 3 (H8 (ND (a9 P 181 0))) (uL P o [.tup (a7 k::x::r),.tup (a7 k'::x'::r')]) H)=lQ.map (λk=>lQ.map λk'=>some (.ok (.list ((if k= "same" then [] else [.tup (a7 k::x::r)])++(if k'= "same" then [] else [.tup (a7 k'::x'::r')]))),H)):=by kernel_rfl
 have e:=List.map_inj_left.mp (List.map_inj_left.mp e k hk) k' jY;have hg:Good (d+3) (.tup [a7 "under",o,.tup [.tup (a7 k::x::r),.tup (a7 k'::x'::r')]]):= .leaf (by decide) (aD.cons (lP.mono (mQ)) (aD.cons (ho.mono (mQ)) (aD.cons (aD.cons hF (aD.cons UO aD.nil)).tup aD.nil))).tup;by_cases hs:k= "same"
 ·by_cases ji:k'= "same"
  ·subst hs;subst ji;refine(aj (.tup [a7 "same",.tup [o,x,x']]) ?_ (Me e (by kernel_rfl)));have hx:d_ d x:=hF.untup.tail.head;have iz:d_ d x':=UO.untup.tail.head;exact .leaf (by exact .tail _ (.tail _ (.head _))) (aD.cons (n_.mono (mQ)) (aD.cons ((aD.cons (d:=d+1) (ho.mono (C5)) (aD.cons (hx.mono (C6)) (aD.cons (iz.mono (C6)) aD.nil))).tup) aD.nil)).tup
  ·replace e:=(if_pos hs)▸e;replace e:=(if_neg ji)▸e;rewrite [vx] at e;exact(aj _ hg (NK e (aD.cons UO aD.nil) (Fa hd)))
 ·replace e:=(if_neg hs)▸e;refine(aj _ hg (NK (d:=d+1) e (aD.cons hF ?_) (Fa hd)));split
  ·exact aD.nil
  ·exact aD.cons UO aD.nil
noncomputable def og (s:Stmt):List Stmt:=(BX s).2.2
theorem TR {c:Expr}(hw:w.length<=900)(e:ev (CC P) cl mk 3 c ae=M.bind (yG (CC P) cl mk 3 (cT c) (cI c) ae (ev (CC P) cl mk 3 (cI c) ae)) (fZ P cl mk c ae))(items:yG (CC P) cl mk 3 (cT c) (cI c) ae (ev (CC P) cl mk 3 (cI c) ae) H=some (.ok ((List.range l.length).map aE),H))
  (t: ∀k:Int,m0 P cl mk c ae (.int k) H=some (.ok true,H)) (el: ∀k:Int,Du P cl mk c ae (.int k) H=i9 (M.bind (lift (binop .Add (pv w) (.tup [.int k]))) λiv=>lift ((d4 iv).bind λp=>List.lookup p kd)) H) (hk:pU kd w l vs):
  ev (CC P) cl mk 3 c ae H=some (.ok (.list vs),H):=by
 have el: ∀k:Int,∀a,kd.lookup (w++ [k])=some a->Du P cl mk c ae (.int k) H=some (.ok a,H):=λk a h=>by
  rw [el];refine pO (mb (bF (lJ hw)) (bF ?_));rw [e_];exact h
 refine aa e ?_;rcases hk with⟨rfl,rfl⟩|⟨u,a,rfl,rfl,ha⟩|⟨u,v,a,b,rfl,rfl,ha,hb⟩
 ·exact mb items rfl
 ·exact mb items (mb (H1:=H) (cU (H1:=H) (H2:=H) (t 0) (el 0 a ha) rfl) rfl)
 ·exact mb items (mb (H1:=H) (cU (H1:=H) (H2:=H) (t 0) (el 0 a ha) (cU (H1:=H) (H2:=H) (t 1) (el 1 b hb) rfl)) rfl)
noncomputable def XK (x:Option (AV×AV×AV))(p:AV):List (Str×AV):=match x with
 |some (w,o,ps)=>[(ag "parts",ps),(ag "one",o),(ag "path",w),(ag "paper",p)]
 |none=>[(ag "paper",p)]
noncomputable def TS (x:Option (AV×AV×AV))(w o p:AV):List (Str×AV):=match x with
 |some (_,_,ps)=>[(ag "one",o),(ag "path",w),(ag "parts",ps),(ag "paper",p)]
 |none=>[(ag "one",o),(ag "path",w),(ag "paper",p)]
noncomputable def tL (P:qq9)(x:Option (AV×AV×AV))(p:AV)(kd:List (List Int×AV)):Loc:=⟨d2 P 186,XK x p,[(ag "known",.kd kd)]⟩
noncomputable def AD (P:qq9)(x:Option (AV×AV×AV))(w o p:AV)(kd:List (List Int×AV)):Loc:=⟨d2 P 186,TS x w o p,[(ag "known",.kd kd)]⟩
noncomputable abbrev tC (P:qq9):Expr:=ja (bC P 186 1 1)
variable {x:Option (AV×AV×AV)}{p one:AV}{ps:AV}
theorem ZE:aR (pK (a9 P 186 1)) (.tup [pv w,one]) (tL P x p kd) H=some (.ok (AD P x (pv w) one p kd),H):=by
 cases x<;>kernel_rfl
theorem ZF (h:cl 162 [one,pv w] H=R):EX P cl mk (bC P 186 1 0) (AD P x (pv w) one p kd) H=EX P (λ_ _ _=>R) mk (bC P 186 1 0) (AD P x (pv w) one p kd) H:=by
 subst h;cases x<;>kernel_rfl
theorem NL (h:cl 162 [one,pv w] H=some (.ok .none,H)):EX P cl mk (bC P 186 1 0) (AD P x (pv w) one p kd) H=some (.ok (.next,AD P x (pv w) one p kd),H):=by
 refine aa (ZF h) ?_;cases x<;>kernel_rfl
theorem JM {e:AV}(h:cl 162 [one,pv w] H=some (.error e,H)):EX P cl mk (bC P 186 1 0) (AD P x (pv w) one p kd) H=some (.error e,H):=by
 refine aa (ZF h) ?_;cases x<;>kernel_rfl
theorem TU (hw:w.length<=900)(hp:cl 131 [one] H=some (.ok (.tup l),H))(hk:pU kd w l vs):
  ev (CC P) cl mk 3 (tC P) (AD P x (pv w) one p kd) H=some (.ok (.list vs),H):=by
 refine TR hw (by cases x<;>kernel_rfl) ?_ (λk=>by cases x<;>kernel_rfl) (λk=>by cases x<;>kernel_rfl) hk;have e2:yG (CC P) cl mk 3 (cT (tC P)) (cI (tC P)) (AD P x (pv w) one p kd) (ev (CC P) cl mk 3 (cI (tC P)) (AD P x (pv w) one p kd)) H=yG (CC P) (λ_ _ _=>cl 131 [one] H) mk 3 (cT (tC P)) (cI (tC P)) (AD P x (pv w) one p kd) (ev (CC P) (λ_ _ _=>cl 131 [one] H) mk 3 (cI (tC P)) (AD P x (pv w) one p kd)) H:=by cases x<;>kernel_rfl
 refine aa e2 (aa hp ?_);rcases hk with⟨rfl,rfl⟩|⟨u,a,rfl,rfl,ha⟩|⟨u,v,a,b,rfl,rfl,ha,hb⟩<;>cases x<;>kernel_rfl
theorem tb1 (h:ev (CC P) cl mk 3 (tC P) (AD P x (pv w) one p kd) H=some (.ok (.list vs),H)):EX P cl mk (bC P 186 1 1) (AD P x (pv w) one p kd) H=some (.ok (.next,tL P (some (pv w,one,.list vs)) p kd),H):=by
 have e:EX P cl mk (bC P 186 1 1) (AD P x (pv w) one p kd) H=M.bind (M.bind (ev (CC P) cl mk 3 (tC P) (AD P x (pv w) one p kd)) λv=>bB (ag "parts") v (AD P x (pv w) one p kd)) next H:=by cases x<;>kernel_rfl
 exact aa e (mb (mb h (by cases x<;>kernel_rfl)) rfl)
noncomputable def NM (P:qq9)(x:Option (AV×AV×AV))(p:AV)(w:List Int)(kd:List (List Int×AV))(v:AV):M Loc:=match d4 (pv w) with
 |some q=>if kd.length<1000 then cw (ag "known") (.kd (c_ q v kd)) (tL P x p kd) else stuck
 |none=>stuck
theorem JN (hk:kd.length<1000):NM P x p w kd v H=some (.ok (tL P x p (c_ w v kd)),H):=by
 delta NM;rw [e_];dsimp only;refine aa (if_pos hk) ?_;cases x<;>kernel_rfl
noncomputable abbrev EE (P:qq9):Stmt:=bC P 186 1 2
noncomputable abbrev Ez (P:qq9):Stmt:=(og (EE P)).headD (a9 P 186 0)
noncomputable abbrev i6 (P:qq9)(a o ps p:AV)(kd:List (List Int×AV)):Loc:=tL P (some (a,o,ps)) p kd
theorem JO {e:Expr}{a:Stmt}(hk:kd.length<1000)(ha:EX P cl mk a (i6 P (pv w) one ps p kd) H=M.bind (M.bind (ev (CC P) cl mk 3 e (i6 P (pv w) one ps p kd)) λv=>NM P (some (pv w,one,ps)) p w kd v) next H)(he:ev (CC P) cl mk 3 e (i6 P (pv w) one ps p kd) H=some (.ok v,H)):
  EX P cl mk a (i6 P (pv w) one ps p kd) H=some (.ok (.next,i6 P (pv w) one ps p (c_ w v kd)),H):=by
 exact aa ha (mb (mb he (JN hk)) rfl)
noncomputable def pV (b:List Stmt):Stmt:=b.headD (.Pass {line:=0,col:=0,endLine:=0,endCol:=0})
theorem gQ {s:Stmt}(h:EX P cl mk s ae H=some (.ok (.next,aK),H)):br P cl mk [s] ae H=some (.ok (.next,aK),H):=ay h rfl
theorem HB (hk:kd.length<1000)(h:cl 169 [v] H=some (.ok u,H)):EX P cl mk (EE P) (i6 P (pv w) (.tup [a7 "turn",y]) (.list [v]) p kd) H=some (.ok (.next,i6 P (pv w) (.tup [a7 "turn",y]) (.list [v]) p (c_ w u kd)),H):=by
 have e1:EX P cl mk (EE P) (i6 P (pv w) (.tup [a7 "turn",y]) (.list [v]) p kd) H=br P cl mk [pV (bS (EE P))] (i6 P (pv w) (.tup [a7 "turn",y]) (.list [v]) p kd) H:=by kernel_rfl
 refine aa e1 (gQ (JO hk (e:=ja (pV (bS (EE P)))) (by kernel_rfl) ?_));exact Eq.trans (by kernel_rfl) h
theorem HC {y z v v2 u:AV}(hk:kd.length<1000)(h:cl 176 [v,v2] H=some (.ok u,H)):EX P cl mk (EE P) (i6 P (pv w) (.tup [a7 "join",y,z]) (.list [v,v2]) p kd) H=some (.ok (.next,i6 P (pv w) (.tup [a7 "join",y,z]) (.list [v,v2]) p (c_ w u kd)),H):=by
 have e1:EX P cl mk (EE P) (i6 P (pv w) (.tup [a7 "join",y,z]) (.list [v,v2]) p kd) H=br P cl mk [Ez P] (i6 P (pv w) (.tup [a7 "join",y,z]) (.list [v,v2]) p kd) H:=by kernel_rfl
 refine aa e1 (gQ ?_);have e2:EX P cl mk (Ez P) (i6 P (pv w) (.tup [a7 "join",y,z]) (.list [v,v2]) p kd) H=br P cl mk [pV (bS (Ez P))] (i6 P (pv w) (.tup [a7 "join",y,z]) (.list [v,v2]) p kd) H:=by kernel_rfl
 refine aa e2 (gQ (JO hk (e:=ja (pV (bS (Ez P)))) (by kernel_rfl) ?_));exact Eq.trans (by kernel_rfl) h
theorem oh {k y u:AV}(hk:kd.length<1000)(h:cl 181 [k,.list l] H=some (.ok u,H)):EX P cl mk (EE P) (i6 P (pv w) (.tup [a7 "under",k,y]) (.list l) p kd) H=some (.ok (.next,i6 P (pv w) (.tup [a7 "under",k,y]) (.list l) p (c_ w u kd)),H):=by
 have e1:EX P cl mk (EE P) (i6 P (pv w) (.tup [a7 "under",k,y]) (.list l) p kd) H=br P cl mk [Ez P] (i6 P (pv w) (.tup [a7 "under",k,y]) (.list l) p kd) H:=by kernel_rfl
 refine aa e1 (gQ ?_);have e2:EX P cl mk (Ez P) (i6 P (pv w) (.tup [a7 "under",k,y]) (.list l) p kd) H=br P cl mk [pV (og (Ez P))] (i6 P (pv w) (.tup [a7 "under",k,y]) (.list l) p kd) H:=by kernel_rfl
 refine aa e2 (gQ (JO hk (e:=ja (pV (og (Ez P)))) (by kernel_rfl) ?_));exact Eq.trans (by kernel_rfl) h
theorem HD (hi:i<32)(hk:kd.length<1000):EX P cl mk (EE P) (i6 P (pv w) (cX i) (.list []) p kd) H=some (.ok (.next,i6 P (pv w) (cX i) (.list []) p (c_ w (cX i) kd)),H):=by
 have e1:(List.range 32).map (λi=>EX P cl mk (EE P) (i6 P (pv w) (cX i) (.list []) p kd) H)=(List.range 32).map (λi=>br P cl mk [Ez P] (i6 P (pv w) (cX i) (.list []) p kd) H):=by kernel_rfl
 refine aa (bh e1 hi) (gQ ?_);have e2:(List.range 32).map (λi=>EX P cl mk (Ez P) (i6 P (pv w) (cX i) (.list []) p kd) H)=(List.range 32).map (λi=>br P cl mk [pV (og (Ez P))] (i6 P (pv w) (cX i) (.list []) p kd) H):=by kernel_rfl
 refine aa (bh e2 hi) (gQ (JO hk (e:=ja (pV (og (Ez P)))) (by kernel_rfl) ?_));have e3:(List.range 32).map (λi=>ev (CC P) cl mk 3 (ja (pV (og (Ez P)))) (i6 P (pv w) (cX i) (.list []) p kd) H)=(List.range 32).map (λi=>some (.ok (cX i),H)):=by kernel_rfl
 exact bh e3 hi
end
section
variable {P:qq9}{H:HS}{m:Nat}{x:Option (AV×AV×AV)}{q:AV}{w:List Int}{kd:List (List Int×AV)}{k N W:Nat}{v s1 s2:AV}
noncomputable def lS (P:qq9)(N:Nat):AV->Loc->M (Fl×Loc):=bQ P (CN P N) (MN P N) (a9 P 186 1)
theorem Mf:bS (a9 P 186 1)= [bC P 186 1 0,bC P 186 1 1,bC P 186 1 2]:=by kernel_rfl
theorem ir {p:Pa}(ho:ok p)(hw:w.length<=7)(hf:cz p=false):Out (lS P (m+13)) (λx kd=>tL P x q kd) H w (je (w,p)) x kd (.error []):=by
 refine⟨rfl,?_⟩;unfold lS bQ;exact mb ZE (aa Mf (ik (JM (by refine aa (Ho ho hw) (aa hf ?_);rfl))))
theorem Ag {p:Pa}{vs:List AV}{G:AV->Prop}{u:AV}(ho:ok p)(hw:w.length<=7)(hf:cz p=true)(hk:pU kd w ((ij p).map av) vs)(g:G u)
  (h:EX P (CN P (m+13)) (MN P (m+13)) (EE P) (i6 P (pv w) (av p) (.list vs) q kd) H=some (.ok (.next,i6 P (pv w) (av p) (.list vs) q (c_ w u kd)),H)):
  Out (lS P (m+13)) (λx kd=>tL P x q kd) H w (je (w,p)) x kd (.ok G):=by
 refine(ei (some (pv w,av p,.list vs)) u g ?_);unfold lS bQ;exact mb ZE (aa Mf (ay (NL (by refine aa (Ho ho hw) (aa hf ?_);rfl)) (ay (tb1 (TU (ub hw (by exact uj _ _)) (BZ (n:=m+1) hf) hk)) (gQ h))))
noncomputable def On (d:Nat)(r:Option (List Int)):Except (List Int) (AV->Prop):=match r with
 |some e=>.error e|none=>.ok (Good d)
theorem iu: ∀(p:Pa) (w:List Int),ok p->dp p<=7->w.length+dp p<=7->SW (lS P (m+13)) (λx kd=>tL P x q kd) H w (sz p) ((po w p).map je) (On (6+3*dp p) (Fm p))
 | .at_ i,w,ho,hd,hw=>by
  dsimp only [dp] at hw;refine gx λx kd hl=>(?_:Out _ _ _ _ _ _ _ (On 6 (if i<32 then none else some [])));by_cases hi:i<32
  ·exact aa (if_pos hi) (Ag (p:= .at_ i) (u:=cX i) ho (fD hw) (decide_eq_true hi) (.inl ⟨rfl,rfl⟩) (Hy (qqJ.mp JL i (List.mem_range.mpr hi))) (HD hi hl))
  ·exact aa (if_neg hi) (ir (p:= .at_ i) ho (fD hw) (decide_eq_false hi))
 | .turn p,w,ho,hd,hw=>by
  simp only [dp] at hd hw;have h1:=iu p (w++ [0]) ho (K7 hw) (by simp;exact gH hw);refine(?_:SW _ _ _ _ _ _ (On (6+3*(dp p+1)) ((Fm p).map (0:: ·))));cases hp:Fm p with
  |some e=>replace h1:=hp▸h1;simp only [po,uA];exact gb h1 1|none=>
   replace h1:=hp▸h1;simp only [po,uA];exact pR h1 λv x kd g hl hk=>by
    exact af (Hz (P:=P) (n:=m+1) (H:=H) g) λu gu hu=> Ag (p:= .turn p) ho (mN hw) rfl (.inr (.inl (cq _ _ rfl rfl hk))) (gu.mono (PX)) (HB hl hu)
 | .unF p,w,ho,hd,hw=>by
  simp only [dp] at hd hw;have h1:=iu p (w++ [0]) ho (K7 hw) (by simp;exact gH hw);refine(?_:SW _ _ _ _ _ _ (On (6+3*(dp p+1)) ((Fm p).map (0:: ·))));cases hp:Fm p with
  |some e=>replace h1:=hp▸h1;simp only [po,uA];exact gb h1 1|none=>
   replace h1:=hp▸h1;simp only [po,uA];exact pR h1 λv x kd g hl hk=>by
    exact af (H9 (P:=P) (m:=m+12) (H:=H) (o:=a7 "f") g (PY hw) (fb (by kernel_rfl))) λu gu hu=> Ag (p:= .unF p) ho (mN hw) rfl (.inr (.inl (cq _ _ rfl rfl hk))) (gu.mono (PZ)) (oh hl hu)
 | .join p r,w,ho,hd,hw=>by
  simp only [dp] at hd hw;have h1:=iu p (w++ [0]) ho.1 (K8 hw) (by simp;exact gI hw);have h2:=iu r (w++ [1]) ho.2 (K9 hw) (by simp;exact gK hw);refine(?_:SW _ _ _ _ _ _ (On (6+3*(max (dp p) (dp r)+1)) (match Fm p with|some e=>some (0::e)|none=>(Fm r).map (1:: ·))));cases hp:Fm p with
  |some e=>replace h1:=hp▸h1;simp only [po,uA];rewrite [up];exact aa (show sz (.join p r)=sz p+(sz r+1) from uV ..) (gb h1 _)|none=>
   replace h1:=hp▸h1;cases hr:Fm r with
   |some e=>replace h2:=hr▸h2;simp only [po,uA];exact kC h1 h2 1|none=>
    replace h2:=hr▸h2;simp only [po,uA];exact pT h1 h2 λv v2 x kd g g2 hl hk zr=> af (H7 (P:=P) (n:=m+1) (H:=H) (d:=6+3*max (dp p) (dp r)) (g.mono (KC)) (g2.mono (KD))) λu gu hu=> Ag (p:= .join p r) ho (j3 hw) rfl (.inr (.inr (eN _ _ _ _ rfl rfl hk zr))) (gu.mono (P_)) (HC hl hu)
 | .unG p r,w,ho,hd,hw=>by
  simp only [dp] at hd hw;have h1:=iu p (w++ [0]) ho.1 (K8 hw) (by simp;exact gI hw);have h2:=iu r (w++ [1]) ho.2 (K9 hw) (by simp;exact gK hw);refine(?_:SW _ _ _ _ _ _ (On (6+3*(max (dp p) (dp r)+1)) (match Fm p with|some e=>some (0::e)|none=>(Fm r).map (1:: ·))));cases hp:Fm p with
  |some e=>replace h1:=hp▸h1;simp only [po,uA];rewrite [up];exact aa (show sz (.unG p r)=sz p+(sz r+1) from uV ..) (gb h1 _)|none=>
   replace h1:=hp▸h1;cases hr:Fm r with
   |some e=>replace h2:=hr▸h2;simp only [po,uA];exact kC h1 h2 1|none=>
    replace h2:=hr▸h2;simp only [po,uA];exact pT h1 h2 λv v2 x kd g g2 hl hk zr=> af (HA (P:=P) (m:=m+12) (H:=H) (o:=a7 "g") (d:=6+3*max (dp p) (dp r)) (g.mono (KC)) (g2.mono (KD)) (Qa hw) (fb (by kernel_rfl))) λu gu hu=> Ag (p:= .unG p r) ho (j3 hw) rfl (.inr (.inr (eN _ _ _ _ rfl rfl hk zr))) (gu.mono (Qb)) (oh hl hu)
 | .join1 p,w,ho,hd,hw=>by
  dsimp only [dp] at hw;exact gx λx kd hl=>ir (p:= .join1 p) ho (fD hw) rfl
 | .unQ p,w,ho,hd,hw=>by
  dsimp only [dp] at hw;exact gx λx kd hl=>ir (p:= .unQ p) ho (fD hw) rfl
theorem Mg:bd P 186= [a9 P 186 0,a9 P 186 1,a9 P 186 2]:=by kernel_rfl
theorem Mh {p:AV}:CN P (m+1) 186 [p] H=M.bind (br P (CN P m) (MN P m) (bd P 186) ⟨d2 P 186,[(ag "paper",p)],[]⟩) fY H:=by kernel_rfl
theorem E1 {p:Pa}(ho:ok p)(hd:dp p<=7)(hs:sz p<=900):match Fm p with
  |some e=>CN P (m+14) 186 [av p] H=some (.error (pv e),H)|none=>∃v,CN P (m+14) 186 [av p] H=some (.ok v,H):=by
 have S:=iu (P:=P) (H:=H) (m:=m) (q:=av p) p [] ho hd (by simpa using hd);have e0:EX P (CN P (m+13)) (MN P (m+13)) (a9 P 186 0) ⟨d2 P 186,[(ag "paper",av p)],[]⟩ H=some (.ok (.next,tL P none (av p) []),H):=by
  generalize av p=pp;kernel_rfl
 have e1:EX P (CN P (m+13)) (MN P (m+13)) (a9 P 186 1) (tL P none (av p) []) H=M.bind (M.bind (CN P (m+13) 155 [av p]) λr=>lift (fN r)) (λitems=>bU (lS P (m+13)) items (tL P none (av p) [])) H:=by
  delta lS;generalize CN P (m+13)=cl;generalize MN P (m+13)=mk;generalize av p=pp;kernel_rfl
 have e2: ∀x kd,EX P (CN P (m+13)) (MN P (m+13)) (a9 P 186 2) (tL P x (av p) kd) H=M.bind (lift (List.lookup [] kd)) (λv=>M.pure (.ret v,tL P x (av p) kd)) H:=by
  intro x kd;generalize CN P (m+13)=cl;generalize MN P (m+13)=mk;generalize av p=pp;cases x<;>kernel_rfl
 have a:=S [] none [] (by simp;exact EZ hs);unfold nY at a;rw [uN] at a;have CH:=Af (P:=P) (m:=m) (H:=H) ho hd hs;cases hJ:Fm p with
 |some e=>
  replace a:=hJ▸a;refine kA (n:=m+13) Mh (aa Mg (ay e0 (ik ?_)));exact aa e1 (mb (mb CH rfl) a)
 |none=>
  replace a:=hJ▸a;refine cG a λx' AC v a1 a2 dX D5 mY=>?_;refine⟨v,aM (n:=m+13) (aK:=tL P x' (av p) AC) Mh ?_⟩;refine aa Mg (ay e0 (ay (H1:=H) (aK:=tL P x' (av p) AC) ?_ (b8 ?_)))
  ·exact aa e1 (mb (mb CH rfl) a1)
  ·rw [e2];exact mb (bF a2) rfl
noncomputable def hH (cs:List Int)(a mx:Int):HS:= [(ag "cells",.list (cs.map .int)),(ag "at",.int a),(ag "mix",.int mx)]
def HO (N:Nat)(H:HS):Prop:= ∃cs a mx,H=hH cs a mx/\0<=a/\a+N<=100000/\0<=mx/\mx<=1000000000
theorem HO.mono {N K:Nat}(h:HO N H)(k:K<=N):HO K H:=by
 exact gE h λcs a mx e h1 h2 h3=>(kP cs a mx e h1 (Qc k h2) h3)
noncomputable def XM (s:Stmt):Expr:=pS 0 s
noncomputable def JP (op:Operator)(a b:M AV):M AV:=M.bind a λx=>M.bind b λy=>lift (binop op x y)
noncomputable def E2 (m:M AV)(ae:Loc):M (Fl×Loc):=M.bind m λv=>M.pure (Fl.ret v,ae)
noncomputable def Oo (k:String):M AV:=M.bind Dx λH=>lift (H.lookup (ag k))
variable {H1 H2:HS}
theorem Ah {op:Operator}{a b:M AV}{x y v:AV}(h1:a H=some (.ok x,H))(h2:b H=some (.ok y,H))(h3:binop op x y=some v):JP op a b H=some (.ok v,H):=mb h1 (mb h2 (bF h3))
theorem bo {i:Int}(h:0<=i)(k:i<4000000000000000000):bu i=true:=decide_eq_true (Qd h k)
theorem Cb {a b:Int}(h1:0<=a)(h2:0<=b)(h3:a+b<4000000000000000000):binop .Add (.int a) (.int b)=some (.int (a+b)):=by
 refine(?_:(if bu a && bu b && bu (a+b) then some (AV.int (a+b)) else none)=_);refine aa (bo h1 (Qe h2 h3)) (aa (bo h2 (Qf h1 h3)) ?_);refine aa (bo (Qg h1 h2) h3) ?_;rfl
theorem Cc {a b:Int}(h1:0<=a)(h2:0<b)(h3:a*b<4000000000000000000)(h4:b<4000000000000000000):binop .Mult (.int a) (.int b)=some (.int (a*b)):=by
 have h5:0<=a*b:=vR h1 (KE h2);have h6:a<=a*b:=by
  have:=vD (show(1:Int)<=b by exact Qh h2) h1
  rwa [Int.mul_one] at this
 refine(?_:(if bu a && bu b && bu (a*b) then some (AV.int (a*b)) else none)=_);refine aa (bo h1 (Qi h3 h6)) (aa (bo (KE h2) h4) ?_);refine aa (bo h5 h3) ?_;rfl
theorem HE {a:Int}(h:0<W): ∃r:Nat,r<W/\binop .Mod (.int a) (aE W)=some (aE r):=by
 refine(aj (a%(W:Int)).toNat ?_ ?_)
 ·have:=vG a (show(0:Int)<W by exact KG h);have:=vV a (show(W:Int)≠0 by exact KH h);omega
 ·have:=vV a (show(W:Int)≠0 by exact KH h);refine(?_:(if decide ((0:Int)<W) then some (AV.int (a%(W:Int))) else none)=_);refine aa (decide_eq_true (KG h)) (?_:some (AV.int (a%(W:Int)))=some (AV.int ((a%(W:Int)).toNat:Int)));exact aa (vX this) rfl
variable {cl mk:qq7->List AV->M AV}{n:Nat}
noncomputable def dL (P:qq9)(W:Nat):Loc:=⟨d2 P 269,[(ag "wide",aE W),(ag "hand",.hand)],[]⟩
theorem TV:bd P 269= [a9 P 269 0,a9 P 269 1,a9 P 269 2]:=by kernel_rfl
theorem TX:CN P (n+1) 269 [.hand,aE W] H=M.bind (br P (CN P n) (MN P n) (bd P 269) (dL P W)) fY H:=by kernel_rfl
theorem draw {N W:Nat}(h:HO (N+1) H)(hW:0<W): ∃(r:Nat) (H':HS),r<W/\HO N H'/\CN P (n+1) 269 [.hand,aE W] H=some (.ok (aE r),H'):=by
 refine cG h λcs a mx c8 h1 h2 h3 h4=>?_;clear h;subst c8;have hO:HO N (hH cs (a+1) mx):=(j2 cs (a+1) mx rfl (KJ h1) (Qj h2) h3 h4);have e0:EX P (CN P n) (MN P n) (a9 P 269 0) (dL P W) (hH cs a mx)=M.bind (M.bind (lift (binop .Add (.int a) (.int 1))) λv=>eP (CC P) (CN P n) (MN P n) (TN (gB (a9 P 269 0))) (TO (gB (a9 P 269 0))) v (dL P W)) next (hH cs a mx):=by kernel_rfl
 have s0:EX P (CN P n) (MN P n) (a9 P 269 0) (dL P W) (hH cs a mx)=some (.ok (.next,dL P W),hH cs (a+1) mx):=by
  exact aa e0 (mb (mb (bF (Cb h1 (Fb) (Fc h2))) (by kernel_rfl:_=some (Except.ok (dL P W),hH cs (a+1) mx))) rfl)
 have e1:EX P (CN P n) (MN P n) (a9 P 269 1) (dL P W) (hH cs (a+1) mx)=M.bind (lift (some (decide (a+1<=((cs.map AV.int).length:Int))))) (λc=>if c then br P (CN P n) (MN P n) (bS (a9 P 269 1)) (dL P W) else br P (CN P n) (MN P n) [] (dL P W)) (hH cs (a+1) mx):=by kernel_rfl
 have ret: ∀{r:Nat},br P (CN P n) (MN P n) (bd P 269) (dL P W) (hH cs a mx)=some (.ok (.ret (aE r),dL P W),hH cs (a+1) mx)->CN P (n+1) 269 [.hand,aE W] (hH cs a mx)=some (.ok (aE r),hH cs (a+1) mx):=λ{r} h=>aM (f:=269) TX h;rw [TV] at ret;by_cases hc:a+1<=((cs.map AV.int).length:Int)
 ·replace e1:=(decide_eq_true hc)▸e1;refine ac (by
   rw [uQ] at hc;exact⟨cs[a.toNat]'(KL h1 hc),qqI (KL h1 hc)⟩: ∃x,cs[a.toNat]? =some x) ?_;intro x hx
  refine af (HE (a:=x) hW) λr hr hm=>(cq r _ hr hO (ret (ay s0 (b8 ?_))));refine e1.trans (mb (a:=true) (H1:=hH cs (a+1) mx) rfl ?_);refine(?_:br P (CN P n) (MN P n) (bS (a9 P 269 1)) (dL P W) (hH cs (a+1) mx)=_);refine aa (show bS (a9 P 269 1)= [bC P 269 1 0] by kernel_rfl) ?_;have e2:EX P (CN P n) (MN P n) (bC P 269 1 0) (dL P W) (hH cs (a+1) mx)=E2 (JP .Mod (M.bind (lift (binop .Sub (.int (a+1)) (.int 1))) λiv=>lift (dK (.list (cs.map .int)) iv)) (M.pure (aE W))) (dL P W) (hH cs (a+1) mx):=by kernel_rfl
  refine b8 (e2.trans (mb (Ah (mb (bF (a:= .int a) ?_) (bF (a:= .int x) ?_)) rfl hm) rfl))
  ·refine(?_:(if bu (a+1) && bu 1 && bu (a+1-1) then some (AV.int (a+1-1)) else none)=_);refine aa (bo (KJ h1) (Fc h2)) (aa (bo (Fb) (KN)) ?_);refine aa (bo (Qk h1) (Ql h2)) (?_:some (AV.int (a+1-1))=_);rw [Int.add_sub_cancel]
  ·refine(?_:(if 0<=a/\bu a=true then(cs.map AV.int)[a.toNat]? else none)=_);refine aa (if_pos ⟨h1,bo h1 (Qm h2)⟩) (aa qzG ?_);refine aa hx ?_;rfl
 ·replace e1:=(decide_eq_false hc)▸e1;have e3:EX P (CN P n) (MN P n) (a9 P 269 2) (dL P W) (hH cs (a+1) mx)=E2 (JP .Mod (JP .FloorDiv (JP .Add (JP .Add (JP .Mult (JP .Mult (Oo "at") (Oo "at")) (M.pure (.int 13))) (JP .Mult (Oo "at") (M.pure (.int 5)))) (Oo "mix")) (M.pure (.int 3))) (M.pure (aE W))) (dL P W) (hH cs (a+1) mx):=by kernel_rfl
  have Sh:Oo "at" (hH cs (a+1) mx)=some (.ok (.int (a+1)),hH cs (a+1) mx):=by kernel_rfl
  have X8:Oo "mix" (hH cs (a+1) mx)=some (.ok (.int mx),hH cs (a+1) mx):=by kernel_rfl
  have UP:(a+1)*(a+1)<=100000*100000:=Int.mul_le_mul (KO h2) (KO h2) (yN hc) (Qn);have NN:0<=(a+1)*(a+1):=vR (yN hc) (yN hc);refine af (HE (a:=((a+1)*(a+1)*13+(a+1)*5+mx)/3) hW) λr hr hm=>(cq r _ hr hO (ret (ay s0 (ay (e1.trans rfl) ?_))));refine b8 (e3.trans (mb (Ah (Ah (Ah (Ah (Ah (Ah Sh Sh (Cc (yN hc) (Qo hc) (Qp UP) (Fc h2))) rfl (Cc NN (Qq) (Qr UP) (Qs))) (Ah Sh rfl (Cc (yN hc) (Qt) (Qu h2) (Qv))) (Cb (Qw NN) (Qx hc) (Qy h2 UP))) X8 (Cb (Qz hc NN) (Q0 h3) (Q1 h2 h4 UP))) rfl ?_) rfl hm) rfl));rfl
noncomputable def dh (x:String)(m:M AV)(ae:Loc):M (Fl×Loc):=M.bind (M.bind m λv=>bB (ag x) v ae) next
theorem eM {x:String}{m:M AV}{ae aK:Loc}(h:m H=some (.ok v,H1))(k:bB (ag x) v ae H1=some (.ok aK,H1)):dh x m ae H=some (.ok (.next,aK),H1):=mb (mb h k) rfl
noncomputable def mL (P:qq9)(f:qq7)(r:List (Str×AV)):Loc:=⟨d2 P f,r++ [(ag "hand",.hand)],[]⟩
theorem TY:bd P 300= [a9 P 300 0,a9 P 300 1]:=by kernel_rfl
theorem term (h:HO (N+1) H): ∃(i:Nat) (H':HS),i<4/\HO N H'/\CN P (n+2) 300 [.hand] H=some (.ok (tA (t4 i)),H'):=by
 refine a8 (draw (P:=P) (n:=n) (W:=4) h (by exact uH _)) λr H' hr hO hd=>(cq r H' hr hO ?_);have e:CN P (n+1+1) 300 [.hand] H=M.bind (br P (CN P (n+1)) (MN P (n+1)) (bd P 300) (mL P 300 [])) fY H:=by kernel_rfl
 refine aM (n:=n+1) (aK:=mL P 300 [(ag "way",aE r)]) e (aa TY ?_);have e1:EX P (CN P (n+1)) (MN P (n+1)) (a9 P 300 0) (mL P 300 []) H=dh "way" (CN P (n+1) 269 [.hand,aE 4]) (mL P 300 []) H:=by
  generalize CN P (n+1)=cl;kernel_rfl
 refine ay (e1.trans (eM hd (by kernel_rfl:_=some (Except.ok (mL P 300 [(ag "way",aE r)]),H')))) ?_;have e2:(List.range 4).map (λr=>br P (CN P (n+1)) (MN P (n+1)) [a9 P 300 1] (mL P 300 [(ag "way",aE r)]) H')=(List.range 4).map (λr=>some (.ok (.ret (tA (t4 r)),mL P 300 [(ag "way",aE r)]),H')):=by kernel_rfl
 exact bh e2 hr
theorem TZ:bd P 307= [a9 P 307 0,a9 P 307 1,a9 P 307 2,a9 P 307 3,a9 P 307 4,a9 P 307 5,a9 P 307 6]:=by kernel_rfl
theorem T_:CN P (n+1) 307 [.hand] H=M.bind (br P (CN P n) (MN P n) (bd P 307) (mL P 307 [])) fY H:=by kernel_rfl
noncomputable def HG (P:qq9)(N:Nat)(i:Nat)(ae:Loc)(H:HS):Rs (Fl×Loc):=some (.ok (.ret (.tup [cX i,match jA i with|some s=>i_ s|none=>.none]),ae),H)
noncomputable abbrev Op (P:qq9):List Stmt:= [a9 P 307 1,a9 P 307 2,a9 P 307 3,a9 P 307 4,a9 P 307 5,a9 P 307 6]
theorem lf0 (h:HO (N+1) H): ∃H',HO N H'/\ ∃i ae,i<27/\br P (CN P (n+12)) (MN P (n+12)) (Op P) (mL P 307 [(ag "way",aE 0)]) H=HG P n i ae H':=by
 refine a8 (draw (P:=P) (n:=n+11) (W:=3) h (by exact uH _)) λr H' hr hO hd=>?_;refine⟨H',hO,r,mL P 307 [(ag "label",[a7 "t1",a7 "t2",a7 "t3"].getD r .none),(ag "way",aE 0)],by exact Q2 hr,b8 ?_⟩;have e:EX P (CN P (n+12)) (MN P (n+12)) (a9 P 307 1) (mL P 307 [(ag "way",aE 0)]) H=br P (CN P (n+12)) (MN P (n+12)) [bC P 307 1 0,bC P 307 1 1] (mL P 307 [(ag "way",aE 0)]) H:=by
  generalize CN P (n+12)=cl;kernel_rfl
 refine aa e ?_;have e1:EX P (CN P (n+12)) (MN P (n+12)) (bC P 307 1 0) (mL P 307 [(ag "way",aE 0)]) H=dh "label" (M.bind (CN P (n+12) 269 [.hand,aE 3]) λiv=>lift (dK (.tup [a7 "t1",a7 "t2",a7 "t3"]) iv)) (mL P 307 [(ag "way",aE 0)]) H:=by
  generalize CN P (n+12)=cl;kernel_rfl
 have e2:(List.range 3).map (λr=>M.bind (lift (dK (.tup [a7 "t1",a7 "t2",a7 "t3"]) (aE r))) (λv=>bB (ag "label") v (mL P 307 [(ag "way",aE 0)])) H')=(List.range 3).map (λr=>some (.ok (mL P 307 [(ag "label",[a7 "t1",a7 "t2",a7 "t3"].getD r .none),(ag "way",aE 0)]),H')):=by kernel_rfl
 have e3:(List.range 3).map (λr=>br P (CN P (n+12)) (MN P (n+12)) [bC P 307 1 1] (mL P 307 [(ag "label",[a7 "t1",a7 "t2",a7 "t3"].getD r .none),(ag "way",aE 0)]) H')=(List.range 3).map (λr=>HG P n r (mL P 307 [(ag "label",[a7 "t1",a7 "t2",a7 "t3"].getD r .none),(ag "way",aE 0)]) H'):=by kernel_rfl
 refine ay (e1.trans ?_) (bh e3 hr);have e4:=bh e2 hr;have: ∀v,M.bind (lift (dK (.tup [a7 "t1",a7 "t2",a7 "t3"]) (aE r))) (λv=>bB (ag "label") v (mL P 307 [(ag "way",aE 0)])) H'=some (.ok v,H')->dh "label" (M.bind (CN P (n+12) 269 [.hand,aE 3]) λiv=>lift (dK (.tup [a7 "t1",a7 "t2",a7 "t3"]) iv)) (mL P 307 [(ag "way",aE 0)]) H=some (.ok (.next,v),H'):=by
  intro v hv;refine mb ?_ rfl;have:M.bind (M.bind (CN P (n+12) 269 [.hand,aE 3]) λiv=>lift (dK (.tup [a7 "t1",a7 "t2",a7 "t3"]) iv)) (λv=>bB (ag "label") v (mL P 307 [(ag "way",aE 0)])) H=M.bind (lift (dK (.tup [a7 "t1",a7 "t2",a7 "t3"]) (aE r))) (λv=>bB (ag "label") v (mL P 307 [(ag "way",aE 0)])) H':=by
   delta M.bind;exact aa hd rfl
  exact aa this hv
 exact this _ e4
theorem lf1 (h:HO (N+1) H): ∃H',HO N H'/\ ∃i ae,i<27/\br P (CN P (n+12)) (MN P (n+12)) (Op P) (mL P 307 [(ag "way",aE 1)]) H=HG P n i ae H':=by
 refine a8 (term (P:=P) (n:=n+10) h) λr H' hr hO hd=>?_;refine⟨H',hO,3+r,mL P 307 [(ag "t",tA (t4 r)),(ag "way",aE 1)],by exact Q3 hr,?_⟩;refine ay (H1:=H) (aK:=mL P 307 [(ag "way",aE 1)]) (by generalize CN P (n+12)=cl;kernel_rfl) (b8 ?_);have e:EX P (CN P (n+12)) (MN P (n+12)) (a9 P 307 2) (mL P 307 [(ag "way",aE 1)]) H=br P (CN P (n+12)) (MN P (n+12)) [bC P 307 2 0,bC P 307 2 1] (mL P 307 [(ag "way",aE 1)]) H:=by
  generalize CN P (n+12)=cl;kernel_rfl
 refine aa e ?_;have e1:EX P (CN P (n+12)) (MN P (n+12)) (bC P 307 2 0) (mL P 307 [(ag "way",aE 1)]) H=dh "t" (CN P (n+12) 300 [.hand]) (mL P 307 [(ag "way",aE 1)]) H:=by
  generalize CN P (n+12)=cl;kernel_rfl
 have e3:(List.range 4).map (λr=>br P (CN P (n+12)) (MN P (n+12)) [bC P 307 2 1] (mL P 307 [(ag "t",tA (t4 r)),(ag "way",aE 1)]) H')=(List.range 4).map (λr=>HG P n (3+r) (mL P 307 [(ag "t",tA (t4 r)),(ag "way",aE 1)]) H'):=by kernel_rfl
 exact ay (e1.trans (eM hd (by kernel_rfl))) (bh e3 hr)
noncomputable abbrev lR (P:qq9)(k:Nat)(s:String)(r:List (Str×AV)):Loc:=mL P 307 (r++ [(ag "name",a7 s),(ag "way",aE k)])
theorem lf2 (h:HO (N+1) H): ∃H',HO N H'/\ ∃i ae,i<27/\br P (CN P (n+12)) (MN P (n+12)) (Op P) (mL P 307 [(ag "way",aE 2)]) H=HG P n i ae H':=by
 refine a8 (term (P:=P) (n:=n+10) h) λr H' hr hO hd=>?_;refine⟨H',hO,7+r,lR P 2 "r" [(ag "right",.tup [a7 "g",.tup [a7 "?x"],.tup [a7 "a"]]),(ag "left",.tup [a7 "f",.tup [a7 "?x"]]),(ag "table",.dict [ag "?x"] [tA (t4 r)])],by exact Q4 hr,?_⟩;refine ay (H1:=H) (aK:=mL P 307 [(ag "way",aE 2)]) (by generalize CN P (n+12)=cl;kernel_rfl) (ay (H1:=H) (aK:=mL P 307 [(ag "way",aE 2)]) (by generalize CN P (n+12)=cl;kernel_rfl) (ay (H1:=H) (aK:=lR P 2 "r" []) (by generalize CN P (n+12)=cl;kernel_rfl) ?_));have e1:EX P (CN P (n+12)) (MN P (n+12)) (a9 P 307 4) (lR P 2 "r" []) H=dh "table" (M.bind (M.bind (CN P (n+12) 300 [.hand]) λv=>M.pure [v]) λvs=>M.pure (.dict [ag "?x"] vs)) (lR P 2 "r" []) H:=by
  generalize CN P (n+12)=cl;kernel_rfl
 have e3:(List.range 4).map (λr=>br P (CN P (n+12)) (MN P (n+12)) [a9 P 307 5,a9 P 307 6] (lR P 2 "r" [(ag "table",.dict [ag "?x"] [tA (t4 r)])]) H')=(List.range 4).map (λr=>HG P n (7+r) (lR P 2 "r" [(ag "right",.tup [a7 "g",.tup [a7 "?x"],.tup [a7 "a"]]),(ag "left",.tup [a7 "f",.tup [a7 "?x"]]),(ag "table",.dict [ag "?x"] [tA (t4 r)])]) H'):=by kernel_rfl
 exact ay (e1.trans (eM (mb (mb hd rfl) rfl) (by kernel_rfl))) (bh e3 hr)
theorem lf3 (h:HO (N+2) H): ∃H',HO N H'/\ ∃i ae,i<27/\br P (CN P (n+12)) (MN P (n+12)) (Op P) (mL P 307 [(ag "way",aE 3)]) H=HG P n i ae H':=by
 refine a8 (term (P:=P) (n:=n+10) h) λr H1 hr Ua hd=> a8 (term (P:=P) (n:=n+10) Ua) λs H' hs hO iy=>?_;refine⟨H',hO,11+4*r+s,lR P 3 "s" [(ag "right",.tup [a7 "g",.tup [a7 "?y"],.tup [a7 "?x"]]),(ag "left",.tup [a7 "g",.tup [a7 "?x"],.tup [a7 "?y"]]),(ag "table",.dict [ag "?x",ag "?y"] [tA (t4 r),tA (t4 s)])],by exact Q5 hr hs,?_⟩;refine ay (H1:=H) (aK:=mL P 307 [(ag "way",aE 3)]) (by generalize CN P (n+12)=cl;kernel_rfl) (ay (H1:=H) (aK:=mL P 307 [(ag "way",aE 3)]) (by generalize CN P (n+12)=cl;kernel_rfl) (ay (H1:=H) (aK:=lR P 3 "s" []) (by generalize CN P (n+12)=cl;kernel_rfl) ?_));have e1:EX P (CN P (n+12)) (MN P (n+12)) (a9 P 307 4) (lR P 3 "s" []) H=dh "table" (M.bind (M.bind (CN P (n+12) 300 [.hand]) λv=>M.bind (M.bind (CN P (n+12) 300 [.hand]) λv=>M.pure [v]) λvs=>M.pure (v::vs)) λvs=>M.pure (.dict [ag "?x",ag "?y"] vs)) (lR P 3 "s" []) H:=by
  generalize CN P (n+12)=cl;kernel_rfl
 have e3:(List.range 4).map (λr=>(List.range 4).map λs=>br P (CN P (n+12)) (MN P (n+12)) [a9 P 307 5,a9 P 307 6] (lR P 3 "s" [(ag "table",.dict [ag "?x",ag "?y"] [tA (t4 r),tA (t4 s)])]) H')=(List.range 4).map (λr=>(List.range 4).map λs=>HG P n (11+4*r+s) (lR P 3 "s" [(ag "right",.tup [a7 "g",.tup [a7 "?y"],.tup [a7 "?x"]]),(ag "left",.tup [a7 "g",.tup [a7 "?x"],.tup [a7 "?y"]]),(ag "table",.dict [ag "?x",ag "?y"] [tA (t4 r),tA (t4 s)])]) H'):=by kernel_rfl
 exact ay (e1.trans (eM (mb (mb hd (mb (mb iy rfl) rfl)) rfl) (by kernel_rfl))) (bh (bh e3 hr) hs)
theorem lt4 {p:Nat->Prop}(a:p 0)(b:p 1)(c:p 2)(d:p 3)(r:Nat)(h:r<4):p r:=by
 cases r with
 |zero=>exact a|succ r=>cases r with
  |zero=>exact b|succ r=>cases r with
   |zero=>exact c|succ r=>cases r with
    |zero=>exact d|succ r=>exact absurd h (qxA.mpr (uj 4 r))
theorem leaf {N:Nat}(h:HO (N+3) H): ∃(i:Nat) (s:Sd) (H':HS),i<27/\jA i=some s/\HO N H'/\CN P (n+13) 307 [.hand] H=some (.ok (.tup [cX i,i_ s]),H'):=by
 refine a8 (draw (P:=P) (n:=n+11) (W:=4) h (by exact uH _)) λr H1 hr hO hd=>?_;have e1:EX P (CN P (n+12)) (MN P (n+12)) (a9 P 307 0) (mL P 307 []) H=dh "way" (CN P (n+12) 269 [.hand,aE 4]) (mL P 307 []) H:=by
  generalize CN P (n+12)=cl;kernel_rfl
 have e2:EX P (CN P (n+12)) (MN P (n+12)) (a9 P 307 0) (mL P 307 []) H=some (.ok (.next,mL P 307 [(ag "way",aE r)]),H1):=e1.trans (eM hd (by kernel_rfl));have key: ∃H',HO N H'/\ ∃i ae,i<27/\br P (CN P (n+12)) (MN P (n+12)) (Op P) (mL P 307 [(ag "way",aE r)]) H1=HG P n i ae H':=by
  exact lt4 (p:=λr=>∃H',HO N H'/\ ∃i ae,i<27/\br P (CN P (n+12)) (MN P (n+12)) (Op P) (mL P 307 [(ag "way",aE r)]) H1=HG P n i ae H') (lf0 (hO.mono (Cu))) (lf1 (hO.mono (Cu))) (lf2 (hO.mono (Cu))) (lf3 hO) r hr
 refine af key λH' XN aI=>aY aI λi ae hi he=>?_;have hj: ∃s,jA i=some s:=by
  have:(List.range 27).all (λi=>(jA i).isSome)=true:=by rfl
  exact Option.isSome_iff_exists.mp (qqJ.mp this i (List.mem_range.mpr hi))
 refine ac hj λs hs=>(kP i s H' hi hs XN (aM (n:=n+12) (f:=307) (aK:=ae) T_ ?_));refine aa TZ (ay e2 (he.trans ?_));delta HG;exact aa hs rfl
noncomputable def rt:Pa->Prop
 | .at_ i=>i<27| .turn p=>rt p| .join p q=>rt p/\rt q| .unF p=>rt p| .unG p q=>rt p/\rt q| .join1 _=>False| .unQ _=>False
theorem lT {p r:Pa}:J (.join p r)=match J p with
  | .error e=>.error (0::e)| .ok s=>match J r with
   | .error e=>.error (1::e)| .ok t=>if s.2=t.1 then .ok (s.1,t.2) else .error []:=rfl
theorem Ub {p r:Pa}:J (.unG p r)=match J p with
  | .error e=>.error (0::e)| .ok s=>match J r with
   | .error e=>.error (1::e)| .ok t=>.ok (.g s.1 t.1,.g s.2 t.2):=rfl
noncomputable def draws:Nat->Nat
 |0=>3|k+1=>1+2*draws k
theorem JQ (h:k<1000):binop .Sub (aE (k+1)) (.int 1)=some (aE k):=by
 refine(?_:(if bu ((k+1:Nat):Int) && bu 1 && bu (((k+1:Nat):Int)-1) then some (AV.int (((k+1:Nat):Int)-1)) else none)=_);refine aa (bo (Q6) (Q7 h)) (aa (bo (Fb) (KN)) ?_);refine aa (bo (Q8) (Q9 h)) (?_:some (AV.int (((k+1:Nat):Int)-1))=some (AV.int (k:Int)));exact aa (show((k+1:Nat):Int)-1=(k:Int) by exact QA) rfl
noncomputable def pL (P:qq9)(r:List (Str×AV))(kf:Nat)(k:Nat):Loc:=⟨d2 P 314,r++ [(ag "way",aE kf),(ag "deep",aE k),(ag "hand",.hand)],[]⟩
noncomputable def Uc (P:qq9)(k:Nat):Loc:=⟨d2 P 314,[(ag "deep",aE k),(ag "hand",.hand)],[]⟩
noncomputable def pM (cl:qq7->List AV->M AV)(k:Nat):M AV:=M.bind (M.bind (M.bind (lift (binop .Sub (aE k) (.int 1))) λv=>M.pure [v]) λvs=>M.pure (.hand::vs)) λvs=>cl 314 vs
theorem HH (hk:k<1000)(h:cl 314 [.hand,aE k] H=some (.ok v,H1)):pM cl (k+1) H=some (.ok v,H1):=mb (mb (mb (bF (JQ hk)) rfl) rfl) h
noncomputable def AE (one s1 s2:AV):List (Str×AV):= [(ag "sides",.tup [s1,s2]),(ag "one",one)]
noncomputable def Mi (other u1 u2 one s1 s2:AV):List (Str×AV):= [(ag "late",.tup [u1,u2]),(ag "other",other)]++AE one s1 s2
noncomputable def p8 (P:qq9)(i:Nat):List Stmt:=([a9 P 314 1,a9 P 314 2,a9 P 314 3,a9 P 314 4,a9 P 314 5,a9 P 314 6,a9 P 314 7]).drop i
theorem Mj:bd P 314=a9 P 314 0::p8 P 0:=by kernel_rfl
theorem Mk:CN P (n+1) 314 [.hand,aE k] H=M.bind (br P (CN P n) (MN P n) (bd P 314) (Uc P k)) fY H:=by kernel_rfl
theorem NO {s:Stmt}{m:M AV}{ae aK:Loc}(e:EX P cl mk s ae H=M.bind (M.bind m λv=>aR (gB s) v ae) next H)(h:m H=some (.ok v,H1))(k:aR (gB s) v ae H1=some (.ok aK,H1)):EX P cl mk s ae H=some (.ok (.next,aK),H1):=e.trans (mb (mb h k) rfl)
theorem XO {kf k:Nat}{one s1 s2:AV}{R:Rs (Fl×Loc)}(hw:kf=1\/kf=2\/kf=3\/kf=4)(hk:k<1000)(h:cl 314 [.hand,aE k] H=some (.ok (.tup [one,.tup [s1,s2]]),H1))
  (k2:br P cl mk (p8 P 2) (pL P (AE one s1 s2) kf (k+1)) H1=R):br P cl mk (p8 P 0) (pL P [] kf (k+1)) H=R:=by
 exact ay (H1:=H) (aK:=pL P [] kf (k+1)) (by rcases hw with rfl|rfl|rfl|rfl<;>kernel_rfl) (ay (NO (m:=pM cl (k+1)) (by kernel_rfl) (HH hk h) (by kernel_rfl:_=some (Except.ok (pL P (AE one s1 s2) kf (k+1)),H1))) k2)
theorem ZG (h:cl 307 [.hand] H=some (.ok v,H1)):br P cl mk (p8 P 0) (pL P [] 0 k) H=some (.ok (.ret v,pL P [] 0 k),H1):=by
 have e:EX P cl mk (a9 P 314 1) (pL P [] 0 k) H=br P cl mk [bC P 314 1 0] (pL P [] 0 k) H:=by kernel_rfl
 have e2:EX P cl mk (bC P 314 1 0) (pL P [] 0 k) H=E2 (cl 307 [.hand]) (pL P [] 0 k) H:=by kernel_rfl
 exact b8 (e.trans (b8 (e2.trans (mb h rfl))))
theorem pw1 {one s1 s2:AV}:br P cl mk (p8 P 2) (pL P (AE one s1 s2) 1 k) H=some (.ok (.ret (.tup [.tup [a7 "turn",one],.tup [s2,s1]]),pL P (AE one s1 s2) 1 k),H):=by kernel_rfl
theorem pw3 {one s1 s2:AV}:br P cl mk (p8 P 2) (pL P (AE one s1 s2) 3 k) H=some (.ok (.ret (.tup [.tup [a7 "under",a7 "f",.tup [one]],.tup [.tup [a7 "f",s1],.tup [a7 "f",s2]]]),pL P (AE one s1 s2) 3 k),H):=by kernel_rfl
theorem pw2 {one s1 s2 other u1 u2:AV}{b:Bool}(hk:k<1000)(h:cl 314 [.hand,aE k] H=some (.ok (.tup [other,.tup [u1,u2]]),H1))(hb:gR u1 s2=some b):
  br P cl mk (p8 P 2) (pL P (AE one s1 s2) 2 (k+1)) H=some (.ok (.ret (if b then .tup [.tup [a7 "join",one,other],.tup [s1,u2]] else .tup [.tup [a7 "join",one,.tup [a7 "turn",one]],.tup [s1,s1]]),pL P (Mi other u1 u2 one s1 s2) 2 (k+1)),H1):=by
 refine ay (H1:=H) (aK:=pL P (AE one s1 s2) 2 (k+1)) (by kernel_rfl) (b8 ?_);have e:EX P cl mk (a9 P 314 4) (pL P (AE one s1 s2) 2 (k+1)) H=br P cl mk [bC P 314 4 0,bC P 314 4 1,bC P 314 4 2] (pL P (AE one s1 s2) 2 (k+1)) H:=by kernel_rfl
 have e2:EX P cl mk (bC P 314 4 1) (pL P (Mi other u1 u2 one s1 s2) 2 (k+1)) H1=M.bind (lift (gR u1 s2)) (λc=>if c then br P cl mk (bS (bC P 314 4 1)) (pL P (Mi other u1 u2 one s1 s2) 2 (k+1)) else br P cl mk [] (pL P (Mi other u1 u2 one s1 s2) 2 (k+1))) H1:=by kernel_rfl
 refine e.trans (ay (NO (m:=pM cl (k+1)) (by kernel_rfl) (HH hk h) (by kernel_rfl:_=some (Except.ok (pL P (Mi other u1 u2 one s1 s2) 2 (k+1)),H1))) ?_);replace e2:=hb▸e2
 induction b using Bool.casesOn with
 |true=>exact b8 (e2.trans (by kernel_rfl))|false=>exact ay (e2.trans (by kernel_rfl:_=some (Except.ok (Fl.next,pL P (Mi other u1 u2 one s1 s2) 2 (k+1)),H1))) (by kernel_rfl)
theorem pw4 {one s1 s2 other u1 u2:AV}(hk:k<1000)(h:cl 314 [.hand,aE k] H=some (.ok (.tup [other,.tup [u1,u2]]),H1)):
  br P cl mk (p8 P 2) (pL P (AE one s1 s2) 4 (k+1)) H=some (.ok (.ret (.tup [.tup [a7 "under",a7 "g",.tup [one,other]],.tup [.tup [a7 "g",s1,u1],.tup [a7 "g",s2,u2]]]),pL P (Mi other u1 u2 one s1 s2) 4 (k+1)),H1):=by
 exact ay (H1:=H) (aK:=pL P (AE one s1 s2) 4 (k+1)) (by kernel_rfl) (ay (H1:=H) (aK:=pL P (AE one s1 s2) 4 (k+1)) (by kernel_rfl) (ay (H1:=H) (aK:=pL P (AE one s1 s2) 4 (k+1)) (by kernel_rfl) (ay (NO (m:=pM cl (k+1)) (by kernel_rfl) (HH hk h) (by kernel_rfl:_=some (Except.ok (pL P (Mi other u1 u2 one s1 s2) 4 (k+1)),H1))) (by kernel_rfl))))
def Drawn (P:qq9)(n k N:Nat)(H:HS):Prop:= ∃(p:Pa) (s:Sd) (H':HS),rt p/\J p= .ok s/\dp p<=2*k/\HO N H'/\CN P n 314 [.hand,aE k] H=some (.ok (.tup [av p,i_ s]),H')
theorem Ai: ∀(k n N:Nat) (H:HS),k<=10->HO (N+draws k) H->Drawn P (n+14+k) k N H
 |0,n,N,H,_,h=>by
  refine gE (leaf (P:=P) (n:=n) h) λi s H' hi hj hO hl=>(j2 (.at_ i) s H' hi ?_ (uG _) hO (aM (n:=n+13) (aK:=pL P [] 0 0) Mk ?_))
  ·refine(?_:(match jA i with|some s=>Except.ok s|none=>.error [])=_);exact aa hj rfl
  refine aa Mj (ay (H1:=H) (aK:=pL P [] 0 0) ?_ (ZG hl));generalize CN P (n+13)=cl;kernel_rfl
 |k+1,n,N,H,hk,h=>by
  refine(?_: ∃_,_);dsimp only [draws] at h;refine a8 (draw (P:=P) (n:=n+13+k) (W:=5) (N:=N+2*draws k) (by rw [uV];rwa [vH (2*draws k)]) (by exact uH _)) ?_;intro r H1 hr hO hd;have e1:EX P (CN P (n+14+k)) (MN P (n+14+k)) (a9 P 314 0) (Uc P (k+1)) H=M.bind (M.bind (M.bind (lift (some (decide (((k+1:Nat):Int)>0)))) λc=>if c then CN P (n+14+k) 269 [.hand,aE 5] else M.pure (.int 0)) λv=>bB (ag "way") v (Uc P (k+1))) next H:=by
   generalize CN P (n+14+k)=cl;kernel_rfl
  replace e1:=(decide_eq_true (show((k+1:Nat):Int)>0 by exact QB))▸e1;have hd:CN P (n+14+k) 269 [.hand,aE 5] H=some (.ok (aE r),H1):=by
   have:n+14+k=n+13+k+1:=by exact QC
   exact aa this hd
  have e2:EX P (CN P (n+14+k)) (MN P (n+14+k)) (a9 P 314 0) (Uc P (k+1)) H=some (.ok (.next,pL P [] r (k+1)),H1):=e1.trans (mb (mb (mb (a:=true) (H1:=H) rfl hd) (by kernel_rfl)) rfl);have fin: ∀(p:Pa) (s:Sd) (ae:Loc) (H':HS),rt p->J p= .ok s->dp p<=2*(k+1)->HO N H'->br P (CN P (n+14+k)) (MN P (n+14+k)) (p8 P 0) (pL P [] r (k+1)) H1=some (.ok (.ret (.tup [av p,i_ s]),ae),H')->Drawn P (n+14+(k+1)) (k+1) N H:=by
   intro p s ae H' h1 h2 h3 h4 h5;refine(j2 p s H' h1 h2 h3 h4 (aM (n:=n+14+k) (aK:=ae) Mk ?_));refine(?_:br P _ _ (bd P 314) (Uc P (k+1)) H=_);exact aa Mj (ay e2 h5)
  by_cases h0:r=0
  ·subst h0;refine gE (leaf (P:=P) (n:=n+1+k) (N:=N) (hO.mono (by have: ∀k,3<=draws k:=λk=>by{induction k with|zero=>exact ur _|succ k ih=>dsimp only [draws];exact QD ih};have:=this k;exact QE this))) ?_;intro i s H' hi hj XN hl;have hl:CN P (n+14+k) 307 [.hand] H1=some (.ok (.tup [cX i,i_ s]),H'):=by
    have:n+14+k=n+1+k+13:=by exact QF
    exact aa this hl
   refine fin (.at_ i) s _ H' hi ?_ (uG _) XN (ZG hl);refine(?_:(match jA i with|some s=>Except.ok s|none=>.error [])=_);exact aa hj rfl
  ·refine cG (Ai k n (N+draws k) H1 (Fd hk) (by rw [uV];rwa [Nat.two_mul] at hO)) ?_;intro p s H2 rp Jp kD Ml hp;have b1:=il Jp;have hw:r=1\/r=2\/r=3\/r=4:=by exact QG hr h0
   have go: ∀{R},br P (CN P (n+14+k)) (MN P (n+14+k)) (p8 P 2) (pL P (AE (av p) (tA s.1) (tA s.2)) r (k+1)) H2=R->br P (CN P (n+14+k)) (MN P (n+14+k)) (p8 P 0) (pL P [] r (k+1)) H1=R:=λh=>XO hw (Fe hk) hp h;rcases hw with rfl|rfl|rfl|rfl
   ·refine fin (.turn p) (s.2,s.1) _ H2 rp ?_ (by dsimp only [dp];exact KP kD) (Ml.mono (KQ)) (go pw1);unfold J;exact aa Jp rfl
   ·refine cG (Ai k n N H2 (Fd hk) Ml) λq t H3 rq Jq UQ Oq hq=>?_;have b2:=il Jq;have hx:=go (pw2 (one:=av p) (s1:=tA s.1) (Fe hk) hq (Ae (s:=t.1) (t:=s.2) (QH hk UQ b2) (QI hk kD b1)));by_cases z:t.1=s.2
    ·replace hx:=(decide_eq_true z)▸hx;refine fin (.join p q) (s.1,t.2) _ H3 ⟨rp,rq⟩ ?_ (by dsimp only [dp];exact KR kD UQ) Oq hx;refine aa lT (aa Jp ?_);refine aa Jq (?_:(if s.2=t.1 then _ else _)=_);exact aa (if_pos z.symm) rfl
    ·replace hx:=(decide_eq_false z)▸hx;refine fin (.join p (.turn p)) (s.1,s.1) _ H3 ⟨rp,rp⟩ ?_ (by dsimp only [dp];exact QJ kD) Oq hx;refine aa lT (aa (show J (.turn p)= .ok (s.2,s.1) by unfold J;exact aa Jp rfl) ?_);refine aa Jp (?_:(if s.2=s.2 then _ else _)=_);exact aa (if_pos rfl) rfl
   ·refine fin (.unF p) (.f s.1,.f s.2) _ H2 rp ?_ (by dsimp only [dp];exact KP kD) (Ml.mono (KQ)) (go pw3);unfold J;exact aa Jp rfl
   ·refine cG (Ai k n N H2 (Fd hk) Ml) λq t H3 rq Jq UQ Oq hq=> fin (.unG p q) (.g s.1 t.1,.g s.2 t.2) _ H3 ⟨rp,rq⟩ ?_ (by dsimp only [dp];exact KR kD UQ) Oq (go (pw4 (Fe hk) hq));exact aa Ub (aa Jp (aa Jq rfl))
noncomputable def bz:Pa->List (List Int)
 | .turn p=>[]::(bz p).map (0:: ·)| .join p q=>[]::((bz p).map (0:: ·)++(bz q).map (1:: ·))| .unF p=>[]::(bz p).map (0:: ·)| .unG p q=>[]::((bz p).map (0:: ·)++(bz q).map (1:: ·))|_=>[[]]
theorem bx: ∀p,(bz p).length=sz p
 | .turn p=>by simp [bz,sz,bx p]
 | .join p q=>by simp [bz,sz,bx p,bx q]
 | .unF p=>by simp [bz,sz,bx p]
 | .unG p q=>by simp [bz,sz,bx p,bx q]
 | .at_ _=>rfl| .join1 _=>rfl| .unQ _=>rfl
theorem bJ: ∀(p:Pa) (w:List Int),w∈bz p->w.length<=dp p
 | .turn p,w,h=>by
  simp only [bz,uY,vM] at h;refine ui h ?_ ?_;(all_goals clear h);intro az;subst az;rotate_left;intro az;refine af az λu hu jX=>?_;clear az;subst jX;rotate_right
  ·exact uG _
  ·have:=bJ p u hu;dsimp only [dp,uT];exact mP this
 | .join p q,w,h=>by
  simp only [bz,uY,vT,vM] at h;rcases h with rfl|⟨u,hu,rfl⟩|⟨u,hu,rfl⟩
  ·exact uG _
  ·have:=bJ p u hu;dsimp only [dp,uT];exact KS this
  ·have:=bJ q u hu;dsimp only [dp,uT];exact KU this
 | .unF p,w,h=>by
  simp only [bz,uY,vM] at h;refine ui h ?_ ?_;(all_goals clear h);intro az;subst az;rotate_left;intro az;refine af az λu hu jX=>?_;clear az;subst jX;rotate_right
  ·exact uG _
  ·have:=bJ p u hu;dsimp only [dp,uT];exact mP this
 | .unG p q,w,h=>by
  simp only [bz,uY,vT,vM] at h;rcases h with rfl|⟨u,hu,rfl⟩|⟨u,hu,rfl⟩
  ·exact uG _
  ·have:=bJ p u hu;dsimp only [dp,uT];exact KS this
  ·have:=bJ q u hu;dsimp only [dp,uT];exact KU this
 | .at_ _,w,h=>by cases qq2.mp h;exact uG _
 | .join1 _,w,h=>by cases qq2.mp h;exact uG _
 | .unQ _,w,h=>by cases qq2.mp h;exact uG _
noncomputable def XP (x:Option (AV×AV))(p:AV):List (Str×AV):=match x with
 |some (k,o)=>[(ag "part",o),(ag "k",k),(ag "paper",p)]
 |none=>[(ag "paper",p)]
noncomputable def xL (P:qq9)(x:Option (AV×AV))(p:AV)(F:List AV):Loc:=⟨d2 P 326,XP x p,[(ag "found",.list F)]⟩
noncomputable abbrev xC (P:qq9):Expr:=Dt (bC P 326 1 0)
end
section
variable {P:qq9}{cl mk:qq7->List AV->M AV}{n:Nat}{H:HS}{x:Option (AV×AV)}{p part:AV}{F:List AV}{k:Int}{d:Nat}{ea:AV}{l:List AV}{s:Sd}{c:Expr}{ae:Loc}
theorem E3 {w:List Int}(h:w.length<=900):binop .Add (.tup [.int k]) (pv w)=some (pv (k::w)):=by
 refine(?_:(if 1+(w.map AV.int).length<=1000 then some (AV.tup ([.int k]++w.map .int)) else none)=_);refine aa (if_pos (by rw [uQ];exact QK h)) ?_;rfl
theorem HI (t: ∀w,m0 P cl mk c ae (pv w) H=some (.ok true,H))(el: ∀w,Du P cl mk c ae (pv w) H=i9 (lift (binop .Add (.tup [.int k]) (pv w))) H): ∀ws:List (List Int),(∀w∈ws,w.length<=900)->ck (m0 P cl mk c ae) (Du P cl mk c ae) (ws.map pv) H=some (.ok (ws.map λw=>pv (k::w)),H)
 | [],_=>rfl|w::r,h=>cU (t w) ((el w).trans (pO (bF (E3 (h w (uE ..)))))) (HI t el r λu hu=>h u (uz _ hu))
theorem Ud {ws:List (List Int)}(h:cl 326 [part] H=some (.ok (.list (ws.map pv)),H))(hl:ws.length<=1000)(hw: ∀w∈ws,w.length<=900):
  ev (CC P) cl mk 3 (xC P) (xL P (some (.int k,part)) p F) H=some (.ok (.list (ws.map λw=>pv (k::w))),H):=by
 have e:ev (CC P) cl mk 3 (xC P) (xL P (some (.int k,part)) p F)=M.bind (yG (CC P) cl mk 3 (cT (xC P)) (cI (xC P)) (xL P (some (.int k,part)) p F) (ev (CC P) cl mk 3 (cI (xC P)) (xL P (some (.int k,part)) p F))) (fZ P cl mk (xC P) (xL P (some (.int k,part)) p F)):=by kernel_rfl
 have e2:yG (CC P) cl mk 3 (cT (xC P)) (cI (xC P)) (xL P (some (.int k,part)) p F) (ev (CC P) cl mk 3 (cI (xC P)) (xL P (some (.int k,part)) p F)) H=M.bind (cl 326 [part]) (λr=>lift (fN r)) H:=by kernel_rfl
 refine aa e (mb (e2.trans (mb h rfl)) (?_:(if(ws.map pv).length<=1000 then M.bind (ck (m0 P cl mk (xC P) (xL P (some (.int k,part)) p F)) (Du P cl mk (xC P) (xL P (some (.int k,part)) p F)) (ws.map pv)) (λys=>M.pure (AV.list ys)) else(stuck:M AV)) H=_));exact aa (if_pos (by rw [uQ];exact hl)) (mb (HI (λw=>by kernel_rfl) (λw=>by kernel_rfl) ws hw) rfl)
theorem xt0:aR (pK (a9 P 326 1)) (.tup [.int k,part]) (xL P x p F) H=some (.ok (xL P (some (.int k,part)) p F),H):=by
 cases x<;>kernel_rfl
set_option tactic.hygienic true in
theorem HJ {ws:List (List Int)}(h:cl 326 [part] H=some (.ok (.list (ws.map pv)),H))(hl:F.length+ws.length<=1000)(hw: ∀w∈ws,w.length<=900):
  bQ P cl mk (a9 P 326 1) (.tup [.int k,part]) (xL P x p F) H=some (.ok (.next,xL P (some (.int k,part)) p (F++ws.map λw=>pv (k::w))),H):=by
 refine mb xt0 (aa (show bS (a9 P 326 1)= [bC P 326 1 0] by kernel_rfl) (gQ ?_));have e:EX P cl mk (bC P 326 1 0) (xL P (some (.int k,part)) p F) H=M.bind (M.bind (ev (CC P) cl mk 3 (xC P) (xL P (some (.int k,part)) p F)) λv=>match v with
   | .list r=>if F.length+r.length<=1000 then cw (ag "found") (.list (F++r)) (xL P (some (.int k,part)) p F) else stuck
   | .tup r=>if F.length+r.length<=1000 then cw (ag "found") (.list (F++r)) (xL P (some (.int k,part)) p F) else stuck
   |_=>stuck) next H:=by kernel_rfl
 refine aa e (mb (mb (Ud h (QL hl) hw) ?_) rfl);refine(?_:(if F.length+(ws.map λw=>pv (k::w)).length<=1000 then cw (ag "found") (.list (F++ws.map λw=>pv (k::w))) (xL P (some (.int k,part)) p F) else stuck) H=_);refine aa (if_pos (by rw [uQ];exact hl)) ?_;kernel_rfl
theorem Ue:bd P 326= [a9 P 326 0,a9 P 326 1,a9 P 326 2]:=by kernel_rfl
theorem Uf:CN P (n+1) 326 [p] H=M.bind (br P (CN P n) (MN P n) (bd P 326) ⟨d2 P 326,[(ag "paper",p)],[]⟩) fY H:=by kernel_rfl
theorem NP {ks:List AV}{x':Option (AV×AV)}(h:CN P n 321 [p] H=some (.ok (.tup ks),H))(h2:bU (bQ P (CN P n) (MN P n) (a9 P 326 1)) (cZ ks) (xL P none p [.tup []]) H=some (.ok (.next,xL P x' p F),H)):CN P (n+1) 326 [p] H=some (.ok (.list F),H):=by
 refine aM (aK:=xL P x' p F) Uf (aa Ue ?_);have e1:EX P (CN P n) (MN P n) (a9 P 326 1) (xL P none p [.tup []]) H=M.bind (M.bind (CN P n 321 [p]) λv=>lift ((EK v).map cZ)) (λitems=>bU (bQ P (CN P n) (MN P n) (a9 P 326 1)) items (xL P none p [.tup []])) H:=by
  generalize CN P n=cl;kernel_rfl
 refine ay (H1:=H) (aK:=xL P none p [.tup []]) (by generalize CN P n=cl;kernel_rfl) (ay (e1.trans (mb (mb h rfl) h2)) (b8 ?_));cases x'<;>kernel_rfl
theorem E4 (P:qq9)(n:Nat)(H:HS):(List.range 27).map (λi=>CN P (n+12) 321 [cX i] H)=(List.range 27).map (λi=>some (.ok (.tup []),H)):=by kernel_rfl
theorem bN {f:qq7}{a b:Nat}(e:a=b){R:Rs AV}(h:CN P b f l H=R):CN P a f l H=R:=by exact aa e h
theorem Ug: ∀(p:Pa) (n:Nat),rt p->dp p<=50->sz p<=900->CN P (n+13+dp p) 326 [av p] H=some (.ok (.list ((bz p).map pv)),H):=by
 have one: ∀(p r:Pa) (n:Nat),big r=true->ij r= [p]->dp r=dp p+1->dp r<=50->sz p<=899->bz r= []::(bz p).map (0:: ·)->CN P (n+13+dp p) 326 [av p] H=some (.ok (.list ((bz p).map pv)),H)->CN P (n+13+dp r) 326 [av r] H=some (.ok (.list ((bz r).map pv)),H):=by
  intro p r n hb hk hd iy hs hp h;have a:=pN (P:=P) (n:=n+1+dp p) (H:=H) hb;replace a:=hk▸a;have a2:=HJ (P:=P) (mk:=MN P (n+13+dp p)) (x:=none) (p:=av r) (F:= [.tup []]) (k:=0) h (by have:=bx p;dsimp;exact QM hs this) (λw hw=>by have:=bJ p w hw;exact QN hd iy this);refine bN (by refine aa hd ?_;rfl) (NP (n:=n+13+dp p) (x':=some (.int 0,av p)) (F:=(bz r).map pv) (bN (QO) a) (Eq.trans (mb a2 rfl) ?_));refine aa hp ?_;simp only [ut,List.map_map];rfl
 have TD: ∀(p q r:Pa) (n:Nat),big r=true->ij r= [p,q]->dp r=max (dp p) (dp q)+1->dp r<=50->sz p+sz q<=899->bz r= []::((bz p).map (0:: ·)++(bz q).map (1:: ·))->(∀n,CN P (n+13+dp p) 326 [av p] H=some (.ok (.list ((bz p).map pv)),H))->(∀n,CN P (n+13+dp q) 326 [av q] H=some (.ok (.list ((bz q).map pv)),H))->CN P (n+13+dp r) 326 [av r] H=some (.ok (.list ((bz r).map pv)),H):=by
  intro p q r n hb hk hd iy hs hp h h2;have a:=pN (P:=P) (n:=n+1+max (dp p) (dp q)) (H:=H) hb;replace a:=hk▸a;have h:=bN (a:=n+13+max (dp p) (dp q)) (QP) (h (n+(max (dp p) (dp q)-dp p)));have h2:=bN (a:=n+13+max (dp p) (dp q)) (QQ) (h2 (n+(max (dp p) (dp q)-dp q)));have l1:=bx p;have l2:=bx q;have a2:=HJ (P:=P) (mk:=MN P (n+13+max (dp p) (dp q))) (x:=none) (p:=av r) (F:= [.tup []]) (k:=0) h (by dsimp;exact QR hs l1) (λw hw=>by have:=bJ p w hw;exact QS hd iy this);have a3:=HJ (P:=P) (mk:=MN P (n+13+max (dp p) (dp q))) (x:=some (.int 0,av p)) (p:=av r) (F:= [.tup []]++(bz p).map λw=>pv (0::w)) (k:=1) h2 (by simp;exact QT hs l1 l2) (λw hw=>by have:=bJ q w hw;exact QU hd iy this);refine bN (by refine aa hd ?_;rfl) (NP (n:=n+13+max (dp p) (dp q)) (x':=some (.int 1,av q)) (F:=(bz r).map pv) (bN (QV) a) (Eq.trans (mb a2 (mb a3 rfl)) ?_));refine aa hp ?_;simp only [ut,List.map_map,uA];rfl
 intro p
 induction p with
 |at_ i=>
  intro n hr hd hs;exact bN rfl (NP (n:=n+12) (x':=none) (bh (E4 P n H) hr) rfl)
 |turn p ih=>
  intro n hr hd hs;simp only [dp,sz] at hd hs;exact one p _ n rfl rfl rfl hd (KV hs) rfl (ih n hr (KW hd) (KY hs))
 |unF p ih=>
  intro n hr hd hs;simp only [dp,sz] at hd hs;exact one p _ n rfl rfl rfl hd (KV hs) rfl (ih n hr (KW hd) (KY hs))
 |join p q ih Hm=>
  intro n hr hd hs;simp only [dp,sz] at hd hs;exact TD p q _ n rfl rfl rfl hd (KZ hs) rfl (λn=>ih n hr.1 (K_ hd) (La hs)) (λn=>Hm n hr.2 (Lb hd) (Lc hs))
 |unG p q ih Hm=>
  intro n hr hd hs;simp only [dp,sz] at hd hs;exact TD p q _ n rfl rfl rfl hd (KZ hs) rfl (λn=>ih n hr.1 (K_ hd) (La hs)) (λn=>Hm n hr.2 (Lb hd) (Lc hs))
 |join1 p=>intro n hr;exact hr.elim|unQ p=>intro n hr;exact hr.elim
noncomputable def jb:Pa->Nat
 | .at_ i=>if i<3 then 39 else if i<7 then 40 else 41
 | .turn _=>42| .join _ _=>43|_=>44
noncomputable def HK (p:Pa):List Pa:= [.at_ 27,.at_ 1,.at_ 28,.at_ 29,.at_ 30,.at_ 32,.at_ 33,.at_ 31,.at_ 34,.join1 p,.join p p,.turn p,.unF (.at_ (jb p)),.unQ p,.at_ 39,.at_ 35,.join (.at_ 27) (.at_ 28),.at_ 36,.at_ 37,.at_ 38]
noncomputable def Aj (x pp:AV):List AV:= [cX 27,cX 1,cX 28,cX 29,cX 30,cX 32,cX 33,cX 31,cX 34,.tup [a7 "join",pp],.tup [a7 "join",pp,pp],.tup [a7 "turn",pp],.tup [a7 "under",a7 "f",.tup [x]],.tup [a7 "under",a7 "?f",.tup [pp]],cX 39,cX 35,.tup [a7 "join",cX 27,cX 28],cX 36,cX 37,cX 38]
theorem JR (p:Pa):(HK p).map av=Aj (cX (jb p)) (av p):=rfl
theorem dD: ∀{p:Pa},rt p->ok p
 | .at_ _,h=>vj h (by exact uj _ _)| .turn p,h=>dD (p:=p) h| .join p q,h=>⟨dD (p:=p) h.1,dD (p:=q) h.2⟩
 | .unF p,h=>dD (p:=p) h| .unG p q,h=>⟨dD (p:=p) h.1,dD (p:=q) h.2⟩
theorem JS (p:Pa):jb p<45:=by
 cases p<;>dsimp only [jb]<;>(repeat' split)<;>(first|(exact uj _ _)|(exact ur _))
theorem JT {p q:Pa}(h:rt p)(hq:q∈HK p):ok q/\dp q<=dp p+1:=by
 have a:=dD h;have b:=JS p;simp only [HK,uY,List.not_mem_nil,or_false] at hq;rcases hq with rfl|rfl|rfl|rfl|rfl|rfl|rfl|rfl|rfl|rfl|rfl|rfl|rfl|rfl|rfl|rfl|rfl|rfl|rfl|rfl<;>simp [ok,dp,a,b]
noncomputable def Uh:AV->List AV
 | .tup (_::r)=>r|_=>[]
theorem pW {p:Pa}(h:rt p): ∃r,av p= .tup (cX (jb p)::r):=by
 cases p with
 |at_ i=>
  have e:(List.range 27).map cX=(List.range 27).map (λi=>AV.tup (cX (jb (.at_ i))::Uh (cX i))):=by kernel_rfl
  exact⟨_,bh e h⟩
 |turn p=>exact⟨_,rfl⟩|join p q=>exact⟨_,rfl⟩|unF p=>exact⟨_,rfl⟩|unG p q=>exact⟨_,rfl⟩|join1 p=>exact h.elim|unQ p=>exact h.elim
theorem lU: ∀w:List Int,aD 1 (w.map .int)
 | []=>aD.nil|a::r=>aD.cons (aV (.int a) rfl (by unfold qx3;rfl) (by unfold PyData.depth;exact yM)) (lU r)
theorem JU (h:aD d l)(hd:d<=60):gR (.tup l) (.tup [])=some l.isEmpty:=by
 refine aC h λq a b c=> aa (oE (oB (gk a) b (uh (ub c (ub hd (by exact uj _ _))))) (by kernel_rfl:Cg (.tup [])=some (.tuple []))) ?_
 induction l using List.casesOn with
 |nil=>refine bq (ug (show some []=some q from a)) ?_;rfl|cons v r=>
  refine a8 (fP a) λp ps ak c8 e=> bq e ?_;rfl
noncomputable def bL (P:qq9)(r:List (Str×AV))(pp:AV)(w:List Int)(om:List (Str×OB)):Loc:=⟨d2 P 333,r++ [(ag "way",pv w),(ag "paper",pp),(ag "hand",.hand)],om⟩
variable {H':HS}{pp a v res:AV}{w:List Int}{ks ks':List AV}
theorem Mm:bd P 333= [a9 P 333 0,a9 P 333 1,a9 P 333 2]:=by kernel_rfl
theorem HL:CN P (n+1) 333 [.hand,pp,pv w] H=M.bind (br P (CN P n) (MN P n) (bd P 333) (bL P [] pp w [])) fY H:=by kernel_rfl
theorem bs0:EX P cl mk (a9 P 333 0) (bL P [] pp w []) H=M.bind (lift ((gR (pv w) (.tup [])).map (!·))) (λc=>if c then br P cl mk [bC P 333 0 0,bC P 333 0 1,bC P 333 0 2] (bL P [] pp w []) else br P cl mk [] (bL P [] pp w [])) H:=by kernel_rfl
noncomputable def Ui (P:qq9)(cl mk:qq7->List AV->M AV)(v:AV)(ae:Loc):M Loc:=eP (CC P) cl mk (TN (gB (bC P 333 0 1))) (TO (gB (bC P 333 0 1))) v ae
theorem oj (h1:CN P n 321 [pp] H=some (.ok (.tup ks),H))
  (e1:EX P (CN P n) (MN P n) (bC P 333 0 1) (bL P [] pp (k::w) [(ag "some",.list ks)]) H=M.bind (M.bind (CN P n 333 [.hand,a,pv w]) λv=>Ui P (CN P n) (MN P n) v (bL P [] pp (k::w) [(ag "some",.list ks)])) next H)
  (hA:Ui P (CN P n) (MN P n) v (bL P [] pp (k::w) [(ag "some",.list ks)]) H'=some (.ok (bL P [] pp (k::w) [(ag "some",.list ks')]),H'))
  (e2:EX P (CN P n) (MN P n) (bC P 333 0 2) (bL P [] pp (k::w) [(ag "some",.list ks')]) H'=some (.ok (.ret res,bL P [] pp (k::w) [(ag "some",.list ks')]),H'))
  (h:CN P n 333 [.hand,a,pv w] H=some (.ok v,H')):CN P (n+1) 333 [.hand,pp,pv (k::w)] H=some (.ok res,H'):=by
 refine aM (f:=333) (aK:=bL P [] pp (k::w) [(ag "some",.list ks')]) (rho:= [(ag "way",pv (k::w)),(ag "paper",pp),(ag "hand",.hand)]) HL (?_:br P _ _ (bd P 333) (bL P [] pp (k::w) []) H=_);refine aa Mm (b8 (bs0.trans (mb (H1:=H) (bF (a:=true) ?_) ?_)))
 ·refine aa (show gR (pv (k::w)) (.tup [])=some false from JU (lU (k::w)) (by exact uH _)) ?_;rfl
 ·refine(?_:br P _ _ [bC P 333 0 0,bC P 333 0 1,bC P 333 0 2] _ H=_);have e0:EX P (CN P n) (MN P n) (bC P 333 0 0) (bL P [] pp (k::w) []) H=M.bind (M.bind (M.bind (CN P n 321 [pp]) λv=>match v with
    | .tup l=>M.pure (OB.list l)|_=>stuck) λob=>jV (ag "some") ob (bL P [] pp (k::w) [])) next H:=by
   generalize CN P n=cl;kernel_rfl
  exact ay (e0.trans (mb (mb (mb h1 rfl) (by kernel_rfl:_=some (Except.ok (bL P [] pp (k::w) [(ag "some",.list ks)]),H))) rfl)) (ay (e1.trans (mb (mb h hA) rfl)) (b8 e2))
theorem Ak {N:Nat}{p:Pa}(hp:rt p)(h:HO (N+1) H): ∃(q:Pa) (H':HS),ok q/\dp q<=dp p+1/\HO N H'/\CN P (n+13) 333 [.hand,av p,pv []] H=some (.ok (av q),H'):=by
 refine a8 (draw (P:=P) (n:=n+11) (W:=20) h (by exact uH _)) λr H' hr hO hd=> ac (⟨(HK p)[r]'hr,qqI hr⟩: ∃q,(HK p)[r]? =some q) ?_;intro q hq;refine ai (JT hp (List.mem_of_getElem? hq)) λok' dp'=>(dn q H' ok' dp' hO ?_);refine ac (pW hp) λt ht=>?_;have hv:(Aj (cX (jb p)) (av p))[r]? =some (av q):=by rewrite [<-JR];refine aa qzG ?_;refine aa hq ?_;rfl
 rw [ht] at hv⊢;generalize cX (jb p)=x at hv⊢;generalize av q=v at hv⊢;refine aM (n:=n+12) (f:=333) (aK:=bL P [] (.tup (x::t)) [] [(ag "odd",.list (Aj x (.tup (x::t))))]) (rho:= [(ag "way",pv []),(ag "paper",.tup (x::t)),(ag "hand",.hand)]) HL (?_:br P _ _ (bd P 333) (bL P [] (.tup (x::t)) [] []) H=_);refine aa Mm ?_;generalize CN P (n+12)=cl at hd⊢;refine ay (H1:=H) (aK:=bL P [] (.tup (x::t)) [] []) (by kernel_rfl) (ay (H1:=H) (aK:=bL P [] (.tup (x::t)) [] [(ag "odd",.list (Aj x (.tup (x::t))))]) (by kernel_rfl) (b8 ?_));have e:EX P cl (MN P (n+12)) (a9 P 333 2) (bL P [] (.tup (x::t)) [] [(ag "odd",.list (Aj x (.tup (x::t))))]) H=E2 (M.bind (cl 269 [.hand,aE 20]) λiv=>match iv with| .int k=>lift (gS (Aj x (.tup (x::t))) k)|_=>stuck) (bL P [] (.tup (x::t)) [] [(ag "odd",.list (Aj x (.tup (x::t))))]) H:=by kernel_rfl
 refine e.trans (mb (mb hd (bF (a:=v) ?_)) rfl);refine(?_:(if 0<=((r:Nat):Int)/\bu ((r:Nat):Int)=true then(Aj x (.tup (x::t)))[((r:Nat):Int).toNat]? else none)=_);refine aa (if_pos ⟨by exact C7,bo (C7) (QW hr)⟩) ?_;rewrite [vk];exact hv
variable {q:AV}
theorem JV (h:CN P (n+12) 333 [.hand,p,pv w] H=some (.ok v,H')):CN P (n+13) 333 [.hand,.tup [a7 "turn",p],pv (0::w)] H=some (.ok (.tup [a7 "turn",v]),H'):=by
 refine oj (ks:= [p]) (ks':= [v]) ?_ ?_ ?_ ?_ h
 ·kernel_rfl
 all_goals generalize CN P (n+12)=cl;kernel_rfl
theorem NQ (h:CN P (n+12) 333 [.hand,p,pv w] H=some (.ok v,H')):CN P (n+13) 333 [.hand,.tup [a7 "under",a7 "f",.tup [p]],pv (0::w)] H=some (.ok (.tup [a7 "under",a7 "f",.tup [v]]),H'):=by
 refine oj (ks:= [p]) (ks':= [v]) ?_ ?_ ?_ ?_ h
 ·kernel_rfl
 all_goals generalize CN P (n+12)=cl;kernel_rfl
theorem HM (h:CN P (n+12) 333 [.hand,p,pv w] H=some (.ok v,H')):CN P (n+13) 333 [.hand,.tup [a7 "join",p,q],pv (0::w)] H=some (.ok (.tup [a7 "join",v,q]),H'):=by
 refine oj (ks:= [p,q]) (ks':= [v,q]) ?_ ?_ ?_ ?_ h
 ·kernel_rfl
 all_goals generalize CN P (n+12)=cl;kernel_rfl
theorem HN (h:CN P (n+12) 333 [.hand,q,pv w] H=some (.ok v,H')):CN P (n+13) 333 [.hand,.tup [a7 "join",p,q],pv (1::w)] H=some (.ok (.tup [a7 "join",p,v]),H'):=by
 refine oj (ks:= [p,q]) (ks':= [p,v]) ?_ ?_ ?_ ?_ h
 ·kernel_rfl
 all_goals generalize CN P (n+12)=cl;kernel_rfl
theorem JW (h:CN P (n+12) 333 [.hand,p,pv w] H=some (.ok v,H')):CN P (n+13) 333 [.hand,.tup [a7 "under",a7 "g",.tup [p,q]],pv (0::w)] H=some (.ok (.tup [a7 "under",a7 "g",.tup [v,q]]),H'):=by
 refine oj (ks:= [p,q]) (ks':= [v,q]) ?_ ?_ ?_ ?_ h
 ·kernel_rfl
 all_goals generalize CN P (n+12)=cl;kernel_rfl
theorem JX (h:CN P (n+12) 333 [.hand,q,pv w] H=some (.ok v,H')):CN P (n+13) 333 [.hand,.tup [a7 "under",a7 "g",.tup [p,q]],pv (1::w)] H=some (.ok (.tup [a7 "under",a7 "g",.tup [p,v]]),H'):=by
 refine oj (ks:= [p,q]) (ks':= [p,v]) ?_ ?_ ?_ ?_ h
 ·kernel_rfl
 all_goals generalize CN P (n+12)=cl;kernel_rfl
def XQ (P:qq9)(n N:Nat)(H:HS)(p:Pa)(w:List Int)(d:Nat):Prop:= ∃(q:Pa) (H':HS),ok q/\dp q<=d/\HO N H'/\CN P n 333 [.hand,av p,pv w] H=some (.ok (av q),H')
theorem Cd {P:qq9}: ∀(p:Pa) (w:List Int) (n N:Nat) (H:HS),rt p->w∈bz p->HO (N+1) H->XQ P (n+13+dp p) N H p w (dp p+1)
 | .at_ i,w,n,N,H,hr,hw,h=>by
  cases qq2.mp hw;exact Ak hr h
 | .turn p,w,n,N,H,hr,hw,h=>by
  simp only [bz,uY,vM] at hw;refine ui hw ?_ ?_;(all_goals clear hw);intro az;subst az;rotate_left;intro az;refine af az λu hu jX=>?_;clear az;subst jX;rotate_right
  ·exact cn (Ak (P:=P) (n:=n+dp p+1) hr h) λq H' a b c d=>(dn q H' a b c (bN (by dsimp only [dp];exact C8) d))
  ·exact cn (Cd (P:=P) p u n N H hr hu h) λq H' a b c d=>(dn (.turn q) H' a (by dsimp only [dp];exact M2 b) c (bN (b:=n+dp p+1+13) (by dsimp only [dp];exact C8) (JV (bN (Ld) d))))
 | .unF p,w,n,N,H,hr,hw,h=>by
  simp only [bz,uY,vM] at hw;refine ui hw ?_ ?_;(all_goals clear hw);intro az;subst az;rotate_left;intro az;refine af az λu hu jX=>?_;clear az;subst jX;rotate_right
  ·exact cn (Ak (P:=P) (n:=n+dp p+1) hr h) λq H' a b c d=>(dn q H' a b c (bN (by dsimp only [dp];exact C8) d))
  ·exact cn (Cd (P:=P) p u n N H hr hu h) λq H' a b c d=>(dn (.unF q) H' a (by dsimp only [dp];exact M2 b) c (bN (b:=n+dp p+1+13) (by dsimp only [dp];exact C8) (NQ (bN (Ld) d))))
 | .join p p',w,n,N,H,hr,hw,h=>by
  simp only [bz,uY,vT,vM] at hw;rcases hw with rfl|⟨u,hu,rfl⟩|⟨u,hu,rfl⟩
  ·exact cn (Ak (P:=P) (n:=n+max (dp p) (dp p')+1) hr h) λq H' a b c d=>(dn q H' a b c (bN (by dsimp only [dp];exact mR) d))
  ·exact cn (Cd (P:=P) p u (n+(max (dp p) (dp p')-dp p)) N H hr.1 hu h) λq H' a b c d=>(dn (.join q p') H' ⟨a,dD hr.2⟩ (by dsimp only [dp];exact Le b) c (bN (b:=n+max (dp p) (dp p')+1+13) (by dsimp only [dp];exact mR) (HM (bN (Lf) d))))
  ·exact cn (Cd (P:=P) p' u (n+(max (dp p) (dp p')-dp p')) N H hr.2 hu h) λq H' a b c d=>(dn (.join p q) H' ⟨dD hr.1,a⟩ (by dsimp only [dp];exact Lg b) c (bN (b:=n+max (dp p) (dp p')+1+13) (by dsimp only [dp];exact mR) (HN (bN (Lh) d))))
 | .unG p p',w,n,N,H,hr,hw,h=>by
  simp only [bz,uY,vT,vM] at hw;rcases hw with rfl|⟨u,hu,rfl⟩|⟨u,hu,rfl⟩
  ·exact cn (Ak (P:=P) (n:=n+max (dp p) (dp p')+1) hr h) λq H' a b c d=>(dn q H' a b c (bN (by dsimp only [dp];exact mR) d))
  ·exact cn (Cd (P:=P) p u (n+(max (dp p) (dp p')-dp p)) N H hr.1 hu h) λq H' a b c d=>(dn (.unG q p') H' ⟨a,dD hr.2⟩ (by dsimp only [dp];exact Le b) c (bN (b:=n+max (dp p) (dp p')+1+13) (by dsimp only [dp];exact mR) (JW (bN (Lf) d))))
  ·exact cn (Cd (P:=P) p' u (n+(max (dp p) (dp p')-dp p')) N H hr.2 hu h) λq H' a b c d=>(dn (.unG p q) H' ⟨dD hr.1,a⟩ (by dsimp only [dp];exact Lg b) c (bN (b:=n+max (dp p) (dp p')+1+13) (by dsimp only [dp];exact mR) (JX (bN (Lh) d))))
theorem iw: ∀p:Pa,sz p+1<=2^(dp p+1)
 | .at_ _=>by dsimp only [sz,dp];exact ur _
 | .join1 _=>by dsimp only [sz,dp];exact ur _
 | .unQ _=>by dsimp only [sz,dp];exact ur _
 | .turn p=>by
  have:=iw p;dsimp only [sz,dp];rw [Nat.pow_succ];exact Li this
 | .unF p=>by
  have:=iw p;dsimp only [sz,dp];rw [Nat.pow_succ];exact Li this
 | .join p q=>by
  have a:=iw p;have b:=iw q;have c:2^(dp p+1)<=2^(max (dp p) (dp q)+1):=vL (by exact uH _) (Lj);have d:2^(dp q+1)<=2^(max (dp p) (dp q)+1):=vL (by exact uH _) (Lk);dsimp only [sz,dp];exact aa (Nat.pow_succ 2 (max (dp p) (dp q)+1)) (Ll a b c d)
 | .unG p q=>by
  have a:=iw p;have b:=iw q;have c:2^(dp p+1)<=2^(max (dp p) (dp q)+1):=vL (by exact uH _) (Lj);have d:2^(dp q+1)<=2^(max (dp p) (dp q)+1):=vL (by exact uH _) (Lk);dsimp only [sz,dp];exact aa (Nat.pow_succ 2 (max (dp p) (dp q)+1)) (Ll a b c d)
theorem gc {p:Pa}(h:dp p<=7):sz p<=900:=by
 have a:=iw p;have b:2^(dp p+1)<=2^8:=vL (by exact uH _) (QX h);have c:2^8=256:=by rfl
 exact QY a b
def EF (d:Nat)(v:AV):Prop:= ∃q,jc v=some q/\q.canLay0=true/\q.depth<=d/\PyData.eqv q q=true
def fB (d:Nat)(l:List AV):Prop:= ∃q,dE l=some q/\qz6 q=true/\qzI q<=d/\qzY q q=true
theorem EF.mono {d e:Nat}(h:EF d v)(k:d<=e):EF e v:=by
 exact c7 h λq a b c f=>(cW q a b (ub c k) f)
theorem fB.nil:fB d []:=(cW ([]) rfl rfl (uG _) (by unfold qzY;rfl))
theorem fB.cons {d:Nat}(h:EF d v)(k:fB d l):fB d (v::l):=by
 refine c7 h λq a b c f=> c7 k λr a2 b2 c2 f2=>(cW (q::r) ?_ ?_ ?_ ?_)
 ·exact b_ a a2
 ·unfold qz6;refine aa b (aa b2 ?_);rfl
 ·unfold qzI;exact K6 c c2
 ·unfold qzY;refine aa f (aa f2 ?_);rfl
theorem fB.tup (h:fB d l):EF (d+1) (.tup l):=by
 refine c7 h λq a b c f=>(cW (.tuple q) ?_ ?_ ?_ ?_)
 ·exact gk a
 ·unfold qx3;exact b
 ·unfold PyData.depth;exact mP c
 ·unfold PyData.eqv;exact f
theorem EF.eq (h:EF d v)(hd:d<=64):gR v v=some true:=by
 refine c7 h λq a b c f=>?_;have h1:=oB a b (ub c hd);exact aa (oE h1 h1) (aa f rfl)
theorem HP (t:Tm):EF (ht t+1) (tA t):=(cW (tP t) (lF t) (lG t) (lH t) (by rw [lI];simp))
theorem Al: ∀w:List Int,fB 1 (w.map .int)
 | []=>fB.nil|a::r=>fB.cons (cW (.int a) rfl (by unfold qx3;rfl) (by unfold PyData.depth;exact yM) (by unfold PyData.eqv;simp)) (Al r)
theorem HQ (w:List Int):EF 2 (pv w):=(Al w).tup
theorem pX {s:Sd}{d:Nat}(h:ht s.1<=d)(h2:ht s.2<=d):EF (d+2) (i_ s):=(fB.cons ((HP s.1).mono (mP h)) (fB.cons ((HP s.2).mono (mP h2)) fB.nil)).tup
theorem HR:EF 1 (a7 "told"):=(cW (.str (ag "told")) rfl (by kernel_rfl) (by unfold PyData.depth;exact yM) (by kernel_rfl))
theorem Am:EF 1 (a7 "refused"):=(cW (.str (ag "refused")) rfl (by kernel_rfl) (by unfold PyData.depth;exact yM) (by kernel_rfl))
noncomputable def jT:Except (List Int) Sd->AV
 | .ok s=>.tup [a7 "told",i_ s]| .error e=>.tup [a7 "refused",pv e]
theorem pY {p:Pa}{r:Except (List Int) Sd}(h:J p=r)(hd:dp p<=7):gR (jT r) (jT r)=some true:=by
 induction r using Except.casesOn with
 |ok s=>
  have:=il h;exact(fB.cons (d:=12) (HR.mono (QZ)) (fB.cons (pX (d:=10) (Q_ hd this) (Ra hd this)) fB.nil)).tup.eq (Rb)
 |error e=>exact(fB.cons (d:=2) (Am.mono (Rc)) (fB.cons (HQ e) fB.nil)).tup.eq (Rd)
noncomputable def hL (P:qq9)(r:List (Str×AV))(ea pp:AV):Loc:=⟨d2 P 355,r++ [(ag "paper",pp),(ag "deed",ea)],[]⟩
noncomputable def dW:AV:= .meth 222 ba
noncomputable def jU:AV:= .glob (.ref 186)
theorem Uj:bd P 355= [a9 P 355 0,a9 P 355 1,a9 P 355 2]:=by kernel_rfl
theorem Uk:CN P (n+1) 355 [ea,pp] H=M.bind (br P (CN P n) (MN P n) (bd P 355) (hL P [] ea pp)) fY H:=by kernel_rfl
theorem Ul:EX P cl mk (a9 P 355 0) (hL P [] ea pp) H=some (.ok (.next,hL P [(ag "found",.none)] ea pp),H):=by kernel_rfl
theorem Um:EX P cl mk (a9 P 355 2) (hL P [(ag "found",v)] ea pp) H=some (.ok (.ret v,hL P [(ag "found",v)] ea pp),H):=by kernel_rfl
theorem NR:EX P cl mk (a9 P 355 1) (hL P [(ag "found",.none)] dW pp) H=EX P (λ_ _ _=>cl 222 [ba,pp] H) mk (a9 P 355 1) (hL P [(ag "found",.none)] dW pp) H:=by kernel_rfl
theorem HT:EX P cl mk (a9 P 355 1) (hL P [(ag "found",.none)] jU pp) H=EX P (λ_ _ _=>cl 186 [pp] H) mk (a9 P 355 1) (hL P [(ag "found",.none)] jU pp) H:=by kernel_rfl
theorem HU (hd:ea=dW\/ea=jU):EX P (λ_ _ _=>some (.ok v,H)) mk (a9 P 355 1) (hL P [(ag "found",.none)] ea pp) H=some (.ok (.next,hL P [(ag "found",.tup [a7 "told",v])] ea pp),H):=by
 (refine ui hd ?_ ?_;(all_goals clear hd);intro az;subst az;rotate_left;intro az;subst az;rotate_right)<;>kernel_rfl
theorem Dw {e:List Int}(hd:ea=dW\/ea=jU):EX P (λ_ _ _=>some (.error (pv e),H)) mk (a9 P 355 1) (hL P [(ag "found",.none)] ea pp) H=some (.ok (.next,hL P [(ag "found",.tup [a7 "refused",pv e])] ea pp),H):=by
 (refine ui hd ?_ ?_;(all_goals clear hd);intro az;subst az;rotate_left;intro az;subst az;rotate_right)<;>kernel_rfl
theorem pZ (h:EX P (CN P n) (MN P n) (a9 P 355 1) (hL P [(ag "found",.none)] ea pp) H=some (.ok (.next,hL P [(ag "found",v)] ea pp),H)):CN P (n+1) 355 [ea,pp] H=some (.ok v,H):=by
 refine aM (aK:=hL P [(ag "found",v)] ea pp) (rho:= [(ag "paper",pp),(ag "deed",ea)]) Uk (?_:br P _ _ (bd P 355) (hL P [] ea pp) H=_);exact aa Uj (ay Ul (ay h (b8 Um)))
theorem gf {p:Pa}(ho:ok p)(hd:dp p<=7):CN P (n+15) 355 [dW,av p] H=some (.ok (jT (J p)),H):=by
 have a:=lN (P:=P) (m:=n) (H:=H) ho hd (gc hd);refine pZ (n:=n+14) (aa NR (aa a ?_));cases J p with
 |ok s=>exact HU (.inl rfl)|error e=>exact Dw (.inl rfl)
theorem p_ {p:Pa}(ho:ok p)(hd:dp p<=7): ∃v,CN P (n+15) 355 [jU,av p] H=some (.ok (match Fm p with|some e=>.tup [a7 "refused",pv e]|none=>.tup [a7 "told",v]),H):=by
 have a:=E1 (P:=P) (m:=n) (H:=H) ho hd (gc hd);cases hF:Fm p with
 |none=>
  replace a:=hF▸a;refine ac a ?_;clear a;intro v a;refine⟨v,pZ (n:=n+14) ?_⟩;refine aa HT (aa a ?_);exact HU (.inr rfl)
 |some e=>
  replace a:=hF▸a;refine⟨.none,pZ (n:=n+14) ?_⟩;refine aa HT (aa a ?_);exact Dw (.inr rfl)
noncomputable def Ce:Pa->Bool
 | .at_ i=>decide (3<=i) && decide (i<7)|_=>false
noncomputable def AF:Pa->Pa
 | .turn p=>p| .at_ i=>if Ce (.at_ i) then .at_ i else .turn (.at_ i)
 |p=>.turn p
noncomputable def JY (p q:Pa):Pa:=if Ce p then q else if Ce q then p else .join p q
theorem Cf {p:Pa}(h:Ce p=true)(hJ:J p= .ok s):s.1=s.2:=by
 cases p with
 |at_ i=>
  have h:=uv .. |>.mp h;have h1:=of_decide_eq_true h.1;have h2:=of_decide_eq_true h.2;have:J (.at_ i)=(match jA i with|some s=>Except.ok s|none=>.error []):=rfl;replace hJ:=eS this hJ;unfold jA at hJ;rewrite [if_neg (Re h1),if_neg (Rf h1),if_neg (Ri h1)] at hJ;replace hJ:=(if_pos h2)▸hJ;refine jO hJ λah=>?_;clear hJ;subst ah;rfl
 |_=>exact di h
theorem HV {p:Pa}(h:rt p)(hJ:J p= .ok s):rt (AF p)/\J (AF p)= .ok (s.2,s.1)/\dp (AF p)<=dp p+1:=by
 have tu: ∀{q:Pa},rt q->J q= .ok s->rt (.turn q)/\J (.turn q)= .ok (s.2,s.1)/\dp (.turn q)<=dp q+1:=λ{q} a b=>(aQ a (by refine(?_:(match J q with| .error e=>Except.error (0::e)| .ok s=>.ok (s.2,s.1))=_);exact aa b rfl) (ur _));cases p with
 |turn p=>
  refine(aQ h ?_ (by refine(?_:dp p<=dp p+1+1);exact EW));have:J (.turn p)=(match J p with| .error e=>Except.error (0::e)| .ok s=>.ok (s.2,s.1)):=rfl;replace hJ:=eS this hJ;refine(?_:J p=_);cases hp:J p with
  |error e=>replace hJ:=hp▸hJ;exact xE hJ|ok t=>replace hJ:=hp▸hJ;refine jO hJ λah=>?_;clear hJ;subst ah;rfl
 |at_ i=>
  by_cases hs:Ce (.at_ i)=true
  ·refine aa (show AF (.at_ i)= .at_ i from if_pos hs) (aQ h ?_ (uF _));have:=Cf hs hJ;refine aa hJ ?_;cases s with
   |mk a b=>cases this;rfl
  ·exact aa (show AF (.at_ i)= .turn (.at_ i) from if_neg hs) (tu h hJ)
 |join p q=>exact tu h hJ|unF p=>exact tu h hJ|unG p q=>exact tu h hJ|join1 p=>exact h.elim|unQ p=>exact h.elim
set_option tactic.hygienic true in
theorem NS {p:Pa}(h:rt p)(hJ:J p= .ok s):rt (JY p (AF p))/\J (JY p (AF p))= .ok (s.1,s.1)/\dp (JY p (AF p))<=dp p+2:=by
 refine aU (HV h hJ) λa b c=>?_;delta JY;split
 ·rename_i hs
  have e:=Cf hs hJ;refine(aQ a ?_ (Rj c));exact aa b (aa e rfl)
 ·split
  ·rename_i hs
   have e:=Cf hs b;refine(aQ h ?_ (E_));refine aa hJ ?_;cases s with
   |mk x y=>have e:y=x:=e;exact aa e rfl
  ·refine(aQ ⟨h,a⟩ ?_ (by dsimp only [dp];exact Rk c));refine aa lT (aa hJ ?_);refine aa b (?_:(if s.2=s.2 then _ else _)=_);exact aa (if_pos rfl) rfl
theorem E5 {p:Pa}(h:rt p):CN P (n+12) 169 [av p] H=some (.ok (av (AF p)),H):=by
 cases p with
 |at_ i=>
  have e:(List.range 27).map (λi=>CN P (n+12) 169 [cX i] H)=(List.range 27).map (λi=>some (.ok (av (AF (.at_ i))),H)):=by kernel_rfl
  exact bh e h
 |turn p=>kernel_rfl|join p q=>kernel_rfl|unF p=>kernel_rfl|unG p q=>kernel_rfl|join1 p=>exact h.elim|unQ p=>exact h.elim
theorem on {p:Pa}(h:rt p):Ce p=decide (jb p=40):=by
 cases p with
 |at_ i=>
  have e:(List.range 27).map (λi=>Ce (.at_ i))=(List.range 27).map (λi=>decide (jb (.at_ i)=40)):=by rfl
  exact bh e h
 |_=>rfl
theorem An (p:Pa):jb p∈ [39,40,41,42,43,44]:=by
 cases p<;>dsimp only [jb]<;>(repeat' split)<;>decide
theorem E6 {p q:Pa}(h:rt p)(h2:rt q):CN P (n+12) 176 [av p,av q] H=some (.ok (av (JY p q)),H):=by
 refine ac (pW h) λr hr=> ac (pW h2) λr2 ZH=>?_;have e: [39,40,41,42,43,44].map (λi=>[39,40,41,42,43,44].map λj=>CN P (n+12) 176 [.tup (cX i::r),.tup (cX j::r2)] H)= [39,40,41,42,43,44].map (λi=>[39,40,41,42,43,44].map λj=>some (.ok (if i=40 then .tup (cX j::r2) else if j=40 then .tup (cX i::r) else .tup [a7 "join",.tup (cX i::r),.tup (cX j::r2)]),H)):=by kernel_rfl
 have e:=List.map_inj_left.mp (List.map_inj_left.mp e _ (An p)) _ (An q);refine aa hr (aa ZH ?_);refine aa e (bq hr ?_);refine bq ZH ?_;delta JY;refine aa (on h) (aa (on h2) ?_);by_cases a:jb p=40
 ·refine aa (if_pos a) (aa (decide_eq_true a) ?_);rfl
 ·refine aa (if_neg a) (aa (decide_eq_false a) ?_);by_cases b:jb q=40
  ·refine aa (if_pos b) (aa (decide_eq_true b) ?_);rfl
  ·refine aa (if_neg b) (aa (decide_eq_false b) ?_);rfl
theorem HW {f:Int->Int}(t: ∀i,m0 P cl mk c ae (.int i) H=some (.ok true,H))(el: ∀i,Du P cl mk c ae (.int i) H=some (.ok (.int (f i)),H)): ∀cs:List Int,ck (m0 P cl mk c ae) (Du P cl mk c ae) (cs.map .int) H=some (.ok ((cs.map f).map .int),H)
 | []=>rfl|i::r=>cU (t i) (el i) (HW t el r)
theorem Mn {c:Expr}{ae:Loc}{f:Int->Int}{cs:List Int}(hl:cs.length<=1000)(e:ev (CC P) cl mk 3 c ae=M.bind (yG (CC P) cl mk 3 (cT c) (cI c) ae (ev (CC P) cl mk 3 (cI c) ae)) (fZ P cl mk c ae))(items:yG (CC P) cl mk 3 (cT c) (cI c) ae (ev (CC P) cl mk 3 (cI c) ae) H=some (.ok (cs.map .int),H))
  (t: ∀i,m0 P cl mk c ae (.int i) H=some (.ok true,H)) (el: ∀i,Du P cl mk c ae (.int i) H=some (.ok (.int (f i)),H)):ev (CC P) cl mk 3 c ae H=some (.ok (.list ((cs.map f).map .int)),H):=by
 refine aa e (mb items (?_:(if(cs.map AV.int).length<=1000 then M.bind (ck (m0 P cl mk c ae) (Du P cl mk c ae) (cs.map .int)) (λys=>M.pure (AV.list ys)) else(stuck:M AV)) H=_));exact aa (if_pos (by rw [uQ];exact hl)) (mb (HW t el cs) rfl)
theorem lV: ∀cs:List Int,cY (cs.map .int)=some cs
 | []=>rfl|a::r=>by
  refine(?_:(cY (r.map .int)).map (a:: ·)=_);refine aa (lV r) ?_;rfl
theorem Ao: ∀(cs:List Int) (a:Int),0<=a->a+10007*cs.length<4000000000000000000-> ∃t,fc a (cs.map λi=>i%10007)=some t/\a<=t/\t<=a+10007*cs.length
 | [],a,h,k=>(aV a rfl (Rl) (by simp))
 |c::r,a,h,k=>by
  dsimp only [uT] at k;have h1:=vV c (show(10007:Int)≠0 by decide);have h2:=vG c (show(0:Int)<10007 by decide);refine aC (Ao r (a+c%10007) (Ln h) (Rn k)) λt e h3 h4=>(aV t ?_ (Ro h3) (by dsimp only [uT];exact Rp h4));refine(?_:(if bu (c%10007) && bu (a+c%10007) then fc (a+c%10007) (r.map λi=>i%10007) else none)=_);refine aa (bo h1 (Rq)) (aa (bo (Ln h) (Rr k)) ?_);exact e
noncomputable def zL (P:qq9)(r:List (Str×AV))(is:List Int):Loc:=⟨d2 P 274,r++ [(ag "script",.wlist (is.map .int))],[]⟩
noncomputable abbrev zC (P:qq9):Expr:=ja (a9 P 274 0)
noncomputable def NT (e:Expr):List Expr:=pJ e
noncomputable abbrev zD (P:qq9):Expr:=Dv (Hp (Dv (NT (XM (a9 P 274 1)))))
theorem Un:bd P 274= [a9 P 274 0,a9 P 274 1]:=by kernel_rfl
theorem Uo {is:List Int}:CN P (n+1) 274 [.wlist (is.map .int)] H=M.bind (br P (CN P n) (MN P n) (bd P 274) (zL P [] is)) fY H:=by kernel_rfl
theorem JZ {is:List Int}: ∃cs m,cs.length<=1000/\0<=m/\m<=1000000000/\CN P (n+1) 274 [.wlist (is.map .int)] H=some (.ok (.dict c9 (cQ cs m)),H):=by
 have hl:(is.take 40).length<=40:=by exact aa List.length_take Rt
 refine aC (Ao (is.take 40) 0 (Lo) (Ru hl)) λt ht h0 h1=>(dn (is.take 40) t (Ff hl) h0 (Rv hl h1) (aM (n:=n) (f:=274) (aK:=zL P [(ag "cells",.list ((is.take 40).map .int))] is) (rho:= [(ag "script",.wlist (is.map .int))]) Uo ?_));refine(?_:br P _ _ (bd P 274) (zL P [] is) H=_);refine aa Un ?_;generalize CN P n=cl;generalize MN P n=mk;have a:=Mn (P:=P) (cl:=cl) (mk:=mk) (H:=H) (c:=zC P) (ae:=zL P [] is) (f:=λi=>i) (cs:=is.take 40) (Ff hl) (by kernel_rfl) (by refine aa List.map_take ?_;kernel_rfl) (λi=>by kernel_rfl) (λi=>by kernel_rfl);rw [List.map_id'] at a;have b:=Mn (P:=P) (cl:=cl) (mk:=mk) (H:=H) (c:=zD P) (ae:=zL P [(ag "cells",.list ((is.take 40).map .int))] is) (f:=λi=>i%10007) (cs:=is.take 40) (Ff hl) (by kernel_rfl) (by kernel_rfl) (λi=>by kernel_rfl) (λi=>by kernel_rfl);have e0:EX P cl mk (a9 P 274 0) (zL P [] is) H=dh "cells" (ev (CC P) cl mk 3 (zC P) (zL P [] is)) (zL P [] is) H:=by kernel_rfl
 refine ay (e0.trans (eM a (by kernel_rfl:_=some (Except.ok (zL P [(ag "cells",.list ((is.take 40).map .int))] is),H)))) (b8 ?_);have e1:EX P cl mk (a9 P 274 1) (zL P [(ag "cells",.list ((is.take 40).map .int))] is) H=E2 (M.bind (M.bind (M.bind (M.bind (M.bind (ev (CC P) cl mk 3 (zD P) (zL P [(ag "cells",.list ((is.take 40).map .int))] is)) λv=>lift (Ms v)) λv=>M.pure [v]) λvs=>M.pure (.int 0::vs)) λvs=>M.pure (.list ((is.take 40).map .int)::vs)) λvs=>M.pure (.dict c9 vs)) (zL P [(ag "cells",.list ((is.take 40).map .int))] is) H:=by kernel_rfl
 refine e1.trans (mb (mb (mb (mb (mb (mb b (bF (a:= .int t) ?_)) rfl) rfl) rfl) rfl) rfl);refine(?_:((cY (((is.take 40).map λi=>i%10007).map AV.int)).bind λns=>(fc 0 ns).map AV.int)=_);rw [lV];refine(?_:(fc 0 _).map AV.int=_);refine aa ht ?_;rfl
theorem E7 (P:qq9)(is:List Int): ∃cs m,cs.length<=1000/\0<=m/\m<=1000000000/\Internal.exec (CC P) (Jy P) (BW P) 1000 (eZ P) (eK P is) []=some (.ok (.next,⟨(cv P).scope,(ag "hand",.dict c9 (cQ cs m))::(eK P is).rho,[]⟩),[]):=by
 refine cn (JZ (P:=P) (n:=99) (H:= []) (is:=is)) λcs m a b c h=>(dn cs m a b c ?_);have h:Jy P 274 [.wlist (is.map .int)] []=some (.ok (.dict c9 (cQ cs m)),[]):=h;have e:Internal.exec (CC P) (Jy P) (BW P) 1000 (eZ P) (eK P is) []=dh "hand" (Jy P 274 [.wlist (is.map .int)]) (eK P is) []:=by
  generalize Jy P=cl;generalize BW P=mk;kernel_rfl
 exact e.trans (eM h (by kernel_rfl))
noncomputable def XR (pp ss oo ll:AV):List (Str×AV):= [(ag "late",ll),(ag "other",oo),(ag "sides",ss),(ag "paper",pp),(ag "judge",ba)]
noncomputable abbrev HX:=AV×AV×AV×AV×AV×AV×AV
noncomputable def oR:Option HX->List (Str×AV)
 |some (h,b,s,d,bt,w,tn)=>[(ag "heard",h),(ag "bad",b),(ag "shape",s),(ag "due",d),(ag "bent",bt),(ag "ways",w),(ag "turn",tn)]
 |none=>[]
noncomputable def UR (x:Option HX)(tn:AV):List (Str×AV):=(ag "turn",tn)::match x with
 |some (h,b,s,d,bt,w,_)=>[(ag "heard",h),(ag "bad",b),(ag "shape",s),(ag "due",d),(ag "bent",bt),(ag "ways",w)]
 |none=>[]
noncomputable def US (x:Option HX)(w tn:AV):List (Str×AV):=(ag "ways",w)::(ag "turn",tn)::match x with
 |some (h,b,s,d,bt,_,_)=>[(ag "heard",h),(ag "bad",b),(ag "shape",s),(ag "due",d),(ag "bent",bt)]
 |none=>[]
noncomputable def UT (x:Option HX)(bt w tn:AV):List (Str×AV):=(ag "bent",bt)::(ag "ways",w)::(ag "turn",tn)::match x with
 |some (h,b,s,d,_,_,_)=>[(ag "heard",h),(ag "bad",b),(ag "shape",s),(ag "due",d)]
 |none=>[]
noncomputable def Mo (x:Option HX)(b d bt w tn:AV):List (Str×AV):=(ag "bad",b)::(ag "due",d)::(ag "bent",bt)::(ag "ways",w)::(ag "turn",tn)::match x with
 |some (h,_,s,_,_,_,_)=>[(ag "heard",h),(ag "shape",s)]
 |none=>[]
noncomputable def UU (x:Option HX)(b s d bt w tn:AV):List (Str×AV):=(ag "bad",b)::(ag "shape",s)::(ag "due",d)::(ag "bent",bt)::(ag "ways",w)::(ag "turn",tn)::match x with
 |some (h,_,_,_,_,_,_)=>[(ag "heard",h)]
 |none=>[]
noncomputable def kL (P:qq9)(is:List Int)(r:List (Str×AV)):Loc:=⟨d2 P 360,r++ [(ag "hand",.hand),(ag "script",.wlist (is.map .int))],[]⟩
noncomputable def kT (P:qq9)(is:List Int)(pp ss oo ll:AV)(r:List (Str×AV)):Loc:=kL P is (r++XR pp ss oo ll)
noncomputable def dV:Except (List Int) Sd->AV
 | .ok s=>i_ s| .error _=>.none
noncomputable def bV:Except (List Int) Sd->AV
 | .ok _=>.none| .error e=>pv e
noncomputable abbrev kS (P:qq9)(j:Nat):Stmt:=bC P 360 6 j
end
section
variable {P:qq9}{cl mk:qq7->List AV->M AV}{H:HS}{is:List Int}{pp ss oo ll tn w bt:AV}{W:List AV}{x:Option HX}{d b s v:AV}
theorem k_t:aR (pK (a9 P 360 6)) tn (kT P is pp ss oo ll (oR x)) H=some (.ok (kT P is pp ss oo ll (UR x tn)),H):=by cases x<;>kernel_rfl
theorem XT:EX P cl mk (kS P 0) (kT P is pp ss oo ll (UR x tn)) H=dh "ways" (cl 326 [pp]) (kT P is pp ss oo ll (UR x tn)) H:=by cases x<;>kernel_rfl
theorem XU:bB (ag "ways") w (kT P is pp ss oo ll (UR x tn)) H=some (.ok (kT P is pp ss oo ll (US x w tn)),H):=by cases x<;>kernel_rfl
noncomputable def kM (cl:qq7->List AV->M AV)(pp:AV)(W:List AV):M AV:=M.bind (M.bind (M.bind (M.bind (M.bind (cl 269 [.hand,aE W.length]) λiv=>lift (dK (.list W) iv)) λv=>M.pure [v]) λvs=>M.pure (pp::vs)) λvs=>M.pure (.hand::vs)) λvs=>cl 333 vs
theorem XV:EX P cl mk (kS P 1) (kT P is pp ss oo ll (US x (.list W) tn)) H=dh "bent" (kM cl pp W) (kT P is pp ss oo ll (US x (.list W) tn)) H:=by cases x<;>kernel_rfl
theorem XW:bB (ag "bent") bt (kT P is pp ss oo ll (US x w tn)) H=some (.ok (kT P is pp ss oo ll (UT x bt w tn)),H):=by cases x<;>kernel_rfl
theorem XY:EX P cl mk (kS P 2) (kT P is pp ss oo ll (UT x bt w tn)) H=M.bind (M.bind (cl 348 [bt,pv [],.bool false]) λv=>aR (gB (kS P 2)) v (kT P is pp ss oo ll (UT x bt w tn))) next H:=by cases x<;>kernel_rfl
theorem XZ:aR (gB (kS P 2)) (.tup [d,b]) (kT P is pp ss oo ll (UT x bt w tn)) H=some (.ok (kT P is pp ss oo ll (Mo x b d bt w tn)),H):=by cases x<;>kernel_rfl
theorem X_ {r:Except (List Int) Sd}:EX P cl mk (kS P 3) (kT P is pp ss oo ll (Mo x (bV r) (dV r) bt w tn)) H=M.bind (M.bind (cl 355 [dW,bt]) λy=>lift ((gR y (jT r)).map (!·))) (λc=>if c then br P cl mk (bS (kS P 3)) (kT P is pp ss oo ll (Mo x (bV r) (dV r) bt w tn)) else br P cl mk [] (kT P is pp ss oo ll (Mo x (bV r) (dV r) bt w tn))) H:=by
 cases r<;>cases x<;>kernel_rfl
theorem Ya:EX P cl mk (kS P 4) (kT P is pp ss oo ll (Mo x b d bt w tn)) H=M.bind (M.bind (cl 348 [bt,pv [],.bool true]) λv=>aR (gB (kS P 4)) v (kT P is pp ss oo ll (Mo x b d bt w tn))) next H:=by cases x<;>kernel_rfl
theorem Yb {b d s b':AV}:aR (gB (kS P 4)) (.tup [s,b']) (kT P is pp ss oo ll (Mo x b d bt w tn)) H=some (.ok (kT P is pp ss oo ll (UU x b' s d bt w tn)),H):=by cases x<;>kernel_rfl
theorem Yc:EX P cl mk (kS P 5) (kT P is pp ss oo ll (UU x b s d bt w tn)) H=dh "heard" (cl 355 [jU,bt]) (kT P is pp ss oo ll (UU x b s d bt w tn)) H:=by cases x<;>kernel_rfl
theorem Yd {b d s h:AV}:bB (ag "heard") h (kT P is pp ss oo ll (UU x b s d bt w tn)) H=some (.ok (kT P is pp ss oo ll (oR (some (h,b,s,d,bt,w,tn)))),H):=by cases x<;>kernel_rfl
theorem Ye:EX P cl mk (kS P 6) (kT P is pp ss oo ll (oR (some (.tup [a7 "told",v],.none,s,d,bt,w,tn)))) H=some (.ok (.next,kT P is pp ss oo ll (oR (some (.tup [a7 "told",v],.none,s,d,bt,w,tn)))),H):=by kernel_rfl
theorem Yf {e:List Int}:EX P cl mk (kS P 6) (kT P is pp ss oo ll (oR (some (.tup [a7 "refused",pv e],pv e,s,d,bt,w,tn)))) H=M.bind (M.bind (M.bind (lift ((gR (pv e) (pv e)).map (!·))) λb=>if b then M.pure true else M.pure false) λb=>if b then M.pure true else M.pure false) (λc=>if c then br P cl mk (bS (kS P 6)) (kT P is pp ss oo ll (oR (some (.tup [a7 "refused",pv e],pv e,s,d,bt,w,tn)))) else br P cl mk [] (kT P is pp ss oo ll (oR (some (.tup [a7 "refused",pv e],pv e,s,d,bt,w,tn))))) H:=by kernel_rfl
theorem kb:bS (a9 P 360 6)= [kS P 0,kS P 1,kS P 2,kS P 3,kS P 4,kS P 5,kS P 6]:=by kernel_rfl
theorem HY {P:qq9}{N:Nat}{is:List Int}{p:Pa}{ss oo ll tn:AV}{x:Option HX}(hp:rt p)(hd:dp p<=4)(hH:HO (N+2) H): ∃(x':Option HX) (H':HS),HO N H'/\
  bQ P (CN P 100) (MN P 100) (a9 P 360 6) tn (kT P is (av p) ss oo ll (oR x)) H=some (.ok (.next,kT P is (av p) ss oo ll (oR x')),H'):=by
 have hs:=gc (p:=p) (Rw hd);have h0:CN P 100 326 [av p] H=some (.ok (.list ((bz p).map pv)),H):=bN (b:=87-dp p+13+dp p) (Lp hd) (Ug p _ hp (Rx hd) hs);have hl:=bx p;have ke:0<sz p:=by cases p<;>exact uH _
 refine a8 (draw (P:=P) (n:=99) (W:=((bz p).map pv).length) hH (by rewrite [uQ];exact aa hl ke)) ?_;intro r H1 hr Ua hdr;rw [uQ] at hr;have Yg:((bz p).map pv)[r]? =some (pv ((bz p)[r]'hr)):=by refine aa qzG ?_;refine aa (qqI hr) ?_;rfl
 refine cn (Cd (P:=P) p ((bz p)[r]'hr) (87-dp p) N H1 hp (List.getElem_mem hr) Ua) λq H2 UV dq Ml hb=>?_;have h1:kM (CN P 100) (av p) ((bz p).map pv) H=some (.ok (av q),H2):=by
  refine mb (mb (mb (mb (mb hdr (bF (a:=pv ((bz p)[r]'hr)) ?_)) rfl) rfl) rfl) (bN (b:=87-dp p+13+dp p) (Lp hd) hb);refine(?_:(if 0<=((r:Nat):Int)/\bu ((r:Nat):Int)=true then((bz p).map pv)[((r:Nat):Int).toNat]? else none)=_);refine aa (if_pos ⟨by exact C7,bo (C7) (Ry hs hl hr)⟩) ?_;rewrite [vk];exact Yg
 have h2:CN P 100 348 [av q,pv [],.bool false] H2=some (.ok (.tup [dV (J q),bV (J q)]),H2):=by
  refine(im (P:=P) (H:=H2) q [] 100 UV (Rz hd dq) (by simp;exact yO hd dq) (Lq hd dq)).trans ?_;cases J q<;>rfl
 have h3:CN P 100 355 [dW,av q] H2=some (.ok (jT (J q)),H2):=gf (n:=85) UV (yO hd dq);have h4:CN P 100 348 [av q,pv [],.bool true] H2=some (.ok (Ev (av q) [] (Fm q)),H2):=JD (P:=P) (H:=H2) q [] 100 UV (by simp;exact yO hd dq) (Lq hd dq);refine ac (p_ (P:=P) (n:=85) (H:=H2) UV (yO hd dq)) λv h5=>?_;have h5:CN P 100 355 [jU,av q] H2=_:=h5;generalize hJ:J q=jr at h2 h3;have h6:=pY hJ (yO hd dq);have main: ∀(sh b hv:AV),CN P 100 348 [av q,pv [],.bool true] H2=some (.ok (.tup [sh,b]),H2)->CN P 100 355 [jU,av q] H2=some (.ok hv,H2)->
   EX P (CN P 100) (MN P 100) (kS P 6) (kT P is (av p) ss oo ll (oR (some (hv,b,sh,dV jr,av q,.list ((bz p).map pv),tn)))) H2=some (.ok (.next,kT P is (av p) ss oo ll (oR (some (hv,b,sh,dV jr,av q,.list ((bz p).map pv),tn)))),H2)->
   ∃(x':Option HX) (H':HS),HO N H'/\bQ P (CN P 100) (MN P 100) (a9 P 360 6) tn (kT P is (av p) ss oo ll (oR x)) H=some (.ok (.next,kT P is (av p) ss oo ll (oR x')),H'):=by
  intro sh b hv a1 a2 a3;refine(ei (some (hv,b,sh,dV jr,av q,.list ((bz p).map pv),tn)) H2 Ml (mb k_t ?_));refine aa kb (ay (XT.trans (eM h0 XU)) (ay (XV.trans (eM h1 XW)) (ay (NO XY h2 XZ) (ay (H1:=H2) (aK:=kT P is (av p) ss oo ll (Mo x (bV jr) (dV jr) (av q) (.list ((bz p).map pv)) tn)) (X_.trans ?_) (ay (NO Ya a1 Yb) (ay (Yc.trans (eM a2 Yd)) (gQ a3)))))));refine mb (a:=false) (mb h3 (bF ?_)) rfl;refine aa h6 ?_;rfl
 refine cO (Fm q) (λhF=>?_) λe hF=>?_
 ·rw [hF] at h4 h5;exact main _ _ _ h4 h5 Ye
 ·rw [hF] at h4 h5;refine main _ _ _ h4 h5 (Yf.trans (mb (a:=false) (mb (a:=false) (mb (a:=false) (bF ?_) rfl) rfl) rfl));refine aa ((HQ e).eq (by exact uj _ _)) ?_;rfl
noncomputable def J_ (pp ss:AV):List (Str×AV):= [(ag "sides",ss),(ag "paper",pp),(ag "judge",ba)]
variable {s1 s2 u1 u2:AV}
theorem v_1:EX P (CN P 100) (MN P 100) (a9 P 360 1) (kL P is []) H=some (.ok (.next,kL P is [(ag "judge",ba)]),H):=by kernel_rfl
theorem Yh:EX P cl mk (a9 P 360 2) (kL P is [(ag "judge",ba)]) H=M.bind (M.bind (cl 314 [.hand,aE 2]) λv=>aR (gB (a9 P 360 2)) v (kL P is [(ag "judge",ba)])) next H:=by kernel_rfl
theorem Yi:aR (gB (a9 P 360 2)) (.tup [pp,ss]) (kL P is [(ag "judge",ba)]) H=some (.ok (kL P is (J_ pp ss)),H):=by kernel_rfl
theorem Yj:EX P cl mk (a9 P 360 3) (kL P is (J_ pp ss)) H=M.bind (M.bind (cl 314 [.hand,aE 1]) λv=>aR (gB (a9 P 360 3)) v (kL P is (J_ pp ss))) next H:=by kernel_rfl
theorem Yk:aR (gB (a9 P 360 3)) (.tup [oo,ll]) (kL P is (J_ pp ss)) H=some (.ok (kT P is pp ss oo ll (oR none)),H):=by kernel_rfl
theorem Yl:EX P cl mk (a9 P 360 4) (kT P is pp (.tup [s1,s2]) oo ll (oR none)) H=M.bind (M.bind (M.bind (cl 222 [ba,pp]) λy=>lift ((gR y (.tup [s1,s2])).map (!·))) λb=>if b then M.pure true else M.bind (M.bind (M.bind (M.bind (cl 169 [pp]) λv=>M.pure [v]) λvs=>cl 222 (ba::vs)) λy=>lift ((gR y (.tup [s2,s1])).map (!·))) λb=>if b then M.pure true else M.pure false)
  (λc=>if c then br P cl mk (bS (a9 P 360 4)) (kT P is pp (.tup [s1,s2]) oo ll (oR none)) else br P cl mk [] (kT P is pp (.tup [s1,s2]) oo ll (oR none))) H:=by kernel_rfl
theorem Ym:EX P cl mk (a9 P 360 5) (kT P is pp (.tup [s1,s2]) oo ll (oR none)) H=M.bind (M.bind (M.bind (M.bind (M.bind (M.bind (M.bind (M.bind (cl 169 [pp]) λv=>M.pure [v]) λvs=>M.pure (pp::vs)) λvs=>cl 176 vs) λv=>M.pure [v]) λvs=>M.pure (dW::vs)) λvs=>cl 355 vs) λy=>lift ((gR y (.tup [a7 "told",.tup [s1,s1]])).map (!·)))
  (λc=>if c then br P cl mk (bS (a9 P 360 5)) (kT P is pp (.tup [s1,s2]) oo ll (oR none)) else br P cl mk [] (kT P is pp (.tup [s1,s2]) oo ll (oR none))) H:=by kernel_rfl
theorem Yn:EX P cl mk (a9 P 360 6) (kT P is pp ss oo ll (oR none)) H=bU (bQ P cl mk (a9 P 360 6)) [aE 0,aE 1,aE 2] (kT P is pp ss oo ll (oR none)) H:=by kernel_rfl
theorem v_7:EX P cl mk (a9 P 360 7) (kT P is pp ss oo ll (oR x)) H=some (.ok (.next,kT P is pp ss oo ll ((ag "whole",.tup [a7 "join",pp,oo])::oR x)),H):=by cases x<;>kernel_rfl
theorem Yo:EX P cl mk (a9 P 360 8) (kT P is pp (.tup [s1,s2]) oo (.tup [u1,u2]) ((ag "whole",.tup [a7 "join",pp,oo])::oR x)) H=M.bind (M.bind (M.bind (lift (gR s2 u1)) λc=>if c then M.pure (.tup [a7 "told",.tup [s1,u2]]) else M.pure (.tup [a7 "refused",pv []])) λv=>bB (ag "due") v (kT P is pp (.tup [s1,s2]) oo (.tup [u1,u2]) ((ag "whole",.tup [a7 "join",pp,oo])::oR x))) next H:=by cases x<;>kernel_rfl
noncomputable def UW (x:Option HX):List (Str×AV):=match x with
 |some (h,b,s,d,bt,w,tn)=>[(ag "heard",h),(ag "bad",b),(ag "shape",s),(ag "bent",bt),(ag "ways",w),(ag "turn",tn)]
 |none=>[]
theorem Yp {v wh:AV}:bB (ag "due") v (kT P is pp ss oo ll ((ag "whole",wh)::oR x)) H=some (.ok (kT P is pp ss oo ll ((ag "due",v)::(ag "whole",wh)::UW x)),H):=by cases x<;>kernel_rfl
theorem Yq {v wh:AV}:EX P cl mk (a9 P 360 9) (kT P is pp ss oo ll ((ag "due",v)::(ag "whole",wh)::UW x)) H=E2 (M.bind (cl 355 [dW,wh]) λy=>lift ((gR y v).map .bool)) (kT P is pp ss oo ll ((ag "due",v)::(ag "whole",wh)::UW x)) H:=by cases x<;>kernel_rfl
theorem HZ (P:qq9):fA P= [a9 P 360 1,a9 P 360 2,a9 P 360 3,a9 P 360 4,a9 P 360 5,a9 P 360 6,a9 P 360 7,a9 P 360 8,a9 P 360 9]:=by kernel_rfl
theorem H_ {P:qq9}{is:List Int}{H:HS}(hH:HO 28 H): ∃H' ae,br P (CN P 100) (MN P 100) (fA P) (kL P is []) H=some (.ok (.ret (.bool true),ae),H'):=by
 refine cG (Ai (P:=P) 2 84 13 H (by exact uj _ _) (hH.mono (by exact ur _))) λp s H1 rp Jp kD Ua hp=> cG (Ai (P:=P) 1 85 6 H1 (by exact uH _) (Ua.mono (by exact ur _))) λo t H2 ro Jo UX Ml ho=>?_;have hp:CN P 100 314 [.hand,aE 2] H=some (.ok (.tup [av p,i_ s]),H1):=hp;have ho:CN P 100 314 [.hand,aE 1] H1=some (.ok (.tup [av o,i_ t]),H2):=ho;have b1:=il Jp;have b2:=il Jo;have h4a: ∀K,CN P 100 222 [ba,av p] K=some (.ok (i_ s),K):=λK=>by
  have:=lN (P:=P) (m:=86) (H:=K) (dD rp) (Lr kD) (gc (Lr kD));replace this:=Jp▸this;exact this
 refine aU (HV rp Jp) λrq Jq dq=>?_;have ZI: ∀K,CN P 100 169 [av p] K=some (.ok (av (AF p)),K):=λK=>E5 (n:=88) rp;have h4c: ∀K,CN P 100 222 [ba,av (AF p)] K=some (.ok (i_ (s.2,s.1)),K):=λK=>by
  have:=lN (P:=P) (m:=86) (H:=K) (dD rq) (Ls kD dq) (gc (Ls kD dq));replace this:=Jq▸this;exact this
 refine aU (NS rp Jp) λrj Jj dj=>?_;have h5a:CN P 100 176 [av p,av (AF p)] H2=some (.ok (av (JY p (AF p))),H2):=E6 (n:=88) rp rq;have h5b:CN P 100 355 [dW,av (JY p (AF p))] H2=some (.ok (.tup [a7 "told",.tup [tA s.1,tA s.1]]),H2):=by
  have:=gf (P:=P) (n:=85) (H:=H2) (dD rj) (Lu kD dj);replace this:=Jj▸this;exact this
 refine aY (HY (P:=P) (N:=4) (is:=is) (ss:= .tup [tA s.1,tA s.2]) (oo:=av o) (ll:= .tup [tA t.1,tA t.2]) (tn:=aE 0) (x:=none) rp (Fg kD) Ml) λx1 H3 Oq t1=> aY (HY (P:=P) (N:=2) (is:=is) (ss:= .tup [tA s.1,tA s.2]) (oo:=av o) (ll:= .tup [tA t.1,tA t.2]) (tn:=aE 1) (x:=x1) rp (Fg kD) Oq) λx2 H4 hO4 t2=> aY (HY (P:=P) (N:=0) (is:=is) (ss:= .tup [tA s.1,tA s.2]) (oo:=av o) (ll:= .tup [tA t.1,tA t.2]) (tn:=aE 2) (x:=x2) rp (Fg kD) hO4) λx3 H5 hO5 t3=>?_;have e1:gR (i_ s) (.tup [tA s.1,tA s.2])=some true:=(pX (s:=s) (d:=7) (Lv kD b1) (Lw kD b1)).eq (by exact uj _ _);have e2:gR (i_ (s.2,s.1)) (.tup [tA s.2,tA s.1])=some true:=(pX (s:=(s.2,s.1)) (d:=7) (by refine(?_:ht s.2<=7);exact Lw kD b1) (by refine(?_:ht s.1<=7);exact Lv kD b1)).eq (by exact uj _ _);have e3:gR (.tup [a7 "told",.tup [tA s.1,tA s.1]]) (.tup [a7 "told",.tup [tA s.1,tA s.1]])=some true:=pY (p:=JY p (AF p)) Jj (Lu kD dj);have fin: ∀{r:Except (List Int) Sd},J (.join p o)=r->(M.bind (lift (gR (tA s.2) (tA t.1))) λc=>if c then M.pure (.tup [a7 "told",.tup [tA s.1,tA t.2]]) else M.pure (.tup [a7 "refused",pv []])) H5=some (.ok (jT r),H5)->
   ∃H' ae,br P (CN P 100) (MN P 100) (fA P) (kL P is []) H=some (.ok (.ret (.bool true),ae),H'):=by
  intro r hr hm;have h9:CN P 100 355 [dW,.tup [a7 "join",av p,av o]] H5=some (.ok (jT r),H5):=by
   have:=gf (P:=P) (n:=85) (H:=H5) (p:= .join p o) ⟨dD rp,dD ro⟩ (by dsimp only [dp];exact Lx kD UX);replace this:=hr▸this;exact this
  have e9:=pY hr (by dsimp only [dp];exact Lx kD UX);refine(cK H5 (kT P is (av p) (.tup [tA s.1,tA s.2]) (av o) (.tup [tA t.1,tA t.2]) ((ag "due",jT r)::(ag "whole",.tup [a7 "join",av p,av o])::UW x3)) ?_);rw [HZ];have g4:EX P (CN P 100) (MN P 100) (a9 P 360 4) (kT P is (av p) (.tup [tA s.1,tA s.2]) (av o) (.tup [tA t.1,tA t.2]) (oR none)) H2=some (.ok (.next,kT P is (av p) (.tup [tA s.1,tA s.2]) (av o) (.tup [tA t.1,tA t.2]) (oR none)),H2):=by
   refine Yl.trans (mb (a:=false) (mb (a:=false) (mb (h4a H2) (bF ?_)) (mb (a:=false) (mb (mb (mb (ZI H2) rfl) (h4c H2)) (bF ?_)) rfl)) rfl)
   ·refine aa e1 ?_;rfl
   ·refine aa e2 ?_;rfl
  have g5:EX P (CN P 100) (MN P 100) (a9 P 360 5) (kT P is (av p) (.tup [tA s.1,tA s.2]) (av o) (.tup [tA t.1,tA t.2]) (oR none)) H2=some (.ok (.next,kT P is (av p) (.tup [tA s.1,tA s.2]) (av o) (.tup [tA t.1,tA t.2]) (oR none)),H2):=by
   refine Ym.trans (mb (a:=false) (mb (mb (mb (mb (mb (mb (mb (ZI H2) rfl) rfl) h5a) rfl) rfl) h5b) (bF ?_)) rfl);refine aa e3 ?_;rfl
  have g6:EX P (CN P 100) (MN P 100) (a9 P 360 6) (kT P is (av p) (.tup [tA s.1,tA s.2]) (av o) (.tup [tA t.1,tA t.2]) (oR none)) H2=some (.ok (.next,kT P is (av p) (.tup [tA s.1,tA s.2]) (av o) (.tup [tA t.1,tA t.2]) (oR x3)),H5):=Yn.trans (mb t1 (mb t2 (mb t3 rfl)));refine ay v_1 (ay (NO Yh hp Yi) (ay (NO Yj ho Yk) (ay g4 (ay g5 (ay g6 (ay v_7 (ay (Yo.trans (mb (mb hm Yp) rfl)) (b8 (Yq.trans ?_)))))))))
  ·refine mb (mb h9 (bF (a:= .bool true) ?_)) rfl;refine aa e9 ?_;rfl
 by_cases z:s.2=t.1
 ·refine fin (r:= .ok (s.1,t.2)) ?_ (mb (bF (Ae (s:=s.2) (t:=t.1) (Ly kD b1) (Lz UX b2))) ?_)
  ·refine aa lT (aa Jp ?_);refine aa Jo (?_:(if s.2=t.1 then _ else _)=_);exact aa (if_pos z) rfl
  ·refine aa (decide_eq_true z) ?_;rfl
 ·refine fin (r:= .error []) ?_ (mb (bF (Ae (s:=s.2) (t:=t.1) (Ly kD b1) (Lz UX b2))) ?_)
  ·refine aa lT (aa Jp ?_);refine aa Jo (?_:(if s.2=t.1 then _ else _)=_);exact aa (if_neg z) rfl
  ·refine aa (decide_eq_false z) ?_;rfl
theorem plain (P:qq9)(is:List Int):Ad P is:=by
 refine cn (E7 P is) λcs m hl h0 h1 h=> aX (H_ (P:=P) (is:=is) (H:=hH cs 0 m) (j2 cs 0 m rfl (Lo) (R0) h0 h1)) λH' ae h2=>?_;exact⟨cs,m,hl,h,H',ae,Eq.trans (by kernel_rfl) h2⟩
end
end Mine.Internal
namespace Mine
open Mine.Internal
namespace hd
def tw10111801491309104144:=Nat
def tw1013155817946168525:=Nat
def tw10170382586518783626:=Nat
def tw1017328040139425936:=Nat
def tw10216474801634566288:=Nat
def tw10246146449241189800:=Nat
def tw10258999931320997221:=Nat
def tw10403243965636340961:=Nat
def tw10458740792067480800:=Nat
def tw10525666975642140466:=Nat
def tw10583446816852156582:=Nat
def tw10601615944963115059:=Nat
def tw10603584201595350602:=Nat
def tw10614716105012338702:=Nat
def tw10752148897807903841:=Nat
def tw10779200252408728858:=Nat
def tw10784824025267889561:=Nat
def tw10792051664901133789:=Nat
def tw10879034167726328663:=Nat
def tw10938747861014524180:=Nat
def tw10949625832625181284:=Nat
def tw1097998534492414930:=Nat
def tw11032806212648032379:=Nat
def tw11041590408114104254:=Nat
def tw11054480109507316185:=Nat
def tw11117797201346649052:=Nat
def tw11128854368766332075:=Nat
def tw11136197038861592535:=Nat
def tw11139865519766512109:=Nat
def tw11162318198679636149:=Nat
def tw11210553801493137410:=Nat
def tw11213053971927718326:=Nat
def tw11232374478483605306:=Nat
def tw11251137523995926341:=Nat
def tw1129884963351977449:=Nat
def tw11319097763535126812:=Nat
def tw11319892378374348655:=Nat
def tw11389486352061984695:=Nat
def tw11402939732021071671:=Nat
def tw11465210709893060100:=Nat
def tw11513968764499736323:=Nat
def tw11631947586910100387:=Nat
def tw11652457597714270106:=Nat
def tw11660266114150955751:=Nat
def tw1168947359784239393:=Nat
def tw11754176132448286083:=Nat
def tw11917015161858427179:=Nat
def tw11953376511379268794:=Nat
def tw12023040214023829324:=Nat
def tw12050417470231563642:=Nat
def tw12070051907170230399:=Nat
def tw12092154237167983948:=Nat
def tw12112201142124510154:=Nat
def tw12113243949977362033:=Nat
def tw12271959270614036898:=Nat
def tw12399718760709695909:=Nat
def tw1241404454085649124:=Nat
def tw12588582704262371052:=Nat
def tw12614811148066621264:=Nat
def tw12629568148972539762:=Nat
def tw12631932088317031055:=Nat
def tw12647368939536790636:=Nat
def tw12901994302517312135:=Nat
def tw13217225542625558698:=Nat
def tw13225837485096350037:=Nat
def tw13267510147771200024:=Nat
def tw13483081372092288885:=Nat
def tw13609717118414637909:=Nat
def tw13770079208771991547:=Nat
def tw13790719812936386609:=Nat
def tw13828106393651249627:=Nat
def tw1382963296337349011:=Nat
def tw13855881374063213867:=Nat
def tw13866372431405929976:=Nat
def tw13903934854276604550:=Nat
def tw1409312971732116557:=Nat
def tw14103535550066685397:=Nat
def tw1413172679324656950:=Nat
def tw14168552714766633299:=Nat
def tw14176624398918483544:=Nat
def tw14246236162039180721:=Nat
def tw14260276757773058302:=Nat
def tw14353793391729792155:=Nat
def tw1439246655266547700:=Nat
def tw14400467628812073631:=Nat
def tw14457593812595234344:=Nat
def tw14478148883734587675:=Nat
def tw1450087424629197153:=Nat
def tw14705683404202351889:=Nat
def tw14727110085682223627:=Nat
def tw14955159897011116063:=Nat
def tw14960593345356199642:=Nat
def tw15042006015671813226:=Nat
def tw15043168886218598503:=Nat
def tw1506431575118746342:=Nat
def tw15089522573102190283:=Nat
def tw15166520500009309586:=Nat
def tw15367242080415987702:=Nat
def tw15368132723985388332:=Nat
def tw15416985209724490359:=Nat
def tw15508949281206285077:=Nat
def tw15529170255622000948:=Nat
def tw15595854959937240912:=Nat
def tw15615537253650120727:=Nat
def tw15616948245753086127:=Nat
def tw15642763164714097627:=Nat
def tw15673258824015622330:=Nat
def tw15759970867653108152:=Nat
def tw15790720579355451973:=Nat
def tw1580110805410547442:=Nat
def tw15833661619300960221:=Nat
def tw15837987909243819085:=Nat
def tw15852365999677673905:=Nat
def tw1589133516308662214:=Nat
def tw15967140613478806237:=Nat
def tw16007149819294483003:=Nat
def tw16037735763661986305:=Nat
def tw16056359734778111409:=Nat
def tw16064382804478563927:=Nat
def tw16091413853298234908:=Nat
def tw16171809288044610508:=Nat
def tw16211521421427940678:=Nat
def tw16259696140248634718:=Nat
def tw16299908979028503884:=Nat
def tw16412773359747925120:=Nat
def tw16432713993328977331:=Nat
def tw16473244170626142550:=Nat
def tw16649331688326792143:=Nat
def tw16722109127936396110:=Nat
def tw16772102934027710169:=Nat
def tw16828841361933241965:=Nat
def tw16920754564084929960:=Nat
def tw16945582573551092051:=Nat
def tw17047115858639842297:=Nat
def tw17054507655720011243:=Nat
def tw17062030032774818151:=Nat
def tw17087091549796120035:=Nat
def tw17177331786930743035:=Nat
def tw17183224562656869120:=Nat
def tw17213754286329925777:=Nat
def tw17252143746492648416:=Nat
def tw17330945745186091897:=Nat
def tw17387473266821786944:=Nat
def tw17447410573909459338:=Nat
def tw17542962492245011380:=Nat
def tw17574625026820762457:=Nat
def tw17599816209265215132:=Nat
def tw1760603350576429475:=Nat
def tw17606422857730326317:=Nat
def tw17672654358674132775:=Nat
def tw17673860158736603733:=Nat
def tw17714235663813219645:=Nat
def tw17739348878880393726:=Nat
def tw17893044597097874663:=Nat
def tw17901334829092211166:=Nat
def tw17950676927832955104:=Nat
def tw17975533764899295144:=Nat
def tw1800889605409440832:=Nat
def tw18093812233618175256:=Nat
def tw18103342009636024947:=Nat
def tw18166333605607142505:=Nat
def tw18245042118932799458:=Nat
def tw18264374347568628810:=Nat
def tw18293732401869909652:=Nat
def tw18300207936620678264:=Nat
def tw18343703819029505601:=Nat
def tw1836080755315867724:=Nat
def tw1847840615245081061:=Nat
def tw1865391376527767206:=Nat
def tw189712035060473897:=Nat
def tw1997569388931296116:=Nat
def tw2068664650715991707:=Nat
def tw2114630138375439770:=Nat
def tw2125676567915665837:=Nat
def tw2167537188350426706:=Nat
def tw221497870779424605:=Nat
def tw2216850387143573719:=Nat
def tw2252305205657439004:=Nat
def tw22551697357593593:=Nat
def tw2274498078352570744:=Nat
def tw2323474266016966308:=Nat
def tw2386827423013361158:=Nat
def tw2391449824757734642:=Nat
def tw2442259710966052079:=Nat
def tw2603259988358896889:=Nat
def tw2608437505485318709:=Nat
def tw2867327485932766208:=Nat
def tw2887051446865420828:=Nat
def tw3008623586974134963:=Nat
def tw3039998526598829958:=Nat
def tw307737655149646647:=Nat
def tw3182187488490625086:=Nat
def tw3229955645248102723:=Nat
def tw3259873300814134281:=Nat
def tw3442329435671937591:=Nat
def tw3451239065008710300:=Nat
def tw3452082135128663414:=Nat
def tw3480954088277226078:=Nat
def tw3571134770919094901:=Nat
def tw3673089383077640791:=Nat
def tw3795277891434052102:=Nat
def tw3915529967508079626:=Nat
def tw3919010098100093602:=Nat
def tw3930940297936929747:=Nat
def tw395138700845864316:=Nat
def tw4014540891139286612:=Nat
def tw4015398097383911347:=Nat
def tw402640490398009360:=Nat
def tw4065347644161347641:=Nat
def tw4086058157674990017:=Nat
def tw4115565904173853331:=Nat
def tw4172343393113369950:=Nat
def tw4272726840584523970:=Nat
def tw4297731678662094536:=Nat
def tw4315991029959535628:=Nat
def tw4360684699965382250:=Nat
def tw4377701919642642989:=Nat
def tw4402725079659364252:=Nat
def tw4478166936697009375:=Nat
def tw4478964076566166474:=Nat
def tw461538923250603899:=Nat
def tw4702841417184801058:=Nat
def tw4706079058837389440:=Nat
def tw4851647983119433812:=Nat
def tw4856431653887292112:=Nat
def tw4870687313549177768:=Nat
def tw4971549296188076032:=Nat
def tw4993660671451451078:=Nat
def tw5036846961687405229:=Nat
def tw5089235407568680550:=Nat
def tw5130813555471234732:=Nat
def tw5148922909946612681:=Nat
def tw5174551420813472067:=Nat
def tw5190246844813560578:=Nat
def tw5278057926702712004:=Nat
def tw5282504435634884242:=Nat
def tw5343241284826551009:=Nat
def tw5363564295841288755:=Nat
def tw5366084841770067474:=Nat
def tw5373601922739893978:=Nat
def tw5511420028821071320:=Nat
def tw5562173858411828344:=Nat
def tw5567388512258382067:=Nat
def tw5608270528595127837:=Nat
def tw5657824000916062451:=Nat
def tw5732804406350252772:=Nat
def tw5902613922787404954:=Nat
def tw5961118342813265553:=Nat
def tw5987830557187376847:=Nat
def tw6019021122589006684:=Nat
def tw6060742912462422084:=Nat
def tw6082411064634330575:=Nat
def tw6123773746684550334:=Nat
def tw6164396464334811476:=Nat
def tw6184460063843016694:=Nat
def tw6196171512934965099:=Nat
def tw6264232113106981867:=Nat
def tw6276725880618359904:=Nat
def tw6293948785866598258:=Nat
def tw6305734824756694309:=Nat
def tw6407587892757256292:=Nat
def tw6411954120941647267:=Nat
def tw6442067068224118133:=Nat
def tw6528754448969337418:=Nat
def tw6545403380812914513:=Nat
def tw6555240042291301478:=Nat
def tw6598312636042714100:=Nat
def tw6767318904944593275:=Nat
def tw6819123309680001836:=Nat
def tw6820178308398730642:=Nat
def tw6820862383352777685:=Nat
def tw6830512106363814048:=Nat
def tw6838551448383532254:=Nat
def tw6924109203229866365:=Nat
def tw6931407450589930559:=Nat
def tw6982297934935202809:=Nat
def tw7010584846471099517:=Nat
def tw701787995468756871:=Nat
def tw7028611270464810887:=Nat
def tw7068711184596962023:=Nat
def tw728884934406724761:=Nat
def tw7289634563603522867:=Nat
def tw7296583596125217682:=Nat
def tw7355570028127101125:=Nat
def tw7366208706002141716:=Nat
def tw7494724483528729301:=Nat
def tw7510230149288206974:=Nat
def tw7519716089354478335:=Nat
def tw758273949599710562:=Nat
def tw7752767780024739350:=Nat
def tw7754304195085646258:=Nat
def tw7763873220885509757:=Nat
def tw7914949630228597729:=Nat
def tw8025032847418708242:=Nat
def tw8047900516022102942:=Nat
def tw8112040973832200146:=Nat
def tw8226494294326810461:=Nat
def tw8228950375871286339:=Nat
def tw8343274005884668182:=Nat
def tw8356816923877370021:=Nat
def tw8428860471423672150:=Nat
def tw8444771526621048702:=Nat
def tw8457440626546761165:=Nat
def tw8458067239894703972:=Nat
def tw853570095554691725:=Nat
def tw8671608845466749128:=Nat
def tw8716120427605611371:=Nat
def tw8727321023445011275:=Nat
def tw8789358453043137523:=Nat
def tw8934143017859847078:=Nat
def tw8959176491354863721:=Nat
def tw8960069828448710407:=Nat
def tw8977307856219701671:=Nat
def tw8990313861142287110:=Nat
def tw9170477692918782315:=Nat
def tw922143313871775805:=Nat
def tw9277588360372424766:=Nat
def tw9345676750909349944:=Nat
def tw9345929723534960622:=Nat
def tw9386895884608548742:=Nat
def tw9421340871869096474:=Nat
def tw9427301549700849589:=Nat
def tw9557236495431379559:=Nat
def tw9566141503761928105:=Nat
def tw9571657101598308349:=Nat
def tw9657781627882305391:=Nat
def tw9673543361469618366:=Nat
def tw9719896912496429819:=Nat
def tw9741134391959003819:=Nat
def tw9748044761591592747:=Nat
def tw9762872527117769658:=Nat
def tw9783614193127449063:=Nat
def tw978945382295711627:=Nat
def tw991583007596301734:=Nat
def tw9960721518486171458:=Nat
end hd
set_option Elab.async true in
set_option maxRecDepth 100000 in
theorem hd:PySem.Challenge.rw_pq0048_01.Holds:=by
 w_on
 o_law
 o_head (kHook K0 as0 asK)
 (case hw=>w_witness2)
 intro w aaD s₁ mg mb G Y fa o pm cd doc dV kV ho hd GR hD UM hg args vals as Yr Ys hrd hwl hlo;have KX:(Internal.KK w.params).In s₁.heap:=by
  delta Internal.KK;exact kIn_of Y
 refine Ground.open G ?_;intro T B D TE TW
 wrow_args Yr Ys hrd hwl hlo
 have hfa:fa=360:=by
  have h1:=mg_of KX T.g (JA w.params);have h2:mg "law"=some (.ref fa):=UM;replace h2:=eS h1 h2;injection h2 with h2
  injection h2 with h2
  exact h2.symm
 subst hfa
 rename s₁.heap.IsList _ _=>hL
 rename IntsAre _ _=>hI
 refine qqV (JB (Mine.Internal.plain _ _) KX T.nolimit T.g T.b T.builtins hL hI (by omega) hg) (λv s' h=>?_) (λe s' h=>h.elim);refine gD h λaz k d6 L8=>?_;clear h;subst az;exact GoodW.toG (gF (.inl (j2 _ (.bool true) ([]) rfl (λcls=>by rfl) (.bool true) (by first|kernel_rfl|(simp [OpenLaw.row];done)) (λ_=>⟨qxW,λa h=>by cases h⟩))) k d6 L8)
end Mine

theorem PySem.Challenge.cw_pq0048_01_holds : PySem.Challenge.rw_pq0048_01.Holds :=
 Mine.hd
