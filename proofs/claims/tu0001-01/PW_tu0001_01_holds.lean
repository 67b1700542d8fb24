import PyProof.Rows.All
import Wide.All
import OpenK.AllK
import Wide.FinOn
import Open.Boot
import Lean
import PySem.Challenge.RW_tu0001_01
set_option autoImplicit false
set_option linter.all false
set_option Elab.async false
set_option genSizeOf false
set_option genCtorIdx false
set_option genInjectivity false
set_option tactic.hygienic false
set_option bootstrap.genMatcherCode false
set_option maxRecDepth 100000
set_option maxHeartbeats 0
open And renaming intro->cH
open Array renaming length_toList->Ϙ,getElem?_toList->aF,toList_push->dM,getElem?_eq_none->iE,mem_toList_iff->jl,mk->jn,any_toList->mH,getElem?_eq_getElem->p5,isEmpty_iff->zQ
open Bool renaming false_ne_true->ϟ,and_eq_true_iff->aQ,or_eq_false_iff->eV,eq_iff_iff->fD,and_false->jA,or_eq_true_iff->jQ,false_eq_true->kG,and_eq_true->m5,and_true->ri,or_eq_true->ES
open Classical renaming byContradiction->Ϻ,em->eN,epsilon_spec->gG,epsilon->jL,not_not->XX
open Eq renaming trans->dg,symm->OY
open ForInStep renaming yield->gH
open Int renaming le_refl->ϛ,toNat_natCast->ϡ,natCast_nonneg->Ϧ,not_lt->Ϭ,le_trans->Ϯ,lt_succ->av,lt_of_le_of_lt->aI,ofNat_inj->aO,eq_ofNat_of_zero_le->aS,lt_of_lt_of_le->cj,not_le->cy,le_of_lt->cQ,lt_add_one_of_le->fu,ofNat_lt->iQ,sub_le_self->iV,lt_irrefl->kI,emod_lt_of_pos->lJ,emod_nonneg->pM,lt_trans->vt,ofNat_le->vz,le_antisymm->Fq,sub_lt_self->Ft,add_comm->Of,le_of_eq->Og,lt_toNat->Oh
open List renaming length_append->θ,length_map->ς,mem_singleton->υ,append_assoc->Α,getElem?_eq_some_iff->Δ,mem_append_right->Ε,mem_append->Ζ,mem_cons->Θ,mem_append_left->Κ,append_nil->Ν,map_append->Ξ,mem_of_getElem?->Υ,replicate->Ω,getElem?_eq_getElem->ϊ,mem_map->Ϗ,all_eq_true->ϐ,not_mem_nil->ϑ,getElem?_map->ϒ,prefix_refl->ϓ,cons->ϕ,range->ϗ,getElem?_concat_length->Ϟ,getElem?_append_left->Ϥ,mem_range->ϭ,length_range->ϲ,map_map->Ϲ,cons_ne_nil->aq,length->au,casesOn->az,getElem?_append_right->aA,prefix_append->aH,map_cons->aU,any_eq_true->aW,lookup_cons->aX,take_length->aY,getD_eq_getElem?_getD->bh,pairwise_cons->bk,length_singleton->bu,length_set->bG,getElem?_of_mem->bI,nodup_cons->cF,length_take->cN,getElem?_eq_none_iff->cR,getElem?_take_of_lt->cZ,append_ne_nil_of_right_ne_nil->dj,getElem?_inj->dO,nodup_append->dP,nodup_nil->dQ,take_add_one->dR,forall_mem_cons->eW,pairwise_append->eY,append_cons->gZ,getElem_mem->g4,isEmpty_iff->g5,pairwise_singleton->g6,prefix_iff_eq_take->g7,range'_succ->g8,getElem?_set_self->iK,concat_eq_append->iW,contains_iff_mem->iX,eq_nil_or_concat->iY,dropLast_concat->jB,dropLast_subset->jC,forIn_nil->jD,getElem?_set_ne->jE,range_eq_range'->jF,take_left->jG,getElem?_range->jR,length_pos_iff->jS,length_take_le->jT,map_congr_left->jU,toList_toArray->jV,any_cons->kC,getElem?_take->kJ,map->lP,set->lQ,length_drop->m7,mem_flatMap->m8,eq_nil_of_length_eq_zero->nu,range'->nv,mem_zipIdx_iff_getElem?->nU,findIdx?_eq_none_iff->qD,getLast?_eq_getElem?->qE,pairwise_iff_getElem->qF,length_eq_zero_iff->tG,filter_eq_nil_iff->tR,find?_cons_of_neg->tS,find?_cons_of_pos->tT,getElem?_eq_none->vA,length_replicate->vB,mem_iff_getElem?->vC,getElem?_zipIdx->vO,getLast?_concat->vP,length_dropLast->vQ,mem_of_mem_take->vR,rec->vS,mem_replicate->zV,zip_cons_cons->zW,getElem?_set->A2,map_dropLast->A4,take_sublist->A5,filter_cons->Bj,length_cons->Bk,perm_middle->Bl,forIn_cons->EW,length_nil->EX,of_mem_zip->EY,take_take->FA,map_id'->J9,map_nil->J_,foldl->O0,headD->O1,take->Uw
open List.Perm renaming append_left->X4
open List.cons renaming inj->bC
open Nat renaming le_trans->η,le_succ_of_le->Ι,le_of_ble_eq_true->Λ,le_add_right->Ρ,lt_of_le_of_lt->Τ,zero_le->ϋ,le_refl->ώ,le_add_right_of_le->ϔ,lt_succ_self->ϝ,le_add_left->ϣ,le_of_succ_le->Ϩ,le_of_add_le_add_right->ϫ,not_lt->ϯ,le_succ->ϰ,noConfusion->aD,zero_add->aP,add_le_add_left->aT,le_of_lt->aV,add_assoc->aZ,lt_irrefl->a_,lt_of_lt_of_le->bw,add_le_add_right->bM,succ_add_eq_add_succ->bN,le_of_not_lt->bW,add_right_comm->cz,le_of_eq->cC,add_le_add->cL,succ_le_succ->cS,succ_pos->cT,add_sub_cancel_left->dz,lt_add_of_pos_right->dB,le_of_succ_le_succ->iR,ne_of_lt->iS,mul_le_mul_left->kD,le_of_lt_succ->mK,lt_or_ge->mL,lt_succ_of_lt->mO,lt_trans->mP,ne_of_gt->mQ,sub_le->qH,lt_of_add_right_lt->vD,lt_of_succ_lt_succ->vF,ble->Bm,succ_lt_succ->E0,min_eq_left->FD,not_lt_zero->FF,add_comm->Oi,mul_succ->Oj,le_zero->O2,not_le->Ux
open Nat.ToInt renaming of_diseq->tH
open Nat.succ renaming inj->gJ
open Ne renaming symm->E1
open Option renaming isNone_iff_eq_none->ah,some_ne_none->bP,isSome_iff_exists->cU,map_eq_some_iff->dF,map->vV,map_some->A8,casesOn->Bo
open Option.some renaming inj->ξ
open Or renaming elim->cK
open Prod renaming fst->Ϣ,mk->pP,snd->vW
open PyProof.Rows renaming bi_ine->pQ,Subscript_->IC,slot_tuple_getitem->JU,ge_int->O5,gt_int->O6,le_int->O7,lt_int->O8,neg_int->O9,cellsFrom_names->P1
open PySem renaming wpAny_bind->ο,Value->χ,wpAny_pure->Η,Env->Ο,Shared->Χ,Addr->ό,wpAny_holding->ύ,Expr->Ϛ,Around->Ϡ,DictEntry->ϧ,Str->ak,Heap->ao,wpAny_standAt->aE,Params->bz,wpAny_Call_Name_kw->bH,FuncData->bU,wpAny_mono->cI,World->cW,wpAny_call_entry->dc,wpAny_callSpecial?_slot->dW,Expr->dX,PyData->eO,Reach->eS,wpAny_loadPart->eU,Obj->e9,Stmt->fB,intKind_is->fM,Arg->fU,Pos->gB,callWith_type1->gX,call_meets->gY,slot_dict_setitem->iM,slot_list_getitem->iN,wpAny_sequenceKey->iO,wpAny_truthy_bool->iP,wpAny_execs_nil->kq,NameKind->lM,list_append->lN,builtinType_eq_fast->mR,Comprehension->m6,wpAny_release->nq,wpAny_rule->nP,Operator->pO,ReadsAll->pS,Scope->pT,callWith_builtin1->pU,getMethod_builtin->pV,wpAny_pyIter_list->pZ,CmpOp->rj,wpAny_specialOf->tO,OsState->tU,Flow->vq,strKind_is->vJ,wpAny_call->vK,wpAny_getItem_list_slice->zN,KeyKind->A1,reduceHash->A9,wpAny_mkText->Be,wpAny_pyNext_list_item->Bf,wpAny_typeOf->Bg,wpAny_notOrdered_dict->EM,wpAny_pyIter_listiter->EN,wpAny_pyNext_list_end->EO,Data->EU,Reads->E3,codeAny_call_builtin->E7,wpAny_of_eq->Ff,wpAny_updateDictKeys->Fg,wpAny_Constant_none->Ip,entry_dict_setitem->I9,wpAny_Constant_str->J3,wpAny_tupleItemsOf->J4,Sem->Kh,args_dict_setitem->Kv,slot_list_setitem->Nc,arm_allTrue_cons->Oo,noFill_tuple_add->OM,wpAny_operating->TX,seq_tuple_add->Xs,table_eq_tree->XD,wpAny_UnaryOp->XK,Tok->X7,call_meetsIn->Yh,call_range_1->Yi,concat_meets->Ym
open PySem.AfterImport renaming of_importEnds->Um,unique->Uo
open PySem.Arguments renaming casesOn->XT
open PySem.AutoIntOps renaming iadd_0->tF
open PySem.AutoListH renaming list___mul___list_int_3->XU
open PySem.Builtin.Dict renaming notOrdered->OT
open PySem.Builtin.List renaming listFitsIndex->OU,listSubscript?->OV
open PySem.Builtin.Range renaming rangeSize->N9
open PySem.Builtin.Str renaming occurrences->Ur
open PySem.Builtin.Tuple renaming tupleHashOf->cD,tupleHashOf->gK,tupleItemsOf->ku,tupleIsExact->N_
open PySem.Calls renaming spliced_cons->kB,evalArgs_plain->vp,call_len_list->yy,spliced_nil->zS,Name_function_global->EZ
open PySem.Challenge renaming pw_tu0001_01->IA,rw_tu0001_01->IB
open PySem.Code renaming cUnits->Oa,weight->Ob
open PySem.DictEntry renaming refKey->XZ
open PySem.Expr renaming Call->jM
open PySem.F renaming store_object->bD,slot_tuple_getitem->ny,args_tuple_add_2->pR,entry_tuple_add->p7,plainAttrs_list->p8,slot_tuple_add->qI
open PySem.FuncData renaming mk->EV
open PySem.Heap renaming get?_push_of_some->af,get?_push_size->aB,SameBut->b8,lt_size->cM,ExtBut->dm,size_push->dN,get?_update_self->iU
open PySem.Heap.IsSliceOf renaming new->nS
open PySem.Heap.SameBut renaming update->aK
open PySem.IsL renaming isList->aJ,update->Uv
open PySem.MeetsSeq renaming list_pop_at->Ka,list_pop_last->Kf
open PySem.NameKind renaming cell->A7
open PySem.Obj renaming mapSeq->bO,data_mapDictKeys->fy,putName->nV,mapDictKeys->pN,isFreed_of_dict->zX,mk->Uz
open PySem.P renaming len_tuple->vX
open PySem.Pin renaming globalOf_eq->FN
open PySem.PyData renaming keyHash->iZ,eqv->nW,eqvAll->E2,strOk->FO
open PySem.ScopeKind renaming function->tK
open PySem.SeqAt renaming shaped->iF
open PySem.Stmt renaming AugAssign->p9,Assign->Ol
open PySem.Str renaming ofString->ϵ
open PySem.TablesWhole renaming holds->rq,wProgram->UG
open PySem.Value renaming ref->ru,int->Pj
open PySem.Value.ref renaming inj->X8
open PySem.W renaming look_both->aj,Looks->cO,boot_heap->c9,boot_drawn->gW,boot_toks->jr,boot_o_3->UI
open PySem.W.Fast renaming tw6116379765354995101->p6
open PySem.W.Looks renaming ld->gj,of_pure->qG
open PySem.W.WData renaming int->gV
open PySem.W.WShape renaming hasItems->iG,has->Kl
open PySem.W.WTm renaming holds->tV,value->Va
open Std.LawfulOrderOrd renaming isLE_compare_eq_false->Br
namespace J.Internal
inductive D where
 |none|bool (b:Bool)|int (i:Int)|str (k:Nat)|tup (l:List D)|lst (l:List D)
set_option genCtorIdx true in
inductive V where
 |d (x:D)|obj (i:Nat)|ins (c i:Nat)|gd (k:Nat)|Μ
inductive PO where
 |list (l:List D)|vl (l:List V)|di (es:List (Int×V))|ds (es:List (Nat×V))|dt (es:List (List D×V))|at(es:List (Nat×V))|dead
structure Hp where
 ok:Prop
 c:List PO
noncomputable abbrev Env:=List<|Option V
noncomputable abbrev V.int(i:Int):V:=.d<|.int i
noncomputable abbrev V.bool(i:Bool):V:=.d<|.bool i
noncomputable abbrev V.none:V:=.d .none
noncomputable abbrev V.tup(l:List D):V:=.d<|.tup l
noncomputable abbrev V.lst(l:List D):V:=.d<|.lst l
set_option genCtorIdx true in
inductive E where
 |nil|n (t n m:Nat) (k:List Nat) (a b c:E)
noncomputable abbrev num{α:Type}:Nat->List α->α->α
 |_,[],z=>z
 |0,x::_,_=>x
 |n+1,_::l,z=>num n l z
mutual
noncomputable def r5:D->D->Bool
 | .none,.none=>true
 | .int a,.int b=>a==b
 | .str a,.str b=>a==b
 | .tup l,.tup m=>kU l m
 | .lst l,.lst m=>kU l m
 |_,_=>false
noncomputable def kU:List D->List D->Bool
 |[],[]=>true
 |x::l,y::m=>r5 x y&&kU l m
 |_,_=>false
end
mutual
noncomputable def fK:Nat->D->Bool
 |_,.none=>true
 |_,.int _=>true
 |_,.str _=>true
 |n+1,.tup l=>kF n l
 |n+1,.lst l=>kF n l
 |_,_=>false
noncomputable def kF:Nat->List D->Bool
 |_,[]=>true
 |n,x::l=>fK n x&&kF n l
end
noncomputable def fC(w:D):List D->Bool
 |[]=>false
 |x::l=>r5 x w||fC w l
noncomputable def look{α:Type}[DecidableEq α](k:α):List (α×V)->Option V
 |[]=>none
 |(a,v)::r=>if a=k then some v else look k r
noncomputable def put{α:Type}[DecidableEq α](k:α)(v:V):List (α×V)->List (α×V)
 |[]=>[(k,v)]
 |(a,u)::r=>if a=k then(a,v)::r else(a,u)::put k v r
noncomputable def qS:D->Option Int
 | .int i=>some<|PySem.hashInt i
 | .tup []=>some<|A9<|gK []
 |_=>none
noncomputable def gD:List D->Option (List Int)
 |[]=>some []
 |v::l=>(qS v).bind λh=>(gD l).map (h:: ·)
noncomputable def fG(k:List D):Option Int:=(gD k).map λhs=>A9<|gK hs
noncomputable def dH(es:List (List D×V))(k:List D):Bool:=match fG k with
 |some h=>es.all λe=>fG e.1 !=some h
 |none=>false
noncomputable def big:Nat:=1000000
noncomputable abbrev jK(i:Int):Prop:= -1000000000000<i/\i<1000000000000
noncomputable def Hp.ϴ(H:Hp)(p:Prop):Hp:=⟨H.ok/\p,H.c⟩
noncomputable def Hp.put(H:Hp)(i:Nat)(o:PO):Hp:=⟨H.ok,H.c.set i o⟩
noncomputable def Hp.new(H:Hp)(o:PO):Hp:=⟨H.ok,H.c++[o]⟩
noncomputable def Hp.cut(H:Hp)(n:Nat):Hp:=⟨H.ok,H.c.take n⟩
noncomputable def Hp.get(H:Hp)(i:Nat):PO:=(H.c[i]?).getD .dead
noncomputable def jc:List V->Option (List D)
 |[]=>some []
 | .d x::l=>(jc l).map (x:: ·)
 |_=>none
noncomputable def at?{α:Type}(l:List α)(i:Int):Option α:=if 0<=i then l[i.toNat]? else if -(l.length:Int)<=i then l[(i+l.length).toNat]? else none
noncomputable def Ϫ(a n:Int):List D:=(ϗ (n-a).toNat).map λ(k:Nat)=>.int<|a+(k:Int)
noncomputable def qw:List D->Option Int
 |[]=>none
 | .int i::r=>match r with
  |[]=>some i
  |_=>(qw r).map λm=>if i<m then m else i
 |_=>none
noncomputable def truth:V->Option Bool
 | .d .none=>some false
 | .d (.bool b)=>some b
 | .d (.int i)=>some<|i !=0
 |_=>none
noncomputable def Ec(a:Nat):Option Bool:=if a=84∨a=85 then some true else if a=82∨a=79∨a=78∨a=86∨a=87 then some false else none
noncomputable def may(kp:Bool):V->Bool
 | .d _=>true
 |_=>kp
noncomputable def iw(pos:Nat):V->Bool
 | .d .none=>pos !=0
 |_=>pos==0
noncomputable def Ai(kind:Nat)(ks:List Nat)(vs:List V):PO:=num kind [.di [],.ds<|ks.zip vs,.dt []] .dead
inductive Fl where|next|brk|cont|ret (v:V)
noncomputable def E8{α:Type}(f:List D->α):PO->Option α
 | .list l=>some<|f l
 |_=>none
noncomputable def sq(H:Hp):V->Option (Bool×List D)
 | .d x=>match x with
  | .tup l=>some (true,l)
  | .lst l=>some (false,l)
  |_=>none
 | .obj i=>E8 (pP false)<|H.get i
 |_=>none
noncomputable def dat(H:Hp):V->Option D
 | .d x=>some x
 | .obj i=>E8 .lst<|H.get i
 |_=>none
noncomputable def iL(x y:D):Option Bool:=match x,y with
 | .bool a,.bool b=>some<|a==b
 |_,_=>if fK 6 x&&fK 6 y then some (r5 x y) else none
noncomputable def eqv(H:Hp)(v w:V):Option Bool:=(dat H v).bind λx=>(dat H w).bind λy=>iL x y
noncomputable def UN(j:Nat):PO->Option (List D×Option (Nat×PO))
 | .list l=>some (l,some (j,.list l))
 | .di es=>some (es.map λe=>.int e.1,some (j,.di es))
 |_=>none
noncomputable def iy(H:Hp):V->Option (List D×Option (Nat×PO))
 | .d x=>match x with
  | .tup l=>some (l,none)
  | .lst l=>some (l,none)
  |_=>none
 | .obj j=>UN j<|H.get j
 |_=>none
namespace P
noncomputable abbrev z:E:=.nil
noncomputable abbrev k(a b:E):E:=.n 0 0 0 [] a b z
noncomputable abbrev I(n:Nat):E:=.n 1 n 0 [] z z z
noncomputable abbrev Z(n:Nat):E:=.n 2 n 0 [] z z z
noncomputable abbrev Y(n:Nat):E:=.n 3 n 0 [] z z z
noncomputable abbrev N:E:=.n 4 0 0 [] z z z
noncomputable abbrev L(n:Nat):E:=.n 5 n 0 [] z z z
noncomputable abbrev G(n m:Nat):E:=.n 6 n m [] z z z
noncomputable abbrev B(n:Nat)(a b:E):E:=.n 7 n 0 [] a b z
noncomputable abbrev Ng(a:E):E:=.n 8 0 0 [] a z z
noncomputable abbrev Nt(a:E):E:=.n 9 0 0 [] a z z
noncomputable abbrev Is(n:Nat)(a:E):E:=.n 10 n 0 [] a z z
noncomputable abbrev C(n:Nat)(a b:E):E:=.n 11 n 0 [] a b z
noncomputable abbrev Cc(n m:Nat)(a b c:E):E:=.n 12 n m [] a b c
noncomputable abbrev O(n:Nat)(a:E):E:=.n 13 n 0 [] a z z
noncomputable abbrev If(a b c:E):E:=.n 14 0 0 [] a b c
noncomputable abbrev Tu(a:E):E:=.n 15 0 0 [] a z z
noncomputable abbrev Li(n:Nat)(a:E):E:=.n 16 n 0 [] a z z
noncomputable abbrev Dc(n:Nat)(l:List Nat)(a:E):E:=.n 17 n 0 l a z z
noncomputable abbrev A(n:Nat)(a:E):E:=.n 18 n 0 [] a z z
noncomputable abbrev X(a b:E):E:=.n 19 0 0 [] a b z
noncomputable abbrev Sf(n:Nat)(a b:E):E:=.n 20 n 0 [] a b z
noncomputable abbrev St(a b:E):E:=.n 21 0 0 [] a b z
noncomputable abbrev Fn(n:Nat)(a:E):E:=.n 22 n 0 [] a z z
noncomputable abbrev Nw(n:Nat)(a:E):E:=.n 23 n 0 [] a z z
noncomputable abbrev M(n:Nat)(a b:E):E:=.n 24 n 0 [] a b z
noncomputable abbrev Bu(n:Nat)(a:E):E:=.n 25 n 0 [] a z z
noncomputable abbrev Co(n m:Nat)(a b c:E):E:=.n 26 n m [] a b c
noncomputable abbrev Ra(a b:E):E:=.n 40 0 0 [] a b z
noncomputable abbrev ret(a:E):E:=.n 28 0 0 [] a z z
noncomputable abbrev asg(a b:E):E:=.n 29 0 0 [] a b z
noncomputable abbrev aug(n:Nat)(b:E):E:=.n 30 n 0 [] z b z
noncomputable abbrev ex(a:E):E:=.n 31 0 0 [] a z z
noncomputable abbrev ifs(a b c:E):E:=.n 32 0 0 [] a b c
noncomputable abbrev UZ(a b:E):E:=.n 33 0 0 [] a b z
noncomputable abbrev fr(a b c:E):E:=.n 34 0 0 [] a b c
noncomputable abbrev brk:E:=.n 35 0 0 [] z z z
noncomputable abbrev cnt:E:=.n 36 0 0 [] z z z
noncomputable abbrev bad:E:=.n 37 0 0 [] z z z
noncomputable abbrev mT(n:Nat):E:=.n 38 n 0 [] z z z
noncomputable abbrev It(a:E):E:=.n 39 0 0 [] a z z
noncomputable abbrev Gx(n:Nat):E:=.n 27 n 0 [] z z z
noncomputable abbrev PC(a b c:E):E:=.n 41 0 0 [] a b c
noncomputable abbrev Rl(a:E):E:=.n 42 0 0 [] a z z
noncomputable abbrev n5(a:E):E:=.n 43 0 0 [] a z z
end P
open P
noncomputable abbrev lX:E:=k (asg (A 5<|L 0)<|Li 1 z)<|k (asg (A 4<|L 0)<|Dc 2 [] z)<|k (asg (A 3<|L 0)<|Li 1 z)<|k (asg (A 2<|L 0)<|Li 1 z)<|k (asg (A 0<|L 0)<|Li 1 z)<|k (fr (L 1) (Ra z<|G 0 16)<|k (asg (L 2)<|Tu<|k (G 1 1)<|k (L 1) z)<|k (ex<|M 1 (A 5<|L 0)<|k (L 2) z)<|k (asg (X (A 4<|L 0)<|L 2)<|L 1)<|k (ex<|M 1 (A 3<|L 0)<|k (I 1) z)<|k (ex<|M 1 (A 2<|L 0)<|k (I 1) z)<|k (ex<|M 1 (A 0<|L 0)<|k (I 0) z) z) z
noncomputable abbrev nc:E:=k (n5<|O 0<|k (C 2 (L 1)<|I 0)<|k (C 5 (L 1)<|Bu 0<|A 5<|L 0) z)<|k (ret<|X (A 5<|L 0)<|L 1) z
noncomputable abbrev m_:E:=k (asg (L 2)<|M 6 (A 4<|L 0)<|k (L 1)<|k (Ng<|I 1) z)<|k (ifs (C 5 (L 2)<|I 0) (k bad z) z)<|k (ex<|Fn 6<|k (L 0)<|k (L 1) z)<|k (asg (L 3)<|I 1)<|k (asg (L 4)<|I 1)<|k (asg (L 5)<|I 0)<|k (ifs (O 0<|k (C 0 (X (L 1)<|I 0)<|G 2 6)<|k (C 0 (X (L 1)<|I 0)<|G 3 7) z) (k (asg (L 5)<|I 1) z) z)<|k (asg (L 6)<|Fn 4<|k (X (L 1)<|I 0) z)<|k (fr (L 7) (It<|Fn 3<|k (L 1) z)<|k bad<|k bad<|k bad z)<|k (n5<|C 4 (L 3)<|G 4 24)<|k (n5<|C 4 (L 4)<|G 5 4096)<|k (asg (L 8)<|Bu 0<|A 5<|L 0)<|k (ex<|M 1 (A 5<|L 0)<|k (L 1) z)<|k (asg (X (A 4<|L 0)<|L 1)<|L 8)<|k (ex<|M 1 (A 3<|L 0)<|k (L 3) z)<|k (ex<|M 1 (A 2<|L 0)<|k (L 4) z)<|k (ex<|M 1 (A 0<|L 0)<|k (L 5) z)<|k (ret<|L 8) z
noncomputable abbrev qf:E:=k (asg (L 1)<|X (L 0)<|I 0)<|k (ifs (O 0<|k (C 0 (L 1)<|G 6 2)<|k (C 0 (L 1)<|G 7 3) z) (k (ret<|X (L 0)<|I 2) z) z)<|k (ifs (O 0<|k (C 0 (L 1)<|G 8 4)<|k (C 0 (L 1)<|G 9 5)<|k (C 0 (L 1)<|G 10 8)<|k (C 0 (L 1)<|G 11 9)<|k (C 0 (L 1)<|G 12 11) z) (k bad z) z)<|k (ifs (C 0 (L 1)<|G 13 10) (k bad z) z)<|k (ret<|Tu z) z
noncomputable abbrev uw:E:=k (ifs (O 0<|k (C 0 (L 0)<|G 6 2)<|k (C 0 (L 0)<|G 7 3)<|k (C 0 (L 0)<|G 8 4) z) (k (ret<|I 1) z) z)<|k (ret<|I 0) z
noncomputable abbrev rP:E:=k (ifs (O 0<|k (C 0 (L 0)<|G 6 2)<|k (C 0 (L 0)<|G 7 3) z) (k (ret<|I 3) z) z)<|k (ifs (C 0 (L 0)<|G 13 10) (k bad z) z)<|k (ret<|I 2) z
noncomputable abbrev lY:E:=k (n5<|O 0<|k (C 0 (Bu 0<|L 1)<|I 0)<|k (C 3 (X (L 1)<|I 0)<|G 1 1)<|k (C 4 (X (L 1)<|I 0)<|G 12 11) z)<|k (asg (L 2)<|X (L 1)<|I 0)<|k (n5<|C 1 (Bu 0<|L 1)<|Fn 5<|k (L 2) z)<|k (fr (L 3) (It<|Fn 3<|k (L 1) z)<|k bad z)<|k (ifs (O 0<|k (C 0 (L 2)<|G 6 2)<|k (C 0 (L 2)<|G 7 3) z) (k (ex<|Fn 7<|k (L 0)<|k (L 1) z) z)<|k (ifs (O 0<|k (C 0 (L 2)<|G 2 6)<|k (C 0 (L 2)<|G 3 7) z) (k (n5<|C 2 (X (L 1)<|I 1)<|I 0) z)<|k bad z) z) z
noncomputable abbrev qa:E:=k (n5<|O 0<|k (C 3 (X (L 1)<|I 1)<|I 0)<|k (C 6 (X (L 1)<|I 1)<|Gx 0) z)<|k (ex<|Fn 8<|k (L 0)<|k (X (L 1)<|I 2) z) z
noncomputable abbrev rJ:E:=k (fr (L 2) (It<|L 1)<|k bad z) z
noncomputable abbrev rK:E:=k (ifs (C 6 (L 1)<|Gx 0) (k bad z) z)<|k (ret<|M 7 (L 0)<|k (Tu<|k (G 6 2)<|k (L 1)<|k (L 2) z) z) z
noncomputable abbrev wR:E:=k (ret<|M 7 (L 0)<|k (Tu<|k (G 2 6)<|k (L 1) z) z) z
noncomputable abbrev uu:E:=k (ret<|M 7 (L 0)<|k (Tu<|k (G 3 7)<|k (L 1) z) z) z
noncomputable abbrev BE:E:=k (asg (L 2)<|X (M 8 (L 0)<|k (L 1) z)<|I 0)<|k (ret<|O 0<|k (C 0 (L 2)<|G 2 6)<|k (C 0 (L 2)<|G 3 7) z) z
noncomputable abbrev jZ:E:=k (asg (A 10<|L 0)<|L 1)<|k (asg (A 9<|L 0)<|L 2) z
noncomputable abbrev gO:E:=k (ret<|A 9<|L 0) z
noncomputable abbrev Ab:E:=k (ret<|M 6 (Gx 1)<|k (L 0)<|k (Ng<|I 1) z) z
noncomputable abbrev uf:E:=k (ifs (O 0<|k (C 0 (L 0)<|G 14 56)<|k (C 0 (L 0)<|G 15 42)<|k (C 0 (L 0)<|G 16 122)<|k (C 0 (L 0)<|G 17 221) z) (k (ret<|Y 1) z) z)<|k (ret<|O 0<|k (C 0 (L 0)<|G 18 65050)<|k (C 0 (L 0)<|G 19 220)<|k (C 0 (L 0)<|G 20 65041) z) z
noncomputable abbrev uh:E:=k (ret<|C 0 (M 6 (Gx 1)<|k (L 0)<|k (Ng<|I 1) z)<|G 21 5) z
noncomputable abbrev Ac:E:=k (ifs (C 0 (X (L 0)<|I 0)<|G 22 69) (k (ret<|X (L 0)<|I 1) z) z)<|k (ifs (Fn 17<|k (X (L 0)<|I 0) z) (k (ret<|Tu<|k (X (L 0)<|I 1) z) z) z)<|k (ret<|Tu z) z
noncomputable abbrev ql:E:=k (ifs (C 0 (L 0)<|G 23 65046) (k bad z) z)<|k (ifs (C 0 (L 0)<|G 24 65054) (k bad z) z)<|k (ret<|Ng<|I 1) z
noncomputable abbrev qk:E:=k (asg (L 2)<|X (L 0)<|I 0)<|k (ifs (C 6 (L 2)<|Gx 2) (k (ret<|X (Gx 2)<|L 2) z) z)<|k (ifs (C 0 (L 2)<|G 15 42) (k (ret<|Tu<|k (M 11 (L 1) z)<|k (I 0) z) z) z)<|k bad<|k bad<|k bad z
noncomputable abbrev rH:E:=k (asg (A 5<|L 0)<|Li 1 z) z
noncomputable abbrev wj:E:=k (asg (A 18<|L 0)<|L 1)<|k (asg (A 17<|L 0)<|L 2)<|k (asg (A 16<|L 0)<|L 3)<|k (asg (A 15<|L 0)<|L 4)<|k (asg (A 14<|L 0)<|L 5)<|k (asg (A 13<|L 0)<|Ng<|I 1)<|k (asg (A 12<|L 0)<|I 0) z
noncomputable abbrev z8:E:=k (asg (A 28<|L 0)<|L 1)<|k (asg (A 27<|L 0)<|L 2)<|k (asg (A 26<|L 0)<|Li 1 z)<|k (asg (A 25<|L 0)<|Li 1 z)<|k (asg (A 24<|L 0)<|Ng<|I 1)<|k (asg (A 9<|L 0)<|I 0)<|k (asg (A 23<|L 0) N)<|k (asg (A 22<|L 0)<|L 3)<|k (asg (A 21<|L 0)<|G 25 0)<|k (asg (A 20<|L 0)<|Ng<|I 1)<|k (asg (A 19<|L 0)<|L 4) z
noncomputable abbrev t8:E:=k (asg (A 37<|L 0)<|L 1)<|k (asg (A 36<|L 0)<|L 2)<|k (asg (A 35<|L 0)<|Li 2<|k N z)<|k (asg (A 34<|L 0)<|Li 2<|k N z)<|k (asg (A 33<|L 0)<|Dc 0 [] z)<|k (asg (A 32<|L 0)<|Nw 2 z)<|k (asg (A 31<|L 0)<|Dc 0 [] z)<|k (asg (A 30<|L 0)<|Dc 0 [] z)<|k (asg (A 29<|L 0)<|Dc 0 [] z) z
noncomputable abbrev BF:E:=k (asg (L 4)<|Bu 0<|A 35<|L 0)<|k (ex<|M 1 (A 35<|L 0)<|k (Nw 4<|k (L 4)<|k (L 1)<|k (L 2)<|k (L 3) z) z)<|k (ifs (L 1) (k bad z) z)<|k (ret<|L 4) z
noncomputable abbrev Aa:E:=k (asg (L 5)<|Bu 0<|A 34<|L 0)<|k (ex<|M 1 (A 34<|L 0)<|k (Nw 3<|k (L 5)<|k (L 2)<|k (L 3)<|k (L 4)<|k (L 1) z) z)<|k (ifs (L 1) (k (ex<|M 1 (A 26<|X (A 35<|L 0)<|L 1)<|k (L 5) z) z) z)<|k (ret<|L 5) z
noncomputable abbrev z4:E:=k (asg (A 58<|L 0)<|L 1)<|k (asg (A 37<|L 0)<|A 37<|L 1)<|k (asg (A 57<|L 0)<|A 57<|A 37<|L 1)<|k (asg (A 56<|L 0)<|L 2)<|k (asg (A 55<|L 0)<|Li 1 z)<|k (asg (A 54<|L 0)<|Dc 0 [] z)<|k (asg (A 53<|L 0)<|I 0)<|k (asg (A 52<|L 0)<|Li 1 z)<|k (asg (A 51<|L 0)<|Dc 0 [] z)<|k (asg (A 50<|L 0)<|Dc 0 [] z)<|k (asg (A 49<|L 0)<|Dc 0 [] z)<|k (asg (A 48<|L 0)<|Li 1 z)<|k (asg (A 47<|L 0)<|Li 1 z)<|k (asg (A 46<|L 0)<|I 0)<|k (asg (A 45<|L 0)<|Dc 0 [] z)<|k (asg (A 44<|L 0) N)<|k (asg (A 43<|L 0)<|Ng<|I 1)<|k (asg (A 42<|L 0)<|Dc 0 [] z)<|k (asg (A 41<|L 0)<|Dc 0 [] z)<|k (asg (A 40<|L 0)<|Dc 0 [] z)<|k (asg (A 39<|L 0)<|Dc 0 [] z)<|k (asg (A 38<|L 0)<|Dc 0 [] z) z
noncomputable abbrev BC:E:=k (ex<|M 1 (A 55<|L 0)<|k (Li 0<|k (L 1)<|k (L 2) z) z) z
noncomputable abbrev z5:E:=k (n5<|C 6 (L 1)<|A 54<|L 0)<|k (asg (X (A 54<|L 0)<|L 1)<|Bu 0<|A 55<|L 0) z
noncomputable abbrev n6:E:=k (asg (A 53<|L 0)<|B 2 (A 53<|L 0)<|I 1)<|k (ret<|A 53<|L 0) z
noncomputable abbrev z7:E:=k (ret<|Fn 35<|k (L 0)<|k (L 1) z) z
noncomputable abbrev z3:E:=k (ex<|Fn 36<|k (L 0)<|k (L 1) z) z
noncomputable abbrev t7:E:=k (ex<|Fn 37<|k (L 0)<|k (L 1) z) z
noncomputable abbrev z6:E:=k (ex<|Fn 39<|k (L 0)<|k (L 1) z) z
noncomputable abbrev ux:E:=k (asg (L 2)<|M 6 (A 49<|L 0)<|k (L 1) z)<|k (ifs (L 2) (k bad z) z)<|k (ex<|M 1 (A 52<|L 0)<|k (L 1) z)<|k (ret<|B 2 (Bu 0<|A 52<|L 0)<|I 1) z
noncomputable abbrev t_:E:=k (asg (L 2)<|M 6 (A 42<|L 0)<|k (X (L 1)<|I 0) z)<|k (n5<|Is 1<|L 2)<|k (ex<|M 59 (L 2)<|k (L 0)<|k (L 1) z) z
noncomputable abbrev qc:E:=k (asg (L 2)<|M 6 (A 41<|L 0)<|k (X (L 1)<|I 0) z)<|k (ifs (Is 0<|L 2) (k bad<|k bad z) z)<|k (ex<|Fn 36<|k (L 0)<|k (L 1) z)<|k (ifs (C 1 (X (L 1)<|I 1)<|G 26 0) (k (ex<|M 60 (L 0)<|k (G 27 38)<|k (I 0) z) z) z) z
noncomputable abbrev ud:E:=k (asg (L 4)<|M 6 (A 39<|L 0)<|k (X (L 1)<|I 0) z)<|k (ifs (Is 0<|L 4) (k bad<|k bad z) z)<|k (ex<|Fn 36<|k (L 0)<|k (L 1) z)<|k (ifs (L 2) (k (ex<|M 60 (L 0)<|k (G 28 58)<|k (L 3) z) z)<|k (ex<|M 60 (L 0)<|k (G 29 57)<|k (L 3) z) z) z
noncomputable abbrev ue:E:=k (asg (L 2)<|M 6 (A 38<|L 0)<|k (X (L 1)<|I 0) z)<|k (n5<|Is 1<|L 2)<|k (ex<|M 59 (L 2)<|k (L 0)<|k (L 1) z) z
noncomputable abbrev wK:E:=k (asg (L 2)<|M 6 (A 51<|L 0)<|k (L 1) z)<|k (ifs (Is 1<|L 2) (k (ex<|M 1 (A 52<|L 0)<|k (A 16<|X (A 34<|A 58<|L 0)<|L 1) z)<|k (asg (L 2)<|B 2 (Bu 0<|A 52<|L 0)<|I 1)<|k (asg (X (A 51<|L 0)<|L 1)<|L 2) z) z)<|k (ret<|L 2) z
noncomputable abbrev BD:E:=k (asg (L 2)<|X (A 34<|A 58<|L 0)<|L 1)<|k (ret<|O 1<|k (C 1 (B 7 (A 15<|L 2)<|B 6 (G 30 2)<|G 31 4)<|I 0)<|k (C 6 (L 1)<|A 50<|L 0) z) z
noncomputable abbrev z9:E:=k (ifs (Fn 12<|k (A 57<|L 0)<|k (L 1) z) (k (ex<|M 60 (L 0)<|k (G 32 140)<|k (L 1) z) z) z) z
noncomputable abbrev qh:E:=k (asg (A 46<|L 0)<|B 0 (A 46<|L 0)<|I 1)<|k (ret<|A 46<|L 0) z
noncomputable abbrev qj:E:=k (n5<|C 4 (Bu 0<|L 0)<|Bu 0<|L 1)<|k (fr (L 2) (Rl<|L 0)<|k (n5<|C 1 (X (L 0)<|L 2)<|X (L 1)<|L 2) z)<|k (ret<|Y 1) z
noncomputable abbrev ua:E:=k (asg (L 2)<|A 47<|L 0)<|k (asg (L 3)<|M 6 (A 45<|L 0)<|k (L 1)<|k (Tu z) z)<|k (n5<|Nt<|Fn 44<|k (L 3)<|k (L 2) z)<|k (ifs (C 0 (Bu 0<|L 3)<|Bu 0<|L 2) (k (ex<|M 60 (L 0)<|k (G 14 56)<|k (L 1) z) z)<|k (ex<|M 60 (L 0)<|k (G 17 221)<|k (L 1) z) z) z
noncomputable abbrev qm:E:=k (asg (L 2)<|M 6 (A 45<|L 0)<|k (L 1)<|k (Tu z) z)<|k (ret<|O 1<|k (C 0 (Bu 0<|L 2)<|Bu 0<|A 47<|L 0)<|k (Fn 44<|k (L 2)<|k (A 47<|L 0) z) z) z
noncomputable abbrev kO:E:=k (ex<|M 61 (L 1)<|k (X (L 2)<|I 1) z) z
noncomputable abbrev lR:E:=k (fr (L 3) (It<|X (L 2)<|I 1)<|k (ex<|M 62 (L 1)<|k (L 3) z) z) z
noncomputable abbrev jY:E:=k (ret N) z
noncomputable abbrev lS:E:=k (ex<|M 63 (L 1)<|k (X (L 2)<|I 1) z) z
noncomputable abbrev m9:E:=k (ex<|Fn 45<|k (L 1)<|k (X (L 2)<|I 1) z) z
noncomputable abbrev jI:E:=k (ifs (Fn 46<|k (L 1)<|k (X (L 2)<|I 3) z) (k (ex<|Fn 38<|k (L 1)<|k (X (L 2)<|I 1)<|k (X (L 2)<|I 2)<|k (X (L 2)<|I 3) z)<|k (ret N) z) z)<|k (asg (L 3)<|M 64 (L 1) z)<|k (ex<|Fn 38<|k (L 1)<|k (X (L 2)<|I 1)<|k (B 2 (I 1)<|X (L 2)<|I 2)<|k (L 3) z)<|k (ex<|Fn 45<|k (L 1)<|k (X (L 2)<|I 3) z)<|k (ex<|M 63 (L 1)<|k (L 3) z) z
noncomputable abbrev lV:E:=k (asg (L 3)<|Li 1 z)<|k (asg (L 4)<|Li 1 z)<|k (fr (L 5) (It<|X (L 2)<|I 2)<|k (ifs (Fn 46<|k (L 1)<|k (L 5) z) (k (ex<|M 1 (L 3)<|k (L 5) z) z)<|k (asg (L 6)<|M 64 (L 1) z)<|k (ex<|M 1 (L 3)<|k (L 6) z)<|k (ex<|M 1 (L 4)<|k (Tu<|k (L 6)<|k (L 5) z) z) z) z)<|k (ex<|M 65 (L 1)<|k (X (L 2)<|I 1) z)<|k (ex<|M 60 (L 1)<|k (G 22 69)<|k (Bu 3<|L 3) z)<|k (ifs (C 0 (Bu 0<|L 4)<|I 0) (k (ret N) z) z)<|k (asg (L 7)<|M 64 (L 1) z)<|k (ex<|M 60 (L 1)<|k (G 14 56)<|k (L 7) z)<|k (fr (Tu<|k (L 6)<|k (L 5) z) (It<|L 4)<|k (ex<|M 63 (L 1)<|k (L 6) z)<|k (ex<|Fn 45<|k (L 1)<|k (L 5) z) z)<|k (ex<|M 63 (L 1)<|k (L 7) z) z
noncomputable abbrev kP:E:=k (ifs (Is 0<|X (L 2)<|I 1) (k (ex<|M 65 (L 1)<|k (X (L 2)<|I 1) z) z) z)<|k (ifs (C 0 (Bu 0<|A 47<|L 1)<|I 0) (k (ex<|M 60 (L 1)<|k (G 15 42)<|k (I 0) z)<|k (ret N) z) z)<|k (ifs (Is 1<|A 44<|L 1) (k (asg (A 44<|L 1)<|M 64 (L 1) z) z) z)<|k (ifs (Is 0<|X (L 2)<|I 1) (k (ifs (C 2 (A 43<|L 1)<|I 0) (k (asg (A 43<|L 1)<|M 66 (L 1)<|k (Fn 57<|k (L 1) z) z) z) z)<|k (ex<|M 60 (L 1)<|k (G 33 65038)<|k (A 43<|L 1) z) z) z)<|k (ex<|M 60 (L 1)<|k (G 17 221)<|k (A 44<|L 1) z) z
noncomputable abbrev lW:E:=k (ifs (Is 1<|X (L 2)<|I 1) (k (ex<|M 60 (L 1)<|k (G 18 65050)<|k (I 0) z)<|k (ret N) z) z)<|k (ex<|M 65 (L 1)<|k (X (L 2)<|I 1) z)<|k (ex<|Fn 42<|k (L 1)<|k (X (X (L 2)<|I 1)<|I 1) z)<|k (ex<|M 60 (L 1)<|k (G 16 122)<|k (I 0) z) z
noncomputable abbrev n7:E:=k (ex<|Fn 61<|k (L 1)<|k (L 2) z) z
noncomputable abbrev wQ:E:=k (ifs (A 27<|A 56<|L 0) (k bad z) z)<|k (ret<|A 9<|A 56<|L 0) z
noncomputable abbrev n_:E:=k (ex<|M 1 (A 47<|L 0)<|k (Fn 43<|k (L 0) z) z)<|k (ret<|Bu 0<|A 55<|L 0) z
noncomputable abbrev ug:E:=k (asg (L 1)<|Bu 0<|A 55<|L 0)<|k (fr (L 2) (It<|A 54<|L 0)<|k (ifs (C 0 (X (A 54<|L 0)<|L 2)<|L 1) (k (ex<|M 60 (L 0)<|k (G 34 0)<|k (I 0) z)<|k brk z) z) z)<|k (ret<|Fn 58<|k (L 0) z) z
noncomputable abbrev oj:E:=k (ex<|M 67 (A 47<|L 0) z)<|k (ret<|Bu 0<|A 55<|L 0) z
noncomputable abbrev wo:E:=k (ifs (Is 1<|X (L 1)<|I 3) (k (ex<|Fn 62<|k (L 0)<|k (L 1) z)<|k (ret N) z) z)<|k (asg (L 2)<|M 64 (L 0) z)<|k (asg (L 3)<|Fn 59<|k (L 0) z)<|k (ex<|Fn 62<|k (L 0)<|k (L 1) z)<|k (ex<|M 60 (L 0)<|k (G 17 221)<|k (L 2) z)<|k (asg (L 4)<|Fn 60<|k (L 0) z)<|k (asg (L 5)<|Fn 58<|k (L 0) z)<|k (ex<|M 62 (L 0)<|k (X (L 1)<|I 3) z)<|k (ex<|M 60 (L 0)<|k (G 19 220)<|k (I 0) z)<|k (asg (L 6)<|Fn 60<|k (L 0) z)<|k (ex<|M 1 (A 48<|L 0)<|k (Tu<|k (G 35 2)<|k (L 3)<|k (L 4)<|k (L 5)<|k (L 6)<|k (I 0) z) z)<|k (ex<|M 63 (L 0)<|k (L 2) z) z
noncomputable abbrev n9:E:=k (ifs (C 0 (Bu 0<|X (L 1)<|I 2)<|I 0) (k (ex<|M 62 (L 0)<|k (X (L 1)<|I 1) z)<|k (ret N) z) z)<|k (asg (L 2)<|M 64 (L 0) z)<|k (asg (L 3)<|Fn 59<|k (L 0) z)<|k (ex<|M 62 (L 0)<|k (X (L 1)<|I 1) z)<|k (ex<|M 60 (L 0)<|k (G 17 221)<|k (L 2) z)<|k (asg (L 4)<|Fn 60<|k (L 0) z)<|k (asg (L 5)<|Li 1 z)<|k (fr (L 6) (It<|X (L 1)<|I 2)<|k (ex<|M 1 (L 5)<|k (Fn 63<|k (L 0)<|k (L 6)<|k (L 3)<|k (L 4)<|k (L 2) z) z) z)<|k (fr (L 7) (It<|L 5)<|k (ex<|M 1 (A 48<|L 0)<|k (L 7) z) z)<|k (ex<|M 63 (L 0)<|k (L 2) z) z
noncomputable abbrev rL:E:=k (asg (L 5)<|X (L 1)<|I 0)<|k (asg (L 6)<|I 0)<|k (ifs (Is 0<|X (L 1)<|I 2) (k (asg (L 6)<|Fn 58<|k (L 0) z)<|k (ex<|Fn 65<|k (L 0)<|k (L 1) z)<|k (ex<|Fn 60<|k (L 0) z) z) z)<|k (asg (L 7)<|Fn 58<|k (L 0) z)<|k (ifs (C 0 (L 5)<|Gx 3) (k (ex<|M 62 (L 0)<|k (X (L 1)<|I 3) z)<|k (ex<|M 60 (L 0)<|k (G 19 220)<|k (I 0) z)<|k (ret<|Tu<|k (G 36 4)<|k (L 2)<|k (L 3)<|k (L 7)<|k (Fn 60<|k (L 0) z)<|k (I 0) z) z) z)<|k (ifs (Is 1<|X (L 1)<|I 2) (k (ex<|Fn 64<|k (L 0)<|k (L 1) z) z)<|k (ex<|M 60 (L 0)<|k (G 27 38)<|k (I 0) z) z)<|k (ex<|M 62 (L 0)<|k (X (L 1)<|I 3) z)<|k (ex<|M 60 (L 0)<|k (G 17 221)<|k (L 4) z)<|k (asg (L 8)<|Fn 60<|k (L 0) z)<|k (ifs (Is 0<|X (L 1)<|I 2) (k (ret<|Tu<|k (G 37 1)<|k (L 2)<|k (L 3)<|k (L 7)<|k (L 8)<|k (L 6) z) z) z)<|k (ifs (C 0 (L 5)<|Gx 4) (k (asg (L 5)<|G 38 12) z) z)<|k (ret<|Tu<|k (G 39 0)<|k (L 2)<|k (L 3)<|k (L 7)<|k (L 8)<|k (L 5) z) z
noncomputable abbrev qn:E:=k (ifs (Nt<|X (L 1)<|I 1) (k (ex<|M 60 (L 0)<|k (G 27 38)<|k (I 0) z)<|k (ret N) z) z)<|k (ifs (O 1<|k (C 5 (X (L 1)<|I 0)<|I 0)<|k (Fn 12<|k (A 57<|L 0)<|k (X (L 1)<|I 0) z) z) (k (ex<|M 60 (L 0)<|k (G 40 165)<|k (X (L 1)<|I 0) z) z) z)<|k (ex<|M 60 (L 0)<|k (G 33 65038)<|k (Fn 40<|k (L 0)<|k (X (L 1)<|I 1) z) z) z
noncomputable abbrev qd:E:=k (asg (L 2)<|M 64 (L 0) z)<|k (ifs (C 1 (X (L 1)<|I 0)<|Gx 4) (k (asg (L 3)<|M 64 (L 0) z)<|k (ex<|M 60 (L 0)<|k (G 41 117)<|k (X (L 1)<|I 0) z)<|k (ex<|M 60 (L 0)<|k (G 42 37)<|k (I 0) z)<|k (ex<|M 60 (L 0)<|k (G 28 58)<|k (L 3) z)<|k (ex<|M 60 (L 0)<|k (G 27 38)<|k (I 0) z)<|k (ex<|M 60 (L 0)<|k (G 43 32)<|k (I 0) z)<|k (ex<|M 60 (L 0)<|k (G 14 56)<|k (L 2) z)<|k (ex<|M 63 (L 0)<|k (L 3) z) z) z)<|k (ex<|Fn 64<|k (L 0)<|k (L 1) z)<|k (ex<|M 65 (L 0)<|k (X (L 1)<|I 2) z)<|k (ex<|M 60 (L 0)<|k (G 43 32)<|k (I 0) z)<|k (ex<|M 60 (L 0)<|k (G 44 65027)<|k (I 0) z)<|k (ex<|M 63 (L 0)<|k (L 2) z)<|k (ex<|M 60 (L 0)<|k (G 20 65041)<|k (I 0) z) z
noncomputable abbrev qi:E:=k (ifs (C 0 (X (L 1)<|I 0)<|G 45 20) (k (asg (X (A 45<|L 0)<|X (L 1)<|I 1)<|Bu 3<|A 47<|L 0) z)<|k (ifs (C 0 (X (L 1)<|I 0)<|G 46 3) (k (fr (L 2) (It<|X (L 1)<|I 1)<|k (ex<|Fn 66<|k (L 0)<|k (L 2) z) z) z)<|k (ifs (C 0 (X (L 1)<|I 0)<|G 47 14) (k (ex<|Fn 68<|k (L 0)<|k (L 1) z) z) z) z) z) z
noncomputable abbrev uv:E:=k (ex<|M 1 (A 47<|L 0)<|k (Fn 43<|k (L 0) z) z)<|k (ex<|Fn 66<|k (L 0)<|k (L 1) z)<|k (ex<|M 67 (A 47<|L 0) z) z
noncomputable abbrev wM:E:=k (ifs (Is 0<|X (L 1)<|I 3) (k (ex<|M 1 (A 47<|L 0)<|k (Fn 43<|k (L 0) z) z) z) z)<|k (ifs (C 0 (Bu 0<|X (L 1)<|I 2)<|I 0) (k (ex<|Fn 66<|k (L 0)<|k (X (L 1)<|I 1) z) z)<|k (ex<|Fn 67<|k (L 0)<|k (X (L 1)<|I 1) z)<|k (fr (L 2) (It<|X (L 1)<|I 2)<|k (ifs (Is 0<|X (L 2)<|I 2) (k (ex<|Fn 43<|k (L 0) z) z) z)<|k (ex<|Fn 67<|k (L 0)<|k (X (L 2)<|I 3) z) z) z)<|k (ifs (Is 0<|X (L 1)<|I 3) (k (ex<|M 67 (A 47<|L 0) z)<|k (ex<|Fn 67<|k (L 0)<|k (X (L 1)<|I 3) z) z) z) z
noncomputable abbrev wN:E:=k (asg (L 1)<|Bu 0<|A 55<|L 0)<|k (ifs (O 0<|k (C 0 (L 1)<|I 0)<|k (Nt<|Fn 16<|k (X (X (A 55<|L 0)<|B 2 (L 1)<|I 1)<|I 0) z) z) (k (ret<|Y 1) z) z)<|k (fr (L 2) (It<|A 54<|L 0)<|k (ifs (C 0 (X (A 54<|L 0)<|L 2)<|L 1) (k (ret<|Y 1) z) z) z)<|k (ret<|Y 0) z
noncomputable abbrev wm:E:=k (ifs (C 0 (Fn 57<|k (L 0) z)<|G 26 0) (k (ifs (Is 0<|A 44<|L 0) (k (ex<|M 63 (L 0)<|k (A 44<|L 0) z) z) z)<|k (ifs (Fn 69<|k (L 0) z) (k (ex<|M 60 (L 0)<|k (G 15 42)<|k (I 0) z) z) z)<|k (ret N) z) z)<|k (ifs (Fn 69<|k (L 0) z) (k (ex<|M 60 (L 0)<|k (G 48 20)<|k (I 0) z)<|k (ex<|M 60 (L 0)<|k (G 16 122)<|k (I 0) z) z) z)<|k (ifs (Is 0<|A 44<|L 0) (k (ex<|M 63 (L 0)<|k (A 44<|L 0) z)<|k (ex<|M 60 (L 0)<|k (G 49 65036)<|k (A 43<|L 0) z)<|k (ex<|M 60 (L 0)<|k (G 15 42)<|k (I 0) z) z) z) z
noncomputable abbrev t9:E:=k (ex<|Fn 66<|k (L 0)<|k (L 1) z)<|k (asg (A 46<|L 0)<|I 0)<|k (ex<|M 62 (L 0)<|k (L 1) z)<|k (ex<|Fn 70<|k (L 0) z) z
noncomputable abbrev kQ:E:=k (asg (X (A 38<|L 0)<|G 50 1)<|Nw 7 z)<|k (asg (X (A 38<|L 0)<|G 46 3)<|Nw 8 z)<|k (asg (X (A 38<|L 0)<|G 51 18)<|Nw 9 z)<|k (asg (X (A 38<|L 0)<|G 45 20)<|Nw 10 z)<|k (asg (X (A 38<|L 0)<|G 52 21)<|Nw 11 z)<|k (asg (X (A 38<|L 0)<|G 53 22)<|Nw 12 z)<|k (asg (X (A 38<|L 0)<|G 54 23)<|Nw 13 z)<|k (asg (X (A 38<|L 0)<|G 55 12)<|Nw 14 z)<|k (asg (X (A 38<|L 0)<|G 56 13)<|Nw 15 z)<|k (asg (X (A 38<|L 0)<|G 47 14)<|Nw 16 z) z
noncomputable abbrev lU:E:=k (asg (L 3)<|X (L 2)<|I 2)<|k (ifs (C 7 (L 3)<|A 50<|L 1) (k (ex<|M 60 (L 1)<|k (G 49 65036)<|k (Fn 40<|k (L 1)<|k (L 3) z) z)<|k (ret N) z) z)<|k (ex<|M 60 (L 1)<|k (G 57 65033)<|k (X (A 50<|L 1)<|L 3) z)<|k (ifs (Fn 41<|k (L 1)<|k (L 3) z) (k bad z) z) z
noncomputable abbrev n8:E:=k (ifs (C 0 (X (L 0)<|I 0)<|G 37 1) (k (ret<|Tu<|k (X (L 0)<|I 1)<|k (X (L 0)<|I 2)<|k (X (L 0)<|I 3)<|k (X (L 0)<|I 4)<|k (X (L 0)<|I 5) z) z) z)<|k (ret<|Tu<|k (X (L 0)<|I 1)<|k (X (L 0)<|I 2)<|k (X (L 0)<|I 3)<|k (X (L 0)<|I 4) z) z
noncomputable abbrev p_:E:=k (asg (L 2)<|Bu 0<|L 0)<|k (fr (L 3) (Rl<|L 1)<|k (asg (L 4)<|X (L 1)<|L 3)<|k (n5<|O 0<|k (C 5 (X (L 4)<|I 1)<|L 2)<|k (C 5 (X (L 4)<|I 3)<|L 2)<|k (O 1<|k (C 0 (X (L 4)<|I 0)<|G 37 1)<|k (C 5 (X (L 4)<|I 5)<|L 2) z) z)<|k (fr (L 5) (It<|Fn 74<|k (L 4) z)<|k (n5<|O 0<|k (C 2 (L 5)<|I 0)<|k (C 4 (L 5)<|L 2)<|k (O 1<|k (C 4 (L 5)<|I 0)<|k (C 5 (Fn 19<|k (X (X (L 0)<|B 2 (L 5)<|I 1)<|I 0) z)<|I 0) z) z) z) z) z
noncomputable abbrev rQ:E:=k (asg (L 2)<|Bu 0<|L 0)<|k (asg (L 3)<|Li 1 z)<|k (ifs (O 1<|k (Nt<|Fn 16<|k (X (X (L 0)<|L 1)<|I 0) z)<|k (C 2 (B 0 (L 1)<|I 1)<|L 2) z) (k (ex<|M 1 (L 3)<|k (B 0 (L 1)<|I 1) z) z) z)<|k (fr (L 4) (It<|Fn 18<|k (X (L 0)<|L 1) z)<|k (n5<|O 0<|k (C 2 (L 4)<|I 0)<|k (C 5 (L 4)<|L 2) z)<|k (ifs (C 7 (L 4)<|L 3) (k (ex<|M 1 (L 3)<|k (L 4) z) z) z) z)<|k (ret<|Bu 3<|L 3) z
noncomputable abbrev qe:E:=k (n5<|O 0<|k (C 2 (L 2)<|I 0)<|k (C 5 (L 2)<|Bu 0<|L 0) z)<|k (ifs (C 2 (X (L 0)<|L 2)<|I 0) (k (asg (X (L 0)<|L 2)<|L 3)<|k (ex<|M 1 (L 1)<|k (L 2) z) z)<|k (n5<|C 1 (X (L 0)<|L 2)<|L 3) z) z
noncomputable abbrev om:E:=k (ifs (C 4 (Bu 0<|L 0)<|I 0) (k (ex<|Fn 77<|k (L 2)<|k (L 3)<|k (I 0)<|k (I 0) z) z) z)<|k (fr (L 4) (It<|L 1)<|k (asg (L 5)<|I 0)<|k (ifs (O 0<|k (C 0 (X (L 4)<|I 0)<|G 39 0)<|k (C 0 (X (L 4)<|I 0)<|G 37 1) z) (k (asg (L 5)<|I 1) z) z)<|k (ex<|Fn 77<|k (L 2)<|k (L 3)<|k (X (L 4)<|I 3)<|k (L 5) z)<|k (ifs (C 0 (X (L 4)<|I 0)<|G 37 1) (k (ex<|Fn 77<|k (L 2)<|k (L 3)<|k (X (L 4)<|I 5)<|k (I 1) z) z) z) z) z
noncomputable abbrev qb:E:=k (n5<|C 2 (Fn 15<|k (X (X (L 0)<|L 1)<|I 0) z)<|I 0)<|k (asg (Tu<|k (L 4)<|k (L 5) z)<|Fn 20<|k (X (L 0)<|L 1)<|k (L 3) z)<|k (n5<|C 4 (L 4)<|L 2)<|k (ifs (C 0 (X (X (L 0)<|L 1)<|I 0)<|G 17 221) (k (ret<|I 0) z) z)<|k (ret<|B 0 (B 2 (L 2)<|L 4)<|L 5) z
noncomputable abbrev ur:E:=k (ex<|Fn 75<|k (L 0)<|k (L 1) z)<|k (asg (L 3)<|B 3 (Li 0<|k (Ng<|I 1) z)<|Bu 0<|L 0)<|k (asg (L 4)<|Li 1 z)<|k (ex<|Fn 78<|k (L 0)<|k (L 1)<|k (L 3)<|k (L 4) z)<|k (asg (L 5)<|I 0)<|k (UZ (C 4 (Bu 0<|L 4)<|I 0)<|k (asg (L 6)<|M 67 (L 4) z)<|k (asg (L 7)<|Fn 79<|k (L 0)<|k (L 6)<|k (X (L 3)<|L 6)<|k (L 2) z)<|k (ifs (C 4 (X (L 3)<|L 6)<|L 5) (k (asg (L 5)<|X (L 3)<|L 6) z) z)<|k (ifs (C 4 (L 7)<|L 5) (k (asg (L 5)<|L 7) z) z)<|k (fr (L 8) (It<|Fn 76<|k (L 0)<|k (L 6) z)<|k (ex<|Fn 77<|k (L 3)<|k (L 4)<|k (L 8)<|k (L 7) z) z) z)<|k (ret<|L 5) z
noncomputable abbrev rI:E:=k (asg (A 57<|L 0)<|Nw 0 z)<|k (asg (A 73<|L 0)<|Li 2<|k N z)<|k (asg (A 72<|L 0)<|Li 2<|k N z)<|k (asg (A 71<|L 0)<|Li 2<|k N z)<|k (asg (A 70<|L 0)<|Dc 0 [] z)<|k (asg (A 69<|L 0)<|Li 1 z)<|k (asg (A 68<|L 0)<|I 0) z
noncomputable abbrev wH:E:=k (ifs (C 0 (X (L 0)<|Z 74)<|Li 0 z) (k (ret<|I 0) z) z)<|k (ret<|M 67 (X (L 0)<|Z 74)<|k (I 0) z) z
noncomputable abbrev wB:E:=k (ret<|Tu<|k (I 2)<|k (X (X (L 0)<|Z 75)<|L 1)<|k (L 1) z) z
noncomputable abbrev wu:E:=k (asg (L 4)<|Fn 82<|k (L 0) z)<|k (asg (L 5)<|Li 1 z)<|k (asg (L 6)<|L 2)<|k (ifs (B 5 (L 4)<|I 2) (k (ex<|M 1 (L 5)<|k (Tu<|k (I 20)<|k (X (L 0)<|Z 54) z) z)<|k (asg (L 6)<|B 0 (L 2)<|Li 0<|k (X (L 0)<|Z 54) z)<|k (PC (L 0) (Z 54)<|I 1) z) z)<|k (fr (L 7) (Ra z<|B 0 (I 1)<|B 5 (B 4 (L 4)<|I 2)<|I 3)<|k (ex<|M 1 (L 5)<|k (Fn 85<|k (L 0)<|k (L 1)<|k (L 6)<|k (L 3) z) z) z)<|k (ret<|Tu<|k (I 3)<|k (Bu 3<|L 5)<|k (I 0) z) z
noncomputable abbrev wG:E:=k (asg (L 4)<|Fn 82<|k (L 0) z)<|k (asg (L 5)<|B 5 (L 4)<|I 12)<|k (asg (L 6)<|B 4 (L 4)<|I 12)<|k (ifs (O 1<|k (C 6 (L 5)<|Tu<|k (I 7)<|k (I 8)<|k (I 9)<|k (I 10) z)<|k (C 2 (L 1)<|I 2) z) (k (ret<|Fn 86<|k (L 0)<|k (L 5)<|k (L 6)<|k (L 1)<|k (L 2)<|k (L 3) z) z) z)<|k (ifs (O 1<|k (C 0 (L 5)<|I 11)<|k (C 2 (L 1)<|I 2) z) (k (ret<|Fn 84<|k (L 0)<|k (B 0 (L 1)<|I 1)<|k (L 2)<|k (L 3) z) z) z)<|k (ifs (O 1<|k (C 0 (L 5)<|I 2)<|k (C 1 (L 2)<|Li 0 z) z) (k (ret<|Tu<|k (I 21)<|k (X (L 2)<|B 5 (L 6)<|Bu 0<|L 2) z) z) z)<|k (ifs (O 1<|k (C 0 (L 5)<|I 3)<|k (C 1 (L 2)<|Li 0 z) z) (k (ret<|Tu<|k (I 22)<|k (Fn 83<|k (L 0)<|k (X (Tu<|k (I 2)<|k (I 12) z)<|B 5 (B 4 (L 6)<|I 2)<|I 2) z)<|k (B 5 (L 6)<|I 2)<|k (X (L 2)<|B 5 (B 4 (L 6)<|I 4)<|Bu 0<|L 2) z) z) z)<|k (ifs (O 1<|k (C 0 (L 5)<|I 4)<|k (C 1 (L 2)<|Li 0 z) z) (k (ret<|Tu<|k (I 23)<|k (Fn 83<|k (L 0)<|k (I 3) z)<|k (Bu 3<|Co 1 0 (X (L 2)<|B 5 (B 0 (B 4 (L 6)<|I 3)<|L 7)<|Bu 0<|L 2) (Ra z<|B 5 (L 6)<|I 3) z) z) z) z)<|k (ifs (O 1<|k (C 0 (L 5)<|I 5)<|k (C 0 (X (L 3)<|I 0)<|I 0) z) (k (ret<|Tu<|k (I 12)<|k (If (X (L 0)<|Z 76) (Fn 83<|k (L 0)<|k (I 4) z) N) z) z) z)<|k (ifs (O 1<|k (C 0 (L 5)<|I 6)<|k (X (L 3)<|I 1)<|k (C 0 (B 5 (L 6)<|I 4)<|I 3) z) (k (ret<|Tu<|k (I 13)<|k N z) z) z)<|k (ifs (C 0 (L 5)<|I 6) (k (ret<|Tu<|k (I 13)<|k (Fn 83<|k (L 0)<|k (X (Tu<|k (I 5)<|k (I 6)<|k (I 13) z)<|B 5 (L 6)<|I 3) z) z) z) z)<|k (ifs (C 0 (L 5)<|I 1) (k (ret<|Tu<|k (I 18) z) z) z)<|k (ret<|Tu<|k (I 1)<|k (Fn 83<|k (L 0)<|k (I 1) z) z) z
noncomputable abbrev z_:E:=k (asg (L 6)<|Fn 84<|k (L 0)<|k (B 0 (L 3)<|I 1)<|k (L 4)<|k (L 5) z)<|k (ifs (O 1<|k (C 0 (L 1)<|I 9)<|k (B 5 (L 2)<|I 2) z) (k (ret<|Tu<|k (I 14)<|k (L 6)<|k (Tu<|k (Tu<|k (Ng<|I 2)<|k (I 0)<|k N<|k (Fn 84<|k (L 0)<|k (B 0 (L 3)<|I 1)<|k (Li 0 z)<|k (Tu<|k (I 1)<|k (I 0) z) z) z) z)<|k N z) z) z)<|k (asg (L 7)<|Li 1 z)<|k (ifs (C 1 (L 1)<|I 9) (k (fr (L 8) (Ra z<|B 0 (I 1)<|B 5 (L 2)<|I 2)<|k (asg (L 9)<|Fn 82<|k (L 0) z)<|k (asg (L 10)<|X (Tu<|k (I 7)<|k (I 8)<|k (I 9)<|k (I 10)<|k (I 11) z)<|B 5 (L 9)<|I 5)<|k (asg (L 11)<|If (C 0 (L 10)<|I 7) (Ng<|I 1)<|X (X (L 0)<|Z 75)<|L 10)<|k (asg (L 12)<|X (Tu<|k N<|k (I 2)<|k (I 12) z)<|B 5 (B 4 (L 9)<|I 10)<|I 3)<|k (ifs (Is 0<|L 12) (k (asg (L 12)<|Fn 83<|k (L 0)<|k (L 12) z) z) z)<|k (ex<|M 1 (L 7)<|k (Tu<|k (L 11)<|k (If (B 5 (B 4 (L 9)<|I 5)<|I 2) (L 10)<|I 0)<|k (L 12)<|k (Fn 84<|k (L 0)<|k (B 0 (L 3)<|I 1)<|k (L 4)<|k (Tu<|k (X (L 5)<|I 0)<|k (I 1) z) z) z) z) z) z) z)<|k (asg (L 13) N)<|k (ifs (C 6 (L 1)<|Tu<|k (I 8)<|k (I 9) z) (k (asg (L 13)<|Fn 84<|k (L 0)<|k (B 0 (L 3)<|I 1)<|k (Li 0 z)<|k (Tu<|k (I 1)<|k (I 0) z) z) z) z)<|k (ret<|Tu<|k (I 14)<|k (L 6)<|k (Bu 3<|L 7)<|k (L 13) z) z
noncomputable abbrev wJ:E:=k (asg (L 1)<|Li 1 z)<|k (ifs (C 0 (X (L 0)<|I 0)<|I 3) (k (fr (L 2) (It<|X (L 0)<|I 1)<|k (asg (L 1)<|B 0 (L 1)<|Fn 87<|k (L 2) z) z) z) z)<|k (ifs (C 0 (X (L 0)<|I 0)<|I 14) (k (asg (L 1)<|Fn 87<|k (X (L 0)<|I 1) z)<|k (fr (L 3) (It<|X (L 0)<|I 2)<|k (asg (L 1)<|B 1 (L 1)<|Fn 87<|k (X (L 3)<|I 3) z) z)<|k (fr (L 3) (It<|X (L 0)<|I 2)<|k (ex<|M 1 (L 1)<|k (L 3) z) z)<|k (ifs (Is 0<|X (L 0)<|I 3) (k (asg (L 1)<|B 0 (B 0 (L 1)<|Fn 87<|k (X (L 0)<|I 3) z)<|Li 0<|k N z) z) z) z) z)<|k (ret<|L 1) z
noncomputable abbrev uo:E:=k (asg (L 2)<|Li 1 z)<|k (fr (L 3) (Rl<|L 0)<|k (asg (Tu<|k (L 4)<|k (L 5)<|k (L 6)<|k (L 7)<|k (L 8)<|k (L 9) z)<|X (L 0)<|L 3)<|k (ifs (Cc 3 2 (L 5) (L 1)<|L 6) (k (ex<|M 1 (L 2)<|k (Tu<|k (L 3)<|k (I 0) z) z) z) z)<|k (ifs (Cc 3 2 (L 7) (L 1)<|L 8) (k (ex<|M 1 (L 2)<|k (Tu<|k (L 3)<|k (I 1) z) z) z) z)<|k (ifs (O 1<|k (C 0 (L 4)<|I 1)<|k (Cc 3 2 (L 9) (L 1)<|L 7) z) (k (ex<|M 1 (L 2)<|k (Tu<|k (L 3)<|k (I 2) z) z) z) z) z)<|k (ret<|L 2) z
noncomputable abbrev wA:E:=k (ifs (C 5 (L 2)<|Bu 0<|X (L 0)<|Z 55) (k (ret<|Y 0) z) z)<|k (asg (L 4)<|X (X (L 0)<|Z 77)<|L 1)<|k (asg (L 5)<|X (X (L 0)<|Z 77)<|L 2)<|k (ifs (C 0 (L 4)<|L 5) (k (ret<|Y 1) z) z)<|k (fr (L 6) (It<|L 4)<|k (ifs (O 1<|k (C 7 (L 6)<|L 5)<|k (O 0<|k (C 1 (L 3)<|I 221)<|k (C 0 (X (L 6)<|I 1)<|I 2)<|k (O 1<|k (C 0 (X (L 6)<|I 1)<|I 1)<|k (C 4 (X (X (X (L 0)<|Z 48)<|X (L 6)<|I 0)<|I 0)<|I 1) z) z) z) (k (ret<|Y 0) z) z) z)<|k (fr (L 6) (It<|L 5)<|k (ifs (O 1<|k (C 7 (L 6)<|L 4)<|k (O 0<|k (C 4 (L 3)<|I 0)<|k (C 1 (X (L 6)<|I 1)<|I 0)<|k (C 1 (X (X (X (L 0)<|Z 48)<|X (L 6)<|I 0)<|I 1)<|L 2) z) z) (k (ret<|Y 0) z) z) z)<|k (ret<|Y 1) z
noncomputable abbrev wz:E:=k (ifs (O 0<|k (C 0 (X (L 1)<|I 0)<|Z 79)<|k (C 0 (X (L 1)<|I 0)<|Z 78) z) (k (ifs (C 7 (X (L 1)<|I 1)<|X (L 0)<|Z 80) (k (asg (X (X (L 0)<|Z 80)<|X (L 1)<|I 1)<|Li 1 z) z) z)<|k (ifs (C 7 (L 2)<|X (X (L 0)<|Z 80)<|X (L 1)<|I 1) (k (ex<|M 1 (X (X (L 0)<|Z 80)<|X (L 1)<|I 1)<|k (L 2) z) z) z) z) z) z
noncomputable abbrev uq:E:=k (asg (L 3)<|X (X (L 0)<|Z 83)<|L 2)<|k (ex<|Fn 90<|k (L 0)<|k (L 1)<|k (L 2) z)<|k (ifs (C 0 (X (L 1)<|I 0)<|Z 82) (k (ret<|C 0 (X (L 1)<|I 1)<|L 3) z) z)<|k (ifs (C 0 (X (L 1)<|I 0)<|Z 79) (k (ret<|O 1<|k (C 0 (X (L 1)<|I 2)<|L 3)<|k (C 7 (L 3)<|X (L 0)<|Z 81) z) z) z)<|k (ret<|O 1<|k (C 0 (X (L 1)<|I 0)<|Z 78)<|k (C 0 (X (L 1)<|I 2)<|L 3) z) z
noncomputable abbrev rN:E:=k (ifs (C 0 (L 1)<|I 65036) (k (ret<|Tu<|k (Z 82)<|k (X (X (L 0)<|Z 83)<|L 2) z) z) z)<|k (ifs (C 0 (L 1)<|I 65033) (k (ret<|If (C 0 (L 2)<|I 0) (Tu<|k (Z 82)<|k (I 1) z) N) z) z)<|k (ifs (C 0 (L 1)<|I 20) (k (ret<|Tu<|k (Z 82)<|k (I 14) z) z) z)<|k (ifs (C 0 (L 1)<|I 32) (k (ret<|Tu<|k (Z 84)<|k (L 2) z) z) z)<|k (ifs (C 0 (L 3)<|Li 0 z) (k (ret N) z) z)<|k (asg (L 4)<|M 67 (L 3) z)<|k (ifs (O 1<|k (C 0 (L 1)<|I 117)<|k (C 0 (X (L 4)<|I 0)<|Z 79)<|k (C 0 (X (L 4)<|I 2)<|I 12) z) (k (ret<|Tu<|k (Z 79)<|k (X (L 4)<|I 1)<|k (L 2) z) z) z)<|k (ifs (O 1<|k (C 0 (L 1)<|I 165)<|k (C 0 (X (L 4)<|I 0)<|Z 79)<|k (C 0 (X (L 4)<|I 2)<|L 2)<|k (C 6 (L 2)<|X (L 0)<|Z 81) z) (k (ret<|Tu<|k (Z 78)<|k (X (L 4)<|I 1)<|k (L 2) z) z) z)<|k (ifs (O 1<|k (C 0 (L 1)<|I 140)<|k (C 0 (L 4)<|Tu<|k (Z 82)<|k (L 2) z)<|k (C 6 (L 2)<|X (L 0)<|Z 81) z) (k (ret<|Tu<|k (Z 86)<|k (L 2) z) z) z)<|k (ifs (O 1<|k (C 0 (L 1)<|I 65027)<|k (C 0 (L 4)<|Tu<|k (Z 84)<|k (I 0) z)<|k (C 1 (L 3)<|Li 0 z)<|k (C 0 (M 67 (L 3) z)<|Tu<|k (Z 82)<|k (I 1) z) z) (k (ret<|Tu<|k (Z 85) z) z) z)<|k (ret N) z
noncomputable abbrev rO:E:=k (asg (L 3)<|X (X (L 0)<|Z 77)<|L 1)<|k (ifs (C 0 (L 2)<|I 65050) (k (asg (L 3)<|Co 1 0 (L 4) (It<|L 3)<|k (C 1 (X (L 4)<|I 1)<|I 0) z) z) z)<|k (ifs (O 0<|k (C 0 (L 3)<|Li 0 z)<|k (C 1 (X (X (L 3)<|I 0)<|I 1)<|I 1) z) (k (ret<|Y 0) z) z)<|k (ret<|C 0 (C 4 (X (X (X (L 0)<|Z 48)<|X (X (L 3)<|I 0)<|I 0)<|I 0)<|I 1)<|C 0 (L 2)<|I 220) z
noncomputable abbrev wF:E:=k (asg (Tu<|k (L 3)<|k (L 4) z)<|X (X (L 0)<|Z 55)<|L 1)<|k (asg (L 5)<|Bu 2<|L 2)<|k (ifs (C 6 (L 3)<|Tu<|k (I 65036)<|k (I 65033)<|k (I 20)<|k (I 32)<|k (I 117)<|k (I 165)<|k (I 140)<|k (I 65027) z) (k (asg (L 6)<|Fn 92<|k (L 0)<|k (L 3)<|k (L 4)<|k (L 5) z)<|k (mT 5)<|k (ret<|If (Is 1<|L 6) N<|Li 0<|k (Tu<|k (B 0 (L 1)<|I 1)<|k (B 0 (L 5)<|Li 0<|k (L 6) z)<|k (I 0) z) z) z) z)<|k (ifs (C 0 (L 3)<|I 0) (k (mT 5)<|k (ret<|Li 0<|k (Tu<|k (B 0 (L 1)<|I 1)<|k (L 5)<|k (I 0) z) z) z) z)<|k (ifs (C 0 (L 3)<|I 56) (k (mT 5)<|k (ret<|Li 0<|k (Tu<|k (L 4)<|k (L 5)<|k (L 3) z) z) z) z)<|k (ifs (C 0 (L 3)<|I 221) (k (mT 5)<|k (ret<|If (C 0 (L 5)<|Li 0 z) (Li 0<|k (Tu<|k (L 4)<|k (L 5)<|k (L 3) z) z) N) z) z)<|k (ifs (C 6 (L 3)<|Tu<|k (I 220)<|k (I 65050) z) (k (mT 5)<|k (ret<|If (O 1<|k (C 0 (L 5)<|Li 0 z)<|k (Fn 93<|k (L 0)<|k (L 1)<|k (L 3) z) z) (Li 0 z) N) z) z)<|k (ifs (C 0 (L 3)<|I 42) (k (mT 5)<|k (ret<|If (O 1<|k (C 0 (L 5)<|X (L 0)<|Z 89)<|k (C 0 (X (X (L 0)<|Z 77)<|L 1)<|Li 0 z) z) (Li 0 z) N) z) z)<|k (ifs (C 0 (L 5)<|Li 0 z) (k (ret N) z) z)<|k (ifs (C 0 (L 3)<|I 37) (k (mT 5)<|k (ret<|Li 0<|k (Tu<|k (B 0 (L 1)<|I 1)<|k (B 0 (L 5)<|Li 0<|k (X (L 5)<|Ng<|I 1) z)<|k (I 0) z) z) z) z)<|k (asg (L 7)<|M 67 (L 5) z)<|k (ifs (C 0 (L 3)<|I 65038) (k (mT 5)<|k (ret<|If (Fn 91<|k (L 0)<|k (L 7)<|k (L 4) z) (Li 0<|k (Tu<|k (B 0 (L 1)<|I 1)<|k (L 5)<|k (I 0) z) z) N) z) z)<|k (ifs (C 0 (L 3)<|I 38) (k (ex<|Fn 90<|k (L 0)<|k (L 7)<|k (Ng<|I 1) z)<|k (mT 5)<|k (ret<|Li 0<|k (Tu<|k (B 0 (L 1)<|I 1)<|k (L 5)<|k (I 0) z) z) z) z)<|k (ifs (C 0 (L 3)<|I 122) (k (asg (L 8)<|O 0<|k (C 0 (X (L 7)<|I 0)<|Z 86)<|k (C 6 (L 7)<|Tu<|k (Tu<|k (Z 82)<|k (I 14) z)<|k (Tu<|k (Z 82)<|k (X (L 0)<|Z 88) z) z) z)<|k (mT 5)<|k (ret<|If (O 1<|k (L 8)<|k (C 0 (L 5)<|Li 0 z) z) (Li 0 z) N) z) z)<|k (ifs (C 0 (L 3)<|I 65041) (k (asg (L 8)<|O 1<|k (C 6 (L 7)<|Tu<|k (Tu<|k (Z 85) z)<|k (Tu<|k (Z 84)<|k (I 0) z)<|k (Tu<|k (Z 84)<|k (I 1) z) z)<|k (C 1 (X (X (L 0)<|Z 77)<|L 1)<|Li 0 z)<|k (C 0 (X (X (X (X (L 0)<|Z 77)<|L 1)<|I 0)<|I 1)<|I 2) z)<|k (mT 5)<|k (ret<|If (O 1<|k (L 8)<|k (C 0 (L 5)<|Li 0 z) z) (Li 0 z) N) z) z)<|k (ifs (C 0 (L 3)<|I 69) (k (mT 5)<|k (ret<|If (C 0 (L 7)<|Tu<|k (Z 82)<|k (I 7) z) (B 0 (Co 1 0 (Tu<|k (L 9)<|k (L 5)<|k (L 3) z) (It<|L 4) z)<|Li 0<|k (Tu<|k (B 0 (L 1)<|I 1)<|k (L 5)<|k (I 0) z) z) N) z) z)<|k (ifs (O 1<|k (C 0 (L 3)<|I 58)<|k (C 0 (X (L 7)<|I 0)<|Z 79)<|k (C 0 (L 5)<|Li 0<|k (L 7) z) z) (k (mT 5)<|k (ret<|Li 0<|k (Tu<|k (L 4)<|k (L 5)<|k (L 3) z)<|k (Tu<|k (B 0 (L 1)<|I 1)<|k (Li 0<|k (Tu<|k (Z 87) z) z)<|k (I 0) z) z) z) z)<|k (ifs (O 1<|k (C 6 (L 3)<|Tu<|k (I 57)<|k (I 58) z)<|k (C 0 (L 7)<|Tu<|k (Z 82)<|k (I 1) z) z) (k (mT 5)<|k (ret<|Li 0<|k (Tu<|k (L 4)<|k (L 5)<|k (L 3) z)<|k (Tu<|k (B 0 (L 1)<|I 1)<|k (L 5)<|k (I 0) z) z) z) z)<|k (ret N) z
noncomputable abbrev wI:E:=k (asg (L 1)<|Dc 0 [] z)<|k (asg (L 2)<|Li 1<|k (Tu<|k (I 0)<|k (Li 0 z) z) z)<|k (fr (L 3) (Rl<|X (L 0)<|Z 48)<|k (asg (Tu<|k (L 4)<|k (L 5)<|k (L 6)<|k (L 7)<|k (L 8)<|k (L 9) z)<|X (X (L 0)<|Z 48)<|L 3)<|k (ex<|M 1 (L 2)<|k (Tu<|k (L 7)<|k (If (C 4 (L 4)<|I 1) (Li 0 z)<|Li 0<|k (Tu<|k (Z 79)<|k (L 3)<|k (If (C 0 (L 4)<|I 0) (L 9)<|I 12) z) z) z) z)<|k (ifs (C 0 (L 4)<|I 1) (k (ex<|M 1 (L 2)<|k (Tu<|k (L 9)<|k (Li 0<|k (Tu<|k (Z 79)<|k (B 0 (L 3)<|I 1000)<|k (I 12) z) z) z) z) z) z) z)<|k (asg (L 10)<|I 0)<|k (UZ (C 1 (L 2)<|Li 0 z)<|k (asg (Tu<|k (L 11)<|k (L 12) z)<|M 67 (L 2) z)<|k (ifs (C 6 (L 11)<|L 1) (k (ifs (O 1<|k (C 1 (X (L 1)<|L 11)<|L 12)<|k (O 0<|k (C 1 (Bu 0<|L 12)<|I 1)<|k (C 1 (Bu 0<|X (L 1)<|L 11)<|I 1)<|k (C 7 (X (X (L 12)<|I 0)<|I 0)<|Z 90)<|k (C 7 (X (X (X (L 1)<|L 11)<|I 0)<|I 0)<|Z 90) z) z) (k (ret<|Ng<|I 1) z) z)<|k cnt z) z)<|k (asg (X (L 1)<|L 11)<|L 12)<|k (asg (L 13)<|Fn 94<|k (L 0)<|k (L 11)<|k (L 12) z)<|k (ifs (Is 1<|L 13) (k (ret<|Ng<|I 1) z) z)<|k (asg (L 10)<|Bu 4<|B 0 (Li 0<|k (L 10)<|k (Bu 0<|L 12) z)<|Co 3 1 (Bu 0<|L 18) (It<|L 13) z)<|k (fr (Tu<|k (L 14)<|k (L 15)<|k (L 16) z) (It<|L 13)<|k (ifs (Nt<|Fn 89<|k (L 0)<|k (L 11)<|k (L 14)<|k (L 16) z) (k (ret<|Ng<|I 1) z) z)<|k (ex<|M 1 (L 2)<|k (Tu<|k (L 14)<|k (L 15) z) z) z) z)<|k (ret<|L 10) z
noncomputable abbrev um:E:=k (asg (L 6)<|Li 1<|k (I 5) z)<|k (asg (L 7)<|Dc 0 [] z)<|k (fr (L 8) (Ra z<|I 30)<|k (asg (Tu<|k (L 9)<|k (L 10) z)<|X (X (L 0)<|Z 55)<|L 1)<|k (aug 1<|I 1)<|k (ifs (C 0 (L 9)<|I 65041) (k (ret<|If (C 0 (Bu 0<|L 6)<|I 1) (X (L 6)<|I 0)<|I 9) z) z)<|k (ifs (C 6 (L 9)<|Tu<|k (I 65036)<|k (I 65033) z) (k (ifs (O 0<|k (C 1 (Tu<|k (L 9)<|k (L 10) z)<|L 5)<|k (O 1<|k (C 5 (L 4)<|I 0)<|k (C 1 (M 6 (L 7)<|k (L 4)<|k (I 0) z)<|I 5) z) z) (k (ret<|I 8) z) z)<|k (ex<|M 1 (L 6)<|k (L 3) z) z)<|k (ifs (C 0 (L 9)<|I 65038) (k (asg (X (L 7)<|L 10)<|M 67 (L 6) z) z)<|k (ifs (C 0 (L 9)<|I 117) (k (asg (L 11)<|M 67 (L 6) z)<|k (ex<|M 1 (L 6)<|k (If (L 2) (L 11)<|I 0) z) z)<|k (ifs (C 0 (L 9)<|I 37) (k (ex<|M 1 (L 6)<|k (X (L 6)<|Ng<|I 1) z) z)<|k (ifs (C 0 (L 9)<|I 38) (k (ex<|M 67 (L 6) z) z)<|k (ifs (C 0 (L 9)<|I 32) (k (ex<|M 1 (L 6)<|k (L 10) z) z)<|k (ifs (C 0 (L 9)<|I 56) (k (asg (L 1)<|L 10) z)<|k (ifs (C 0 (L 9)<|I 58) (k (asg (L 1)<|If (M 67 (L 6) z) (L 10)<|L 1) z)<|k (ifs (C 0 (L 9)<|I 65027) (k (asg (L 12)<|M 67 (L 6) z)<|k (ex<|M 1 (L 6)<|k (If (C 4 (M 67 (L 6) z)<|L 12) (I 1)<|I 0) z) z)<|k (ifs (C 1 (L 9)<|I 165) (k (ret<|I 7) z) z) z) z) z) z) z) z) z) z) z) z)<|k (ret<|I 6) z
noncomputable abbrev qg:E:=k (asg (L 1)<|Li 1 z)<|k (fr (Tu<|k (L 2)<|k (L 3) z) (It<|A 55<|L 0)<|k (ifs (C 0 (L 2)<|I 69) (k (asg (L 3)<|Bu 3<|Co 1 0 (X (A 54<|L 0)<|L 4) (It<|L 3) z) z)<|k (ifs (O 0<|k (Cc 3 2 (I 56) (L 2)<|I 69)<|k (C 0 (L 2)<|I 221) z) (k (asg (L 3)<|X (A 54<|L 0)<|L 3) z) z) z)<|k (ex<|M 1 (L 1)<|k (Tu<|k (L 2)<|k (L 3) z) z) z)<|k (ret<|L 1) z
noncomputable abbrev rM:E:=k (asg (Tu<|k (L 3)<|k (L 4)<|k (L 5)<|k (L 6)<|k (L 7)<|k (L 8) z)<|X (X (L 0)<|Z 48)<|L 1)<|k (ifs (Is 1<|L 2) (k (ret<|C 0 (Tu<|k (L 3)<|k (L 8) z)<|Tu<|k (I 2)<|k (I 0) z) z) z)<|k (ifs (C 0 (X (L 2)<|I 0)<|Ng<|I 2) (k (ret<|C 0 (Tu<|k (L 3)<|k (L 8) z)<|Tu<|k (I 4)<|k (I 0) z) z) z)<|k (asg (L 9)<|M 6 (X (L 0)<|Z 40)<|k (X (L 2)<|I 1)<|k (Ng<|I 1) z)<|k (ifs (O 1<|k (X (L 2)<|I 1)<|k (C 2 (L 9)<|I 0) z) (k (ret<|Y 0) z) z)<|k (ifs (Is 1<|X (L 2)<|I 2) (k (ret<|O 1<|k (C 0 (Tu<|k (L 3)<|k (L 8) z)<|Tu<|k (I 0)<|k (If (C 0 (X (L 2)<|I 0)<|Ng<|I 1) (I 12)<|X (L 2)<|I 0) z)<|k (C 0 (M 6 (X (L 0)<|Z 80)<|k (L 1) z)<|Li 0<|k (L 9) z) z) z) z)<|k (ifs (O 0<|k (C 1 (L 3)<|I 1)<|k (C 1 (M 6 (X (L 0)<|Z 80)<|k (L 1) z)<|Li 0<|k (Ng<|I 1) z)<|k (C 1 (M 6 (X (L 0)<|Z 80)<|k (B 0 (L 1)<|I 1000) z)<|Li 0<|k (L 9) z) z) (k (ret<|Y 0) z) z)<|k (asg (L 10)<|If (C 0 (X (X (L 2)<|I 2)<|I 2)<|I 12) (Tu<|k (I 65033)<|k (I 0) z)<|Tu<|k (I 65036)<|k (M 6 (X (L 0)<|Z 40)<|k (I 2)<|k (Ng<|I 1) z) z)<|k (fr (Tu<|k (L 11)<|k (L 12) z) (It<|Tu<|k (Tu<|k (Y 1)<|k (I 0) z)<|k (Tu<|k (Y 1)<|k (I 1) z)<|k (Tu<|k (Y 1)<|k (I 2) z)<|k (Tu<|k (Y 0)<|k (I 2) z) z)<|k (asg (L 13)<|If (O 1<|k (L 12)<|k (O 0<|k (L 11)<|k (C 0 (X (L 2)<|I 0)<|Ng<|I 1) z) z) (I 1)<|I 0)<|k (ifs (C 1 (Fn 96<|k (L 0)<|k (L 8)<|k (L 11)<|k (L 12)<|k (L 9)<|k (L 10) z)<|L 13) (k (ret<|Y 0) z) z) z)<|k (ret<|Y 1) z
noncomputable abbrev PD:E:=k (asg (L 1)<|Bu 1<|St (L 0)<|I 16)<|k (asg (L 1)<|B 0 (L 1)<|Bu 1<|Sf 1 (Gx 5)<|Bu 0<|L 1)<|k (asg (L 2)<|Nw 18 z)<|k (asg (L 3)<|Fn 9<|k (A 57<|L 2)<|k (I 70)<|k (Tu z) z)<|k (asg (L 4)<|Li 0<|k (Fn 11<|k (A 57<|L 2)<|k (I 0) z)<|k (Fn 10<|k (A 57<|L 2)<|k (I 0) z) z)<|k (asg (L 5)<|Tu<|k (I 0)<|k (I 9)<|k (I 1)<|k (I 7)<|k (I 13)<|k (L 3)<|k (X (L 4)<|I 0)<|k (I 12)<|k (L 3)<|k (Fn 9<|k (A 57<|L 2)<|k (I 71)<|k (Tu z) z)<|k (X (L 4)<|I 0)<|k (X (L 4)<|I 1)<|k (I 1)<|k (X (L 4)<|I 1) z)<|k (asg (L 6)<|Dc 1 [74,54,75,76]<|k (Sf 1 (L 1)<|I 1)<|k (I 0)<|k (L 5)<|k (B 5 (X (L 1)<|I 0)<|I 2) z)<|k (asg (L 7)<|Fn 84<|k (L 6)<|k (I 0)<|k (Li 0 z)<|k (Tu<|k (I 0)<|k (I 0) z) z)<|k (asg (L 8)<|Nw 5<|k (L 2)<|k (I 0) z)<|k (asg (L 9)<|X (A 35<|L 8)<|Fn 25<|k (L 8)<|k (I 0)<|k (I 0)<|k (I 0) z)<|k (asg (A 9<|L 9)<|If (X (L 6)<|Z 76) (I 13)<|I 0)<|k (fr (L 10) (Ra (I 1)<|I 14)<|k (ex<|Fn 26<|k (L 8)<|k (I 1)<|k (Z 82)<|k (X (L 5)<|L 10)<|k (I 0) z) z)<|k (asg (L 11)<|Nw 6<|k (L 8)<|k (L 9) z)<|k (asg (X (A 50<|L 11)<|I 12)<|I 0)<|k (asg (X (A 42<|L 11)<|I 2)<|Nw 17 z)<|k (ex<|Fn 72<|k (L 11) z)<|k (ex<|Fn 71<|k (L 11)<|k (L 7) z)<|k (asg (L 12)<|Dc 1 [55,48,83,81,88]<|k (Fn 97<|k (L 11) z)<|k (A 48<|L 11)<|k (A 52<|L 11)<|k (L 4)<|k (L 3) z)<|k (asg (X (L 12)<|Z 77)<|Co 1 0 (Fn 88<|k (A 48<|L 11)<|k (L 16) z) (Rl<|A 55<|L 11) z)<|k (asg (X (L 12)<|Z 80)<|Dc 0 [] z)<|k (asg (X (L 12)<|Z 40)<|A 51<|L 11)<|k (asg (X (L 12)<|Z 89)<|If (X (L 6)<|Z 76) (Li 0<|k (Tu<|k (Z 82)<|k (I 13) z) z)<|Li 0 z)<|k (asg (L 13)<|Fn 87<|k (L 7) z)<|k (asg (L 14)<|Fn 95<|k (L 12) z)<|k (ifs (O 0<|k (C 2 (L 14)<|I 0)<|k (C 1 (Bu 0<|L 13)<|Bu 0<|A 48<|L 11) z) (k (ret<|Y 0) z) z)<|k (ifs (C 1 (Fn 80<|k (X (L 12)<|Z 55)<|k (A 48<|L 11)<|k (Nw 1<|k (Dc 0 [] z)<|k (X (L 6)<|Z 76) z) z)<|L 14) (k (ret<|Y 0) z) z)<|k (fr (L 15) (Rl<|L 13)<|k (ifs (Nt<|Fn 98<|k (L 12)<|k (L 15)<|k (X (L 13)<|L 15) z) (k (ret<|Y 0) z) z) z)<|k (ret<|Y 1) z
noncomputable def QJ:List (Nat×Nat×E):=[(1,2,lX),(2,0,nc),(2,7,m_),(1,1,qf),(1,0,uw),(1,0,rP),(2,2,lY),(2,0,qa),(2,1,rJ),(3,0,rK),(2,0,wR),(2,0,uu),(2,1,BE),(3,0,jZ),(1,0,gO),(1,0,Ab),(1,0,uf),(1,0,uh),(1,0,Ac),(1,0,ql),(2,2,qk),(1,0,rH),(6,0,wj),(5,0,z8),(3,0,t8),(4,1,BF),(5,1,Aa),(3,0,z4),(3,0,BC),(2,0,z5),(1,0,n6),(2,0,z7),(2,0,z3),(2,0,t7),(2,0,z6),(2,1,ux),(2,1,t_),(2,1,qc),(4,1,ud),(2,1,ue),(2,1,wK),(2,1,BD),(2,0,z9),(1,0,qh),(2,1,qj),(2,2,ua),(2,1,qm),(3,0,kO),(3,1,lR),(3,0,jY),(3,0,lS),(3,0,m9),(3,1,jI),(3,5,lV),(3,0,kP),(3,0,lW),(3,0,n7),(1,0,wQ),(1,0,n_),(1,2,ug),(1,0,oj),(2,5,wo),(2,6,n9),(5,4,rL),(2,0,qn),(2,2,qd),(2,1,qi),(2,0,uv),(2,1,wM),(1,2,wN),(1,0,wm),(2,0,t9),(1,0,kQ),(3,1,lU),(1,0,n8),(2,4,p_),(2,3,rQ),(4,0,qe),(4,2,om),(4,2,qb),(3,6,ur),(1,0,rI),(1,0,wH),(2,0,wB),(4,4,wu),(4,3,wG),(6,8,z_),(1,3,wJ),(2,8,uo),(4,3,wA),(3,0,wz),(3,1,uq),(4,1,rN),(3,1,rO),(3,6,wF),(1,16,wI),(6,7,um),(1,3,qg),(3,11,rM),(1,15,PD)]
noncomputable def jJ(f:Nat):Option (Nat×Nat×E):=num f (QJ.map some) none
noncomputable def bf(f:Nat):Bool:=[0,13,21,22,23,24,27,81,25,26,72,90,91,94,95,99].contains f
noncomputable def RX:List (Nat×Nat):=[(91,0),(8,1),(7,2),(191,13),(111,14),(291,21),(207,100),(391,22),(491,23),(591,24),(691,27),(660,28),(663,29),(664,30),(666,31),(665,32),(661,33),(662,34),(759,47),(859,48),(959,49),(1059,50),(1159,51),(1259,52),(1359,53),(1459,54),(1559,55),(1659,56),(1759,73),(1891,81)]
noncomputable def gT(c n:Nat):Option Nat:=RX.lookup<|100*c+n
noncomputable def dZ(c:Nat):Option Nat:=[(0,0),(1,13),(2,21),(3,22),(4,23),(5,24),(6,27),(18,81)].lookup c
noncomputable def qs(k:Nat):V:=num k [.gd 0,.gd 1,.gd 2,.int<|-2,.int<|-1,.tup [.int 5,.int 5,.int 20,.int 2,.int 18,.int 5,.int 18,.int 0,.int 2,.int 0,.int 0,.int 42,.int 0,.int 0,.int 3,.int 16]] .none
noncomputable def Zg:List (Int×V):=[(20,0),(9,1),(10,2),(11,3),(12,4),(13,5),(14,6),(15,7),(16,8),(17,9),(18,10),(19,11),(1,12),(4,13)].map λ(x:Int×Int)=>(x.1,.int x.2)
noncomputable def QM:List (Int×V):=[(0,0),(20,0),(32,1),(33,2),(37,0),(38,0),(40,9),(42,0),(56,5),(57,5),(58,5),(59,5),(60,5),(61,5),(62,5),(63,5),(64,5),(65,5),(66,5),(67,5),(68,5),(69,6),(70,0),(71,0),(72,0),(73,0),(74,0),(75,0),(76,0),(77,0),(80,0),(81,0),(82,0),(83,0),(84,0),(85,0),(88,0),(89,0),(90,0),(91,0),(92,0),(93,0),(94,0),(95,0),(96,0),(97,0),(98,0),(99,0),(100,0),(101,0),(102,0),(103,0),(104,0),(105,0),(106,0),(109,0),(110,0),(111,9),(113,7),(114,10),(115,9),(116,7),(117,7),(121,7),(122,0),(123,8),(124,8),(125,8),(126,8),(127,8),(128,8),(129,7),(130,0),(131,0),(132,0),(133,0),(134,0),(135,0),(136,0),(137,0),(140,7),(141,7),(142,0),(143,7),(163,7),(164,7),(165,7),(179,0),(180,0),(181,0),(182,0),(183,0),(184,0),(185,0),(186,0),(208,11),(209,0),(210,0),(211,0),(214,0),(215,0),(216,0),(217,0),(218,0),(219,0),(220,0),(221,5),(223,0),(65025,0),(65026,0),(65027,0),(65028,0),(65029,0),(65030,9),(65031,9),(65033,3),(65034,3),(65035,3),(65036,4),(65037,4),(65038,4),(65041,0),(65045,7),(65046,7),(65050,0),(65054,0)].map λ(x:Int×Int)=>(x.1,.int x.2)
noncomputable def OA:List (Int×V):=[(0,0,0),(20,0,1),(32,0,1),(33,0,1),(37,1,2),(38,1,0),(56,0,0),(57,1,0),(58,1,0),(59,2,0),(60,2,0),(61,2,0),(62,2,0),(63,2,0),(64,2,0),(65,2,0),(66,2,0),(67,2,0),(68,2,0),(69,1,0),(70,1,1),(71,1,1),(72,1,1),(73,1,1),(74,1,1),(75,1,1),(76,1,1),(77,1,1),(80,1,1),(81,2,0),(82,2,0),(83,2,0),(84,2,0),(85,2,0),(88,2,1),(89,2,1),(90,2,1),(91,2,1),(92,2,1),(93,2,1),(94,2,1),(95,2,1),(96,2,1),(97,2,1),(98,2,1),(99,2,1),(100,2,1),(101,1,1),(102,1,1),(103,1,1),(104,1,1),(105,1,1),(106,1,1),(109,1,1),(110,1,1),(113,1,1),(114,0,1),(116,1,1),(117,1,1),(121,1,1),(122,1,0),(123,1,1),(124,1,1),(125,2,0),(126,0,1),(127,0,1),(128,1,0),(129,2,0),(130,1,1),(131,1,1),(132,1,1),(133,1,1),(134,1,1),(135,1,1),(136,1,1),(137,1,1),(140,1,1),(141,1,1),(142,1,1),(143,2,1),(163,2,1),(164,3,0),(165,1,1),(179,1,1),(180,1,1),(181,1,1),(182,1,1),(183,1,1),(184,1,1),(185,1,1),(186,1,1),(208,0,1),(209,1,1),(210,1,1),(211,1,1),(214,2,1),(215,2,1),(216,2,1),(217,2,1),(218,2,1),(219,2,1),(220,0,0),(221,0,0),(223,2,0),(65025,2,1),(65026,2,1),(65027,2,1),(65028,2,1),(65029,2,1),(65030,0,1),(65031,1,1),(65033,0,1),(65034,0,1),(65035,1,0),(65036,0,1),(65037,0,1),(65038,1,0),(65041,1,0),(65045,1,0),(65046,0,0),(65050,0,0),(65054,0,0)].map λ(x:Int×Int×Int)=>(x.1,.tup [.int x.2.1,.int x.2.2])
noncomputable def Av(k:Nat):List (Int×V):=num k [Zg,QM,OA] []
noncomputable def QS:List (String×Int):=[("PRIM_END",16),("R_PRIM",1),("R_VAR",6),("R_MVAR",7),("DEEPEST_KIND",24),("HEAVIEST_KIND",4096),("R_CLASS",2),("R_VALUE",3),("R_ARRAY",4),("R_BYREF",5),("R_BOXED",8),("R_ROREF",9),("R_RAW",11),("R_FTN",10),("OP_BR",56),("OP_RET",42),("OP_THROW",122),("OP_LEAVE",221),("OP_RETHROW",65050),("OP_ENDFINALLY",220),("OP_ENDFILTER",65041),("SO_BRANCH",5),("OP_SWITCH",69),("OP_CONSTRAINED",65046),("OP_READONLY",65054),("FN_PLAIN",0),("VOID",0),("OP_POP",38),("OP_BRTRUE",58),("OP_BRFALSE",57),("VF_REF",2),("VF_OUT",4),("OP_BOX",140),("OP_STLOC",65038),("OP_NOP",0),("EC_FINALLY",2),("EC_FAULT",4),("EC_FILTER",1),("OBJECT",12),("EC_CATCH",0),("OP_UNBOX_ANY",165),("OP_ISINST",117),("OP_DUP",37),("OP_LDC_I4",32),("OP_CGT_UN",65027),("S_LABEL",20),("S_BLOCK",3),("S_TRY",14),("OP_LDNULL",20),("OP_LDLOC",65036),("S_EXPR",1),("S_EMPTY",18),("S_GOTO",21),("S_CGOTO",22),("S_TABLE",23),("S_RETURN",12),("S_THROW",13),("OP_LDARG",65033)]
noncomputable def QT:List String:=["TID_PRIM","OP_SORT","OP_STACK","CATCH_FAULT","CATCH_ALL","_law_FILL"]
noncomputable def QK:List String:=["KindTable.__init__","KindTable.row","KindTable.put","inner_kinds","row_level","row_length","check_kind_row","check_named","check_args","class_kind","var_kind","mvar_kind","is_var","PlainTeller.__init__","PlainTeller.ret_count","op_sort","ends_flow","is_branch","targets","prefix_goal","pops_pushes","Diags.__init__","Var.__init__","Fn.__init__","Unit.__init__","new_fn","new_var","Em.__init__","Em.ins","Em.mark","Em.new_label","Em.temp","Em.expr","Em.effect","Em.stmt","take_temp","emit_expr","emit_effect","emit_jump","emit_stmt","local_of","by_ref","box_var","next_region","path_begins","emit_goto","same_region","EmitEffect.emit","EmitBlock.emit","EmitNothing.emit","EmitLabel.emit","EmitGoto.emit","EmitCondGoto.emit","EmitTable.emit","EmitReturn.emit","EmitThrow.emit","EmitTry.emit","ret_kind","enter_region","enter_try","leave_region","emit_try","emit_catches","emit_catch","take_caught","emit_filter","note_labels","note_part","note_try","open_end","emit_end","emit_body","install_e_stmts","EmitLocal.emit","clause_edges","check_edges","successors","enter_depth","start_depths","depth_after","max_stack","Store.__init__","_law_take","_law_read","_law_list","_law_stmt","_law_try","_law_want","_law_parts","_law_open","_law_note","_law_store","_law_pushed","_law_stands","_law_step","_law_walk","_law_asked","_law_settled","_law_clause","law","Diags.put"]
noncomputable def Xx:List String:=["opens","append","weights","depths","index","rows","get","put","row","ret","calls","ret_count","block","arg","owner","flags","kind","name","lid","at","elem","sort","up","body","this_kind","params","lids","mid","fnid","consts","sinits","inits","diags","of_mid","vars","fns","asm","store","stmts","jumps","places","effects","exprs","ret_local","ret_label","region_of_label","region_count","regions","clauses","free","args","of_lid","locals_","made","labels","code","fn","kt","unit","emit","ins","effect","stmt","mark","new_label","expr","temp","pop","entry","asms","names","methods","fields_","types","rest","kinds","gives","parts","u","x","kept","open","v","locals","c","b","g","z","class","back","bc","__init__"]
noncomputable def P8:List String:=["KindTable","PlainTeller","Diags","Var","Fn","Unit","Em","EmitEffect","EmitBlock","EmitNothing","EmitLabel","EmitGoto","EmitCondGoto","EmitTable","EmitReturn","EmitThrow","EmitTry","EmitLocal","Store"]
end J.Internal
namespace J.Internal
noncomputable abbrev KV(R:Type):=V->Hp->Option R
noncomputable abbrev KL(R:Type):=List V->Hp->Option R
noncomputable abbrev KS(R:Type):=Fl->Env->Hp->Option R
noncomputable abbrev Call:=Nat->List V->Hp->Option (V×Hp)
structure Cx where
 s:List Int
 C:Call
 k:Bool
section
variable{R:Type}
class Key where
 f:{α:Type}->α->α
 h: ∀{α:Type}(a:α),f a=a
noncomputable instance uM:Key:=⟨λa=>a,λ_=>rfl⟩
variable [Key]
noncomputable def lock{α:Type}(a:α):α:=Key.f a
theorem ϥ{α:Type}(a:α):lock a=a:=Key.h a
noncomputable def un(m:Option (V×Hp))(K:KV R):Option R:=lock (match m with
 |some r=>K r.1 r.2
 |none=>none)
noncomputable def ob{α:Type}(m:Option α)(K:α->Option R):Option R:=match m with
 |some b=>K b
 |none=>none
noncomputable def newL(c:Nat)(H:Hp)(l:List D)(K:KV R):Option R:=match c with
 |0=>K (.lst l)<|H.ϴ<|l.length<=big
 |_=>K (.obj H.c.length)<|(H.ϴ<|l.length<=big).new<|.list l
noncomputable def ii(f:Int->Int->Option R):V->V->Option R
 | .d (.int a),.d (.int b)=>f a b
 |_,_=>none
noncomputable def rE(c:Nat)(H:Hp)(K:KV R):Option (Bool×List D)->Option (Bool×List D)->Option R
 |some (true,l),some (true,m)=>K (.tup<|l++m)<|H.ϴ<|(l++m).length<=big
 |some (false,l),some (false,m)=>newL c H (l++m) K
 |_,_=>none
noncomputable def FU(H:Hp)(K:KV R)(v w:V):Option R:=match v,w with
 | .d (.int a),.d (.int b)=>K (.int<|a+b) H
 |_,_=>rE 0 H K (sq H v)<|sq H w
noncomputable def Mm(H:Hp)(K:KV R)(v:Option (Bool×List D)):V->Option R
 | .d (.int n)=>match v with
  |some (false,[x])=>newL 1 (H.ϴ<|0<=n/\n<=big) (Ω n.toNat x) K
  |_=>none
 |_=>none
noncomputable def bin(o:Nat)(v w:V)(H:Hp)(K:KV R):Option R:=num o [FU H K v w,rE 1 H K (sq H v) (sq H w),ii (λa b=>K (.int (a-b)) H) v w,Mm H K (sq H v) w,
 ii (λa b=>lock (if 0<b then K (.int<|a/b) (H.ϴ<|b<1000000000) else none)) v w,ii (λa b=>lock (if 0<b then K (.int<|a%b) (H.ϴ<|jK b) else none)) v w,
 ii (λa b=>if a=2/\b=4 then K (.int 6) H else none) v w,ii (λa b=>if a=0/\b=6 then K (.int 0) H else none) v w] none
noncomputable def CQ(x:D):PO->Option Bool
 | .di es=>match x with
  | .int k=>some (look k es).isSome
  |_=>none
 | .ds es=>match x with
  | .str k=>some (look k es).isSome
  |_=>none
 | .list l=>if fK 6 x&&kF 6 l then some (fC x l) else none
 |_=>none
noncomputable def QZ(x:D):D->Option Bool
 | .tup l=>if fK 6 x&&kF 6 l then some (fC x l) else none
 | .lst l=>if fK 6 x&&kF 6 l then some (fC x l) else none
 | .str b=>match x with
  | .str a=>if b=90 then Ec a else none
  |_=>none
 |_=>none
noncomputable def isIn(H:Hp):V->V->Option Bool
 | .d x,w=>match w with
  | .obj i=>CQ x<|H.get i
  | .gd g=>match x with
   | .int k=>some (look k<|Av g).isSome
   |_=>none
  | .d y=>QZ x y
  |_=>none
 |_,_=>none
noncomputable def cmp(o:Nat)(v w:V)(H:Hp)(K:Bool->Option R):Option R:=num o [ob (eqv H v w) K,ob ((eqv H v w).map (!·)) K,ii (λa b=>K (decide (a<b))) v w,ii (λa b=>K (decide (a<=b))) v w,
 ii (λa b=>K (decide (b<a))) v w,ii (λa b=>K (decide (b<=a))) v w,ob (isIn H v w) K,ob ((isIn H v w).map (!·)) K] none
noncomputable def GH(i:D):PO->Option V
 | .vl l=>match i with
  | .int i=>at? l i
  |_=>none
 | .di es=>match i with
  | .int i=>look i es
  |_=>none
 | .ds es=>match i with
  | .str k=>look k es
  |_=>none
 |_=>none
noncomputable def LL(i:D)(o:Option (Bool×List D)):Option V:=match i with
 | .int i=>o.bind λl=>(at? l.2 i).map .d
 |_=>none
noncomputable def QV(H:Hp)(i:D):V->Option V
 | .obj j=>GH i<|H.get j
 | .gd g=>match i with
  | .int i=>look i<|Av g
  |_=>none
 |v=>LL i<|sq H v
noncomputable def ϩ(H:Hp)(v:V):V->Option V
 | .d i=>QV H i v
 |_=>none
noncomputable def Fc(H:Hp)(j:Nat)(w:D)(v:V):PO->Option Hp
 | .list l=>match w,v with
  | .int i,.d x=>if 0<=i/\i<l.length then some (H.put j<|.list<|l.set i.toNat x) else none
  |_,_=>none
 | .di es=>match w with
  | .int i=>some<|(H.ϴ<|es.length<big/\look i es=none).put j<|.di<|es++[(i,v)]
  |_=>none
 | .ds es=>match w with
  | .str k=>some<|(H.ϴ<|es.length<big).put j<|.ds<|put k v es
  |_=>none
 | .dt es=>match w with
  | .tup k=>if dH es k then some ((H.ϴ<|es.length<big).put j<|.dt<|es++[(k,v)]) else none
  |_=>none
 |_=>none
noncomputable def bF(kp:Bool)(H:Hp)(o i v:V):Option Hp:=lock<|match may kp v,o,i with
 |true,.obj j,.d w=>Fc H j w v<|H.get j
 |_,_,_=>none
noncomputable def Oq(n:Nat):PO->Option V
 | .at es=>look n es
 |_=>none
noncomputable def ϸ(H:Hp)(n:Nat):V->Option V
 | .ins c i=>match gT c n with
  |none=>Oq n<|H.get i
  |some _=>none
 |_=>none
noncomputable def UW(H:Hp)(i n:Nat)(v:V):PO->Option Hp
 | .at es=>if es.length<200 then some (H.put i<|.at (put n v es)) else none
 |_=>none
noncomputable def setattr(kp:Bool)(H:Hp)(n:Nat)(v:V):V->Option Hp
 | .ins c i=>match gT c n,may kp v with
  |none,true=>UW H i n v<|H.get i
  |_,_=>none
 |_=>none
inductive ID where
 |fn (f:Nat) (self:V)|cell (j:Nat)|gd (k:Nat)
noncomputable def W7(f c i n:Nat)(o:Option V):Option ID:=match o with
 |none=>some<|.fn f<|.ins c i
 |some _=>none
noncomputable def UU(f c i n:Nat):PO->Option ID
 | .at es=>W7 f c i n<|look n es
 |_=>none
noncomputable def Fb(j n:Nat):PO->Option ID
 | .list _=>if n=1∨n=67 then some (.cell j) else none
 | .vl _=>if n=1 then some (.cell j) else none
 | .di _=>if n=6 then some (.cell j) else none
 | .dt _=>if n=6 then some (.cell j) else none
 |_=>none
noncomputable def resolve(H:Hp)(n:Nat):V->Option ID
 | .ins c i=>match gT c n with
  |some f=>UU f c i n<|H.get i
  |none=>none
 | .obj j=>Fb j n<|H.get j
 | .gd k=>if n=6 then some (.gd k) else none
 |_=>none
noncomputable def Sv(H:Hp)(j:Nat)(l:List D)(n:Nat)(args:List V)(K:KV R):Option R:=lock<|match args with
 |[]=>if n=67 then K (.d<|l.getLast?.getD .none) ((H.ϴ<|l≠[]).put j<|.list l.dropLast) else none
 | .d x::_=>if n=1 then K .none ((H.ϴ<|l.length<big).put j<|.list<|l++[x]) else match x,l with
  | .int 0,y::r=>K (.d y)<|H.put j<|.list r
  |_,_=>none
 |_=>none
noncomputable def vh(es:List (Int×V))(H:Hp)(args:List V)(K:KV R):Option R:=match args with
 | .d (.int k)::r=>K ((look k es).getD<|r.headD .none) H
 |_=>none
noncomputable def DK(kp:Bool)(H:Hp)(j n:Nat)(args:List V)(K:KV R):PO->Option R
 | .list l=>match n with
  |6=>none
  |_=>Sv H j l n args K
 | .vl l=>match n with
  |1=>match kp,args with
   |true,[x]=>K .none<|(H.ϴ<|l.length<big).put j<|.vl<|l++[x]
   |_,_=>none
  |_=>none
 | .di es=>match n with
  |6=>vh es H args K
  |_=>none
 | .dt es=>match n with
  |6=>match args with
   |[.d<|.tup k,d]=>if dH es k then K d H else none
   |_=>none
  |_=>none
 |_=>none
noncomputable def runC(kp:Bool)(H:Hp)(j n:Nat)(args:List V)(K:KV R):Option R:=DK kp H j n args K<|H.get j
noncomputable def W_(X:Cx)(n:Nat)(args:List V)(H:Hp)(K:KV R):ID->Option R
 | .fn f self=>un (X.C f (self::args) H) K
 | .cell j=>runC X.k H j n args K
 | .gd g=>vh (Av g) H args K
noncomputable def UJ(b:Nat)(H:Hp)(K:KV R)(l:List D):Option R:=num b [K (.int l.length) H,newL 0 H l K,newL 1 H l K,K (.tup l)<|H.ϴ<|l.length<=big,ob (qw l) λm=>K (.int m) H] none
noncomputable def Vy(b:Nat)(H:Hp)(K:KV R):PO->Option R
 | .list l=>UJ b H K l
 | .vl l=>match b with
  |0=>K (.int l.length) H
  |_=>none
 |_=>none
noncomputable def Y7(b:Nat)(H:Hp)(K:KV R):D->Option R
 | .tup l=>num b [K (.int l.length) H,newL 0 H l K,newL 1 H l K] none
 | .lst l=>UJ b H K l
 |_=>none
noncomputable def builtin(b:Nat)(v:V)(H:Hp)(K:KV R):Option R:=match v with
 | .obj j=>lock<|Vy b H K<|H.get j
 | .d x=>Y7 b H K x
 |_=>none
noncomputable def sliceFrom(c:Nat)(v:V)(H:Hp)(K:KV R):V->Option R
 | .d (.int i)=>match sq H v with
  |some (true,l)=>if 0<=i/\i<=l.length then K (.tup<|l.drop i.toNat) H else none
  |some (false,l)=>if 0<=i then newL c (H.ϴ<|jK i) (l.drop i.toNat) K else none
  |none=>none
 |_=>none
noncomputable def sliceTo(s:List Int)(v:V)(H:Hp)(K:KV R):V->Option R
 | .d (.int i)=>match v with
  | .Μ=>if 0<=i then newL 0 (H.ϴ<|jK i) ((s.map D.int).take i.toNat) K else none
  |_=>none
 |_=>none
noncomputable def eE:E->List D->Env->Option Env
 | .nil,[],env=>some env
 | .n _ _ _ _ (.n _ i _ _ _ _ _) b _,x::l,env=>eE b l<|env.set i<|some<|.d x
 |_,_,_=>none
noncomputable def nZ:E->D->Env->Option Env
 | .n 5 i _ _ _ _ _,x,env=>some<|env.set i<|some<|.d x
 | .n _ _ _ _ es _ _,x,env=>(sq ⟨True,[]⟩<|.d x).bind λl=>eE es l.2 env
 |_,_,_=>none
open Classical in
noncomputable def stay(k:Option (Nat×PO))(H:Hp)(r:Option R):Option R:=match k with
 |none=>r
 |some (j,o)=>if H.c[j]? =some o then r else none
noncomputable def forL(k:Option (Nat×PO))(t:E)(body:Env->Hp->KS (Fl×Env×Hp)->Option (Fl×Env×Hp))(K:KS R):List D->Env->Hp->Option R
 |[],env,H=>stay k H<|K .next env H
 |x::xs,env,H=>stay k H (ob (nZ t x env) λenv1=>match body env1 H λf e h=>some (f,e,h) with
  |some (.next,e,h)=>forL k t body K xs e h
  |some (.cont,e,h)=>forL k t body K xs e h
  |some (.brk,e,h)=>K .next e h
  |some (.ret v,e,h)=>K (.ret v) e h
  |none=>none)
noncomputable def tN(test:Env->Hp->KV (V×Hp)->Option (V×Hp))(body:Env->Hp->KS (Fl×Env×Hp)->Option (Fl×Env×Hp)):Nat->Env->Hp->Option (Fl×Env×Hp)
 |0,_,_=>none
 |n+1,env,H=>un (test env H λv h=>some (v,h)) λv h=>ob (truth v) λb=>match b with
  |false=>some (.next,env,h)
  |true=>match body env h λf e h=>some (f,e,h) with
   |some (.next,e,h)=>tN test body n e h
   |some (.cont,e,h)=>tN test body n e h
   |some (.brk,e,h)=>some (.next,e,h)
   |some (.ret v,e,h)=>some (.ret v,e,h)
   |none=>none
open Classical in
noncomputable def Ii(test:Env->Hp->KV (V×Hp)->Option (V×Hp))(body:Env->Hp->KS (Fl×Env×Hp)->Option (Fl×Env×Hp))(env:Env)(H:Hp)(K:KS R):Option R:=
 if h: ∃n r,tN test body n env H=some r then K h.choose_spec.choose.1 h.choose_spec.choose.2.1 h.choose_spec.choose.2.2 else none
noncomputable def jb:Option D->List D->List D
 |some v,q=>v::q
 |none,q=>q
noncomputable def gw(k:Option (Nat×PO))(f:D->Hp->Option (Option D×Hp))(K:List D->Hp->Option R):List D->Hp->Option R
 |[],H=>stay k H<|K [] H
 |x::xs,H=>stay k H (match f x H with
  |some (o,h)=>gw k f (λq h=>K (jb o q) h) xs h
  |none=>none)
noncomputable abbrev Run(R κ:Type):=Hp->κ->Option R
noncomputable def qv(H:Hp)(K:KV R)(v:V):Option R:=K v H
noncomputable def OI(H:Hp)(K:KV R)(o:Option (Option V)):Option R:=match o with
 |some (some v)=>K v H
 |_=>none
noncomputable def OE(H:Hp)(K:KV R)(b:Bool):Option R:=K (.bool b) H
noncomputable def bA(o:Nat)(v:V)(K:KV R)(w:V)(H:Hp):Option R:=bin o v w H K
noncomputable def CY(f:Run R (KV R))(o:Nat)(K:KV R)(v:V)(H:Hp):Option R:=f H<|bA o v K
noncomputable def xO(K:KV R)(v:V)(H:Hp):Option R:=match v with
 | .d (.int i)=>num i.toNat [none,K (.int<|-1) H,K (.int<|-2) H] none
 |_=>none
noncomputable def qu(K:KV R)(v:V)(H:Hp):Option R:=match truth v with
 |some b=>K (.bool<|!b) H
 |none=>none
noncomputable def C3(p:Nat)(K:KV R)(v:V)(H:Hp):Option R:=K (.bool<|iw p v) H
noncomputable def ni(o:Nat)(v:V)(K:KV R)(w:V)(H:Hp):Option R:=cmp o v w H<|OE H K
noncomputable def Ro(f:Run R (KV R))(o:Nat)(K:KV R)(v:V)(H:Hp):Option R:=f H<|ni o v K
noncomputable def Rk(g:Run R (KV R))(p:Nat)(w:V)(H:Hp)(K:KV R):Bool->Option R
 |false=>K (.bool false) H
 |true=>g H<|ni p w K
noncomputable def WB(g:Run R (KV R))(o p:Nat)(v:V)(K:KV R)(w:V)(H:Hp):Option R:=cmp o v w H<|Rk g p w H K
noncomputable def Rj(f g:Run R (KV R))(o p:Nat)(K:KV R)(v:V)(H:Hp):Option R:=f H<|WB g o p v K
noncomputable def k_(f:Run R (KV R))(k:Nat)(K:KV R)(v:V)(H:Hp):Option R:=match truth v with
 |some b=>if b=(k !=0) then f H K else K v H
 |none=>none
noncomputable def iH{κ:Type}(f g:Run R κ)(K:κ)(v:V)(H:Hp):Option R:=match truth v with
 |some true=>f H K
 |some false=>g H K
 |none=>none
noncomputable def xP(K:KV R)(l:List V)(H:Hp):Option R:=match jc l with
 |some xs=>K (.tup xs) H
 |none=>none
noncomputable def oS(c:Nat)(K:KV R)(l:List V)(H:Hp):Option R:=match c with
 |2=>K (.obj H.c.length)<|H.new<|.vl l
 |_=>match jc l with
  |some xs=>match c with
   |0=>K (.lst xs) H
   |_=>K (.obj H.c.length)<|H.new<|.list xs
  |none=>none
noncomputable def C1(k:Nat)(ks:List Nat)(K:KV R)(l:List V)(H:Hp):Option R:=K (.obj H.c.length)<|H.new<|Ai k ks l
noncomputable def Q_(n:Nat)(K:KV R)(v:V)(H:Hp):Option R:=ob (ϸ H n v)<|qv H K
noncomputable def gE(l:List D)(i:Int)(K:KV R)(H:Hp):Option R:=lock (match at? l i with
 |some x=>K (.d x) H
 |none=>K .none (H.ϴ False))
noncomputable def xN(v:V)(K:KV R)(w:V)(H:Hp):PO->Option R
 | .list l=>match w with
  | .d (.int i)=>gE l i K H
  |_=>none
 |_=>ob (ϩ H v w)<|qv H K
noncomputable def uR(v:V)(K:KV R)(w:V)(H:Hp):Option R:=match v with
 | .obj j=>xN v K w H<|H.get j
 |v=>ob (ϩ H v w)<|qv H K
noncomputable def Rt(f:Run R (KV R))(K:KV R)(v:V)(H:Hp):Option R:=f H<|uR v K
noncomputable def AD(c:Nat)(v:V)(K:KV R)(w:V)(H:Hp):Option R:=sliceFrom c v H K w
noncomputable def Rx(f:Run R (KV R))(c:Nat)(K:KV R)(v:V)(H:Hp):Option R:=f H<|AD c v K
noncomputable def C5(s:List Int)(v:V)(K:KV R)(w:V)(H:Hp):Option R:=sliceTo s v H K w
noncomputable def Ry(f:Run R (KV R))(s:List Int)(K:KV R)(v:V)(H:Hp):Option R:=f H<|C5 s v K
noncomputable def Rn(X:Cx)(f:Nat)(K:KV R)(l:List V)(H:Hp):Option R:=un (X.C f l H) K
noncomputable def Ju(c n:Nat)(K:KV R)(v:V)(H:Hp):Option R:=match v with
 | .d .none=>K (.ins c n) H
 |_=>none
noncomputable def AA(X:Cx)(c:Nat)(K:KV R)(l:List V)(H:Hp):Option R:=match dZ c with
 |some f=>un (X.C f (.ins c H.c.length::l)<|H.new<|.at [])<|Ju c H.c.length K
 |none=>match l with
  |[]=>K (.ins c H.c.length)<|H.new<|.at []
  |_=>none
noncomputable def GS(X:Cx)(n:Nat)(K:KV R)(g:ID)(l:List V)(H:Hp):Option R:=W_ X n l H K g
noncomputable def L6(X:Cx)(f:Run R (KL R))(n:Nat)(K:KV R)(v:V)(H:Hp):Option R:=match resolve H n v with
 |some g=>f H<|GS X n K g
 |none=>none
noncomputable def Rc(b:Nat)(K:KV R)(v:V)(H:Hp):Option R:=builtin b v H K
noncomputable def WE(v:V)(K:KL R)(l:List V)(H:Hp):Option R:=K (v::l) H
noncomputable def Ru(f:Run R (KL R))(K:KL R)(v:V)(H:Hp):Option R:=f H<|WE v K
noncomputable abbrev KI(R:Type):=List D->Option (Nat×PO)->Hp->Option R
noncomputable def OH(K:KI R)(v:V)(H:Hp):Option R:=match iy H v with
 |some (l,k)=>K l k H
 |none=>none
noncomputable def C4(K:KI R)(v:V)(H:Hp):Option R:=match sq H v with
 |some (_,l)=>K (Ϫ 0 l.length) none H
 |none=>none
noncomputable def Jv(v:V)(K:KI R)(w:V)(H:Hp):Option R:=ii (λa b=>lock<|K (Ϫ a b) none<|H.ϴ<|jK a/\jK b) v w
noncomputable def UO(f:Run R (KV R))(K:KI R)(v:V)(H:Hp):Option R:=f H<|Jv v K
noncomputable def OJ(K:Bool->Hp->Option R)(v:V)(H:Hp):Option R:=match truth v with
 |some b=>K b H
 |none=>none
noncomputable def MN(o:V)(H:Hp):Option (Option D×Hp):=match o with
 | .d x=>some (some x,H)
 |_=>none
noncomputable def qt(f:Run (Option D×Hp) (KV<|Option D×Hp))(b:Bool)(H:Hp):Option (Option D×Hp):=match b with
 |true=>f H MN
 |false=>some (none,H)
noncomputable def Mu(b:Nat):Nat->E
 |0=>.nil
 |n+1=>.n 0 0 0 [] (.n 5 b 0 [] .nil .nil .nil) (Mu (b+1) n) .nil
noncomputable def rY(n m:Nat)(env:Env)(x:D):Option Env:=nZ (match m with
 |0=>.n 5 env.length 0 [] .nil .nil .nil
 |_=>.n 15 0 0 [] (Mu env.length n) .nil .nil) x (env++Ω n none)
noncomputable def CZ(f:Env->Run (Option D×Hp) (KV<|Option D×Hp))(g:Env->Hp->(Bool->Hp->Option (Option D×Hp))->Option (Option D×Hp))(n m:Nat)(env:Env)(K:KV R)(l:List D)(k:Option (Nat×PO))(H:Hp):Option R:=
 lock (gw k (λx h=>ob (rY n m env x) λe=>g e h<|qt<|f e) (λq h=>newL 0 h q K) l H)
noncomputable def AB(env:Env)(K:KS R)(v:V)(H:Hp):Option R:=K (.ret v) env H
noncomputable def kEx(env:Env)(K:KS R)(v:V)(H:Hp):Option R:=K .next env H
noncomputable def L7(env:Env)(K:KS R)(H:Hp):Option R:=K .next env H
noncomputable def GR(env:Env)(K:KS R)(v:V)(H:Hp):Option R:=match truth v with
 |some b=>lock<|K .next env<|H.ϴ<|b=false
 |none=>none
noncomputable def Rv(k:Bool)(n:Nat)(v:V)(env:Env)(K:KS R)(o:V)(H:Hp):Option R:=ob (setattr k H n v o)<|L7 env K
noncomputable def GU(k:Bool)(o v:V)(env:Env)(K:KS R)(i:V)(H:Hp):Option R:=ob (bF k H o i v)<|L7 env K
noncomputable def UP(f:Run R (KV R))(k:Bool)(v:V)(env:Env)(K:KS R)(o:V)(H:Hp):Option R:=f H<|GU k o v env K
noncomputable def CX(f:V->Run R (KS R))(K:KS R)(v:V)(H:Hp):Option R:=f v H K
noncomputable def Rb(n:Nat)(v:V)(env:Env)(K:KS R)(w:V)(H:Hp):Option R:=ii (λa b=>K .next (env.set n<|some<|.int<|a+b) H) v w
noncomputable def OD(f:Run R (KV R))(n:Nat)(env:Env)(H:Hp)(K:KS R)(o:Option (Option V)):Option R:=match o with
 |some (some v)=>f H<|Rb n v env K
 |_=>none
noncomputable def OG(k:Bool)(o i v:V)(env:Env)(K:KS R)(w:V)(H:Hp):Option R:=ii (λa b=>ob (bF k H o i<|.int<|a+b)<|L7 env K) v w
noncomputable def OF(f:Run R (KV R))(k:Bool)(o:V)(env:Env)(K:KS R)(i:V)(H:Hp):Option R:=match ϩ H o i with
 |some v=>f H<|OG k o i v env K
 |none=>none
noncomputable def Rp(f g:Run R (KV R))(k:Bool)(env:Env)(K:KS R)(o:V)(H:Hp):Option R:=f H<|OF g k o env K
noncomputable def lq(t:E)(f:Env->Run (Fl×Env×Hp) (KS<|Fl×Env×Hp))(env:Env)(K:KS R)(l:List D)(k:Option (Nat×PO))(H:Hp):Option R:=lock<|forL k t f K l env H
noncomputable def pX(f:Env->Run R (KS R))(K:KS R)(x:Fl)(env:Env)(H:Hp):Option R:=match x with
 | .next=>f env H K
 |x=>K x env H
noncomputable def mT(n:Nat)(env:Env)(H:Hp)(K:KS R):Option R:=match env[n]? with
 |some (some<|.obj j)=>ob (E8 id<|H.get j) λl=>K .next (env.set n<|some<|.lst l)<|H.put j .dead
 |_=>none
end
variable [Key]
mutual
noncomputable def wE(X:Cx):E->{R:Type}->Env->Hp->KV R->Option R
 | .nil,_,env,H,K=>none
 | .n t n m k a b c,R,env,H,K=>num t [none,K (.int n) H,K (.d (.str n)) H,K (.bool (n !=0)) H,K .none H,
  OI H K env[n]?,K (.int m) H,
  wE X a env H (CY (wE X b env) n K),wE X a env H<|xO K,wE X a env H<|qu K,wE X a env H<|C3 n K,wE X a env H<|Ro (wE X b env) n K,wE X a env H<|Rj (wE X b env) (wE X c env) n m K,
  wO X a n env H K,wE X a env H<|iH (wE X b env) (wE X c env) K,wL X a env H<|xP K,wL X a env H<|oS n K,wL X a env H<|C1 n k K,
  wE X a env H (Q_ n K),wE X a env H<|Rt (wE X b env) K,wE X a env H<|Rx (wE X b env) n K,wE X a env H<|Ry (wE X b env) X.s K,
  wL X a env H (Rn X n K),wL X a env H (AA X n K),wE X a env H (L6 X (wL X b env) n K),wE X a env H (Rc n K),wS X b env H (CZ (wE X a) (wC X c) n m env K),K (qs n) H] none
noncomputable def wO(X:Cx):E->Nat->{R:Type}->Env->Hp->KV R->Option R
 | .nil,k,_,env,H,K=>none
 | .n _ _ _ _ a b _,k,R,env,H,K=>match b with
  | .nil=>wE X a env H K
  |_=>wE X a env H<|k_ (wO X b k env) k K
noncomputable def wL(X:Cx):E->{R:Type}->Env->Hp->KL R->Option R
 | .nil,_,env,H,K=>K [] H
 | .n _ _ _ _ a b _,R,env,H,K=>wE X a env H<|Ru (wL X b env) K
noncomputable def wS(X:Cx):E->{R:Type}->Env->Hp->KI R->Option R
 | .nil,_,env,H,K=>none
 | .n t _ _ _ a b _,R,env,H,K=>match t with
  |40=>match a with
   | .nil=>wE X b env H<|Jv (.int 0) K
   |_=>wE X a env H<|UO (wE X b env) K
  |39=>wE X a env H<|OH K
  |42=>wE X a env H<|C4 K
  |_=>none
noncomputable def wC(X:Cx):E->{R:Type}->Env->Hp->(Bool->Hp->Option R)->Option R
 | .nil,_,env,H,K=>K true H
 | .n _ _ _ _ a _ _,R,env,H,K=>wE X a env H<|OJ K
end
noncomputable def wT(X:Cx)(t:E){R:Type}(env:Env)(v:V)(H:Hp)(K:KS R):Option R:=match t with
 | .n 5 n _ _ _ _ _=>K .next (env.set n<|some v) H
 | .n 18 n _ _ a _ _=>wE X a env H<|Rv X.k n v env K
 | .n 19 _ _ _ a b _=>wE X a env H<|UP (wE X b env) X.k v env K
 | .n 15 _ _ _ es _ _=>ob ((sq H v).bind λl=>eE es l.2 env) λe=>K .next e H
 |_=>none
noncomputable def wX(X:Cx):E->{R:Type}->Env->Hp->KS R->Option R
 | .nil,_,env,H,K=>K .next env H
 | .n t n m k a b c,R,env,H,K=>match t with
  |0=>wX X a env H<|pX (wX X b) K
  |t+1=>num t [none,none,none,none,none,none,none,none,none,none,none,none,none,none,none,none,none,none,none,none,none,none,none,none,none,none,none,
   wE X a env H (AB env K),wE X b env H<|CX (wT X a env) K,OD (wE X b env) n env H K env[n]?,wE X a env H<|kEx env K,wE X a env H<|iH (wX X b env) (wX X c env) K,
   Ii (wE X a) (wX X b) env H K,wS X b env H (lq a (wX X c) env K),K .brk env H,K .cont env H,none,mT n env H K,none,none,wE X a env H (Rp (wE X b env) (wE X c env) X.k env K),none,wE X a env H (GR env K)] none
noncomputable def fin(kp:Bool)(n:Nat)(v:V)(H:Hp):Option (V×Hp):=match kp with
 |true=>some (v,H)
 |false=>match v with
  | .obj i=>if i<n then some (v,H.cut n) else E8 (λl=>(.lst l,H.cut n)) (H.get i)
  | .ins _ i=>if i<n then some (v,H.cut n) else none
  |_=>some (v,H.cut n)
noncomputable def dS(kp:Bool)(n:Nat)(f:Fl)(env:Env)(H:Hp):Option (V×Hp):=match f with
 | .ret v=>fin kp n v H
 | .next=>fin kp n .none H
 |_=>none
noncomputable def Β(s:List Int):Nat->Bool->Call
 |0,_=>λ_ _ _=>none
 |n+1,k=>λf args H=>match jJ f with
  |some (ar,l,b)=>if args.length=ar then wX ⟨s,Β s n<|k&&bf f,k&&bf f⟩ b (args.map some++Ω l none) H (dS (k&&bf f) H.c.length) else none
  |none=>none
end J.Internal
namespace J.Internal
open P
variable [Key]
section
variable{R:Type}{X:Cx}{env:Env}{H:Hp}{K:KV R}{n m i j:Nat}{a b c:E}{v w:V}{x y:D}{k:KS R}{q:KL R}{z:KI R}{s:List Int}{C:Call}{u:Bool}
@[simp high] theorem x_s:Cx.s ⟨s,C,u⟩=s:=rfl
@[simp high] theorem x_C:Cx.C ⟨s,C,u⟩=C:=rfl
@[simp high] theorem x_k:Cx.k ⟨s,C,u⟩=u:=rfl
@[simp high] theorem w_I:wE X (I n) env H K=K (.int n) H:=rfl
@[simp high] theorem w_Z:wE X (Z n) env H K=K (.d<|.str n) H:=rfl
@[simp high] theorem w_Y0:wE X (Y 0) env H K=K (.bool false) H:=rfl
@[simp high] theorem w_Y1:wE X (Y 1) env H K=K (.bool true) H:=rfl
@[simp high] theorem w_N:wE X N env H K=K .none H:=rfl
@[simp high] theorem w_L:wE X (L n) env H K=OI H K env[n]? :=rfl
@[simp high] theorem w_G:wE X (G n m) env H K=K (.int m) H:=rfl
@[simp high] theorem w_B:wE X (B n a b) env H K=wE X a env H (CY (wE X b env) n K):=rfl
@[simp high] theorem w_Ng:wE X (Ng a) env H K=wE X a env H (xO K):=rfl
@[simp high] theorem w_Nt:wE X (Nt a) env H K=wE X a env H (qu K):=rfl
@[simp high] theorem w_Is:wE X (Is n a) env H K=wE X a env H (C3 n K):=rfl
@[simp high] theorem w_C:wE X (P.C n a b) env H K=wE X a env H (Ro (wE X b env) n K):=rfl
@[simp high] theorem w_Cc:wE X (Cc n m a b c) env H K=wE X a env H (Rj (wE X b env) (wE X c env) n m K):=rfl
@[simp high] theorem w_O:wE X (O n a) env H K=wO X a n env H K:=rfl
@[simp high] theorem w_If:wE X (If a b c) env H K=wE X a env H (iH (wE X b env) (wE X c env) K):=rfl
@[simp high] theorem w_Tu:wE X (Tu a) env H K=wL X a env H (xP K):=rfl
@[simp high] theorem w_Li:wE X (Li n a) env H K=wL X a env H (oS n K):=rfl
@[simp high] theorem w_Dc{l:List Nat}:wE X (Dc n l a) env H K=wL X a env H (C1 n l K):=rfl
@[simp high] theorem w_A:wE X (A n a) env H K=wE X a env H (Q_ n K):=rfl
@[simp high] theorem w_X:wE X (P.X a b) env H K=wE X a env H (Rt (wE X b env) K):=rfl
@[simp high] theorem w_Sf:wE X (Sf n a b) env H K=wE X a env H (Rx (wE X b env) n K):=rfl
@[simp high] theorem w_St:wE X (St a b) env H K=wE X a env H (Ry (wE X b env) X.s K):=rfl
@[simp high] theorem w_Fn:wE X (Fn n a) env H K=wL X a env H (Rn X n K):=rfl
@[simp high] theorem w_Nw:wE X (Nw n a) env H K=wL X a env H (AA X n K):=rfl
@[simp high] theorem w_M:wE X (M n a b) env H K=wE X a env H (L6 X (wL X b env) n K):=rfl
@[simp high] theorem w_Bu:wE X (Bu n a) env H K=wE X a env H (Rc n K):=rfl
@[simp high] theorem w_Co:wE X (Co n m a b c) env H K=wS X b env H (CZ (wE X a) (wC X c) n m env K):=rfl
@[simp high] theorem w_Gx:wE X (Gx n) env H K=K (qs n) H:=rfl
@[simp high] theorem w_o1:wO X (P.k a P.z) n env H K=wE X a env H K:=rfl
@[simp high] theorem w_o2{d e f:E}{l:List Nat}{t:Nat}:wO X (P.k a<|.n t i j l d e f) n env H K=wE X a env H (k_ (wO X (.n t i j l d e f) n env) n K):=rfl
@[simp high] theorem w_l0:wL X P.z env H q=q [] H:=rfl
@[simp high] theorem w_l1:wL X (P.k a b) env H q=wE X a env H (Ru (wL X b env) q):=rfl
@[simp high] theorem w_s0:wS X (Ra P.z b) env H z=wE X b env H (Jv (.int 0) z):=rfl
@[simp high] theorem w_sl:wS X (Rl a) env H z=wE X a env H (C4 z):=rfl
@[simp high] theorem w_s1{d e f:E}{l:List Nat}{t:Nat}:wS X (Ra (.n t i j l d e f) b) env H z=wE X (.n t i j l d e f) env H (UO (wE X b env) z):=rfl
@[simp high] theorem w_s2:wS X (It a) env H z=wE X a env H (OH z):=rfl
@[simp high] theorem w_c0{K:Bool->Hp->Option R}:wC X P.z env H K=K true H:=rfl
@[simp high] theorem w_c1{K:Bool->Hp->Option R}:wC X (P.k a b) env H K=wE X a env H (OJ K):=rfl
@[simp high] theorem tr_{K:Bool->Hp->Option R}{b:Bool}:OJ K (.bool b) H=K b H:=rfl
@[simp high] theorem co1{f:Run (Option D×Hp) (KV<|Option D×Hp)}:qt f true H=f H MN:=rfl
@[simp high] theorem co0{f:Run (Option D×Hp) (KV<|Option D×Hp)}:qt f false H=some (none,H):=rfl
@[simp high] theorem retE_:MN (.d x) H=some (some x,H):=rfl
@[simp high] theorem t_L:wT X (L n) env v H k=k .next (env.set n<|some v) H:=rfl
@[simp high] theorem t_A:wT X (A n a) env v H k=wE X a env H (Rv X.k n v env k):=rfl
@[simp high] theorem t_X:wT X (P.X a b) env v H k=wE X a env H (UP (wE X b env) X.k v env k):=rfl
@[simp high] theorem t_T{l:List D}:wT X (Tu a) env (.tup l) H k=ob (eE a l env) λe=>k .next e H:=rfl
@[simp high] theorem t_Tl{l:List D}:wT X (Tu a) env (.lst l) H k=ob (eE a l env) λe=>k .next e H:=rfl
@[simp high] theorem bt1{l:List D}:eE (P.k (L n) b) (x::l) env=eE b l (env.set n<|some<|.d x):=rfl
@[simp high] theorem bt0:eE P.z [] env=some env:=rfl
@[simp high] theorem x_0:wX X P.z env H k=k .next env H:=rfl
@[simp high] theorem x_1:wX X (P.k a b) env H k=wX X a env H (pX (wX X b) k):=rfl
@[simp high] theorem x_ret:wX X (ret a) env H k=wE X a env H (AB env k):=rfl
@[simp high] theorem x_asg:wX X (asg a b) env H k=wE X b env H (CX (wT X a env) k):=rfl
@[simp high] theorem x_aug:wX X (aug n a) env H k=OD (wE X a env) n env H k env[n]? :=rfl
@[simp high] theorem x_ex:wX X (ex a) env H k=wE X a env H (kEx env k):=rfl
@[simp high] theorem x_ifs:wX X (ifs a b c) env H k=wE X a env H (iH (wX X b env) (wX X c env) k):=rfl
@[simp high] theorem x_whl:wX X (UZ a b) env H k=Ii (wE X a) (wX X b) env H k:=rfl
@[simp high] theorem x_fr:wX X (fr a b c) env H k=wS X b env H (lq a (wX X c) env k):=rfl
@[simp high] theorem x_brk:wX X brk env H k=k .brk env H:=rfl
@[simp high] theorem x_cnt:wX X cnt env H k=k .cont env H:=rfl
@[simp high] theorem x_frz:wX X (P.mT n) env H k=mT n env H k:=rfl
@[simp high] theorem x_augX:wX X (PC a b c) env H k=wE X a env H (Rp (wE X b env) (wE X c env) X.k env k):=rfl
@[simp high] theorem x_asr:wX X (n5 a) env H k=wE X a env H (GR env k):=rfl
@[simp high] theorem gv3:qs 3= .int (-2):=rfl
@[simp high] theorem gv4:qs 4= .int (-1):=rfl
@[simp high] theorem lo_:OI H K (some<|some v)=K v H:=rfl
@[simp high] theorem un_{r:V×Hp}:un (some r) K=K r.1 r.2:=ϥ _
@[simp high] theorem ob_{α:Type}{f:α->Option R}{r:α}:ob (some r) f=f r:=rfl
@[simp high] theorem val_:qv H K v=K v H:=rfl
@[simp high] theorem bo_{b:Bool}:OE H K b=K (.bool b) H:=rfl
section
variable{f g:Run R (KV R)}{l:List V}{fl:Run R (KL R)}
@[simp high] theorem bin_:CY f n K v H=f H (bA n v K):=rfl
@[simp high] theorem b0_{a b:Int}:bA 0 (.int a) K (.int b) H=K (.int<|a+b) H:=rfl
@[simp high] theorem b2_{a b:Int}:bA 2 (.int a) K (.int b) H=K (.int<|a-b) H:=rfl
theorem Y5:bA 0 v K w H=bin 0 v w H K:=rfl
theorem Y3:bA 1 v K w H=bin 1 v w H K:=rfl
theorem Vl{a b:List D}:bA 0 (.lst a) K (.lst b) H=K (.lst<|a++b) (H.ϴ<|(a++b).length<=big):=rfl
theorem ZG{a b:List D}:bA 1 (.lst a) K (.lst b) H=K (.obj H.c.length) ((H.ϴ<|(a++b).length<=big).new<|.list<|a++b):=rfl
theorem ZF{a b:List D}:bA 0 (.tup a) K (.tup b) H=K (.tup<|a++b) (H.ϴ<|(a++b).length<=big):=rfl
@[simp high] theorem neg1:xO K (.int 1) H=K (.int<|-1) H:=rfl
@[simp high] theorem neg2:xO K (.int 2) H=K (.int<|-2) H:=rfl
@[simp high] theorem not_{b:Bool}:qu K (.bool b) H=K (.bool<|!b) H:=rfl
@[simp high] theorem noti{a:Int}:qu K (.int a) H=qu K (.bool<|a !=0) H:=rfl
@[simp high] theorem isN_:C3 n K v H=K (.bool<|iw n v) H:=rfl
@[simp high] theorem cm_:Ro f n K v H=f H (ni n v K):=rfl
@[simp high] theorem c0_:ni 0 v K w H=ob (eqv H v w) (OE H K):=rfl
@[simp high] theorem c1_:ni 1 v K w H=ob ((eqv H v w).map (!·)) (OE H K):=rfl
@[simp high] theorem c2_{a b:Int}:ni 2 (.int a) K (.int b) H=K (.bool<|decide<|a<b) H:=rfl
@[simp high] theorem c3_{a b:Int}:ni 3 (.int a) K (.int b) H=K (.bool<|decide<|a<=b) H:=rfl
@[simp high] theorem c4_{a b:Int}:ni 4 (.int a) K (.int b) H=K (.bool<|decide<|b<a) H:=rfl
@[simp high] theorem c5_{a b:Int}:ni 5 (.int a) K (.int b) H=K (.bool<|decide<|b<=a) H:=rfl
@[simp high] theorem c6_:ni 6 v K w H=ob (isIn H v w) (OE H K):=rfl
@[simp high] theorem c7_:ni 7 v K w H=ob ((isIn H v w).map (!·)) (OE H K):=rfl
@[simp high] theorem cc_:Rj f g n m K v H=f H (WB g n m v K):=rfl
@[simp high] theorem cc0:Rk g n v H K false=K (.bool false) H:=rfl
@[simp high] theorem cc1:Rk g n v H K true=g H (ni n v K):=rfl
@[simp high] theorem ccl{a b:Int}:WB g 3 m (.int a) K (.int b) H=Rk g m (.int b) H K (decide<|a<=b):=rfl
@[simp high] theorem bop1:k_ f 1 K (.bool true) H=f H K:=rfl
@[simp high] theorem bop2:k_ f 1 K (.bool false) H=K (.bool false) H:=rfl
@[simp high] theorem bop3:k_ f 0 K (.bool false) H=f H K:=rfl
@[simp high] theorem bop4:k_ f 0 K (.bool true) H=K (.bool true) H:=rfl
theorem uz{a:Int}(h:(a !=0)=true):k_ f 1 K (.int a) H=f H K:=by
 show(match some (a !=0) with|some b=>if b=(1 !=0) then f H K else K (.int a) H|none=>none)=_
 rw[h];rfl
theorem BN{a:Int}(h:(a !=0)=false):k_ f 1 K (.int a) H=K (.int a) H:=by
 show(match some (a !=0) with|some b=>if b=(1 !=0) then f H K else K (.int a) H|none=>none)=_
 rw[h];rfl
@[simp high] theorem if1{κ:Type}{f g:Run R κ}{K:κ}:iH f g K (.bool true) H=f H K:=rfl
@[simp high] theorem if0{κ:Type}{f g:Run R κ}{K:κ}:iH f g K (.bool false) H=g H K:=rfl
@[simp high] theorem ifi{κ:Type}{f g:Run R κ}{K:κ}{i:Int}:iH f g K (.int i) H=iH f g K (.bool<|i !=0) H:=rfl
@[simp high] theorem ifN{κ:Type}{f g:Run R κ}{K:κ}:iH f g K .none H=g H K:=rfl
@[simp high] theorem tup_:xP K l H=match jc l with|some xs=>K (.tup xs) H|none=>none:=rfl
@[simp high] theorem lst0:oS 0 K l H=match jc l with|some xs=>K (.lst xs) H|none=>none:=rfl
@[simp high] theorem lst1:oS 1 K l H=match jc l with|some xs=>K (.obj H.c.length) (H.new<|.list xs)|none=>none:=rfl
@[simp high] theorem dct_{ks:List Nat}:C1 n ks K l H=K (.obj H.c.length) (H.new<|Ai n ks l):=rfl
@[simp high] theorem at_:Q_ n K v H=ob (ϸ H n v) (qv H K):=rfl
@[simp high] theorem ix_:Rt f K v H=f H (uR v K):=rfl
@[simp high] theorem ix2:uR (.d x) K w H=ob (ϩ H (.d x) w) (qv H K):=rfl
@[simp high] theorem ix3:uR (.obj j) K w H=xN (.obj j) K w H (H.get j):=rfl
@[simp high] theorem ix4:uR (.gd j) K w H=ob (ϩ H (.gd j) w) (qv H K):=rfl
@[simp high] theorem ixl{l:List D}{i:Int}:xN v K (.int i) H (.list l)=gE l i K H:=rfl
@[simp high] theorem ixd{l:List (Int×V)}:xN v K w H (.di l)=ob (ϩ H v w) (qv H K):=rfl
@[simp high] theorem ixs{l:List (Nat×V)}:xN v K w H (.ds l)=ob (ϩ H v w) (qv H K):=rfl
theorem l_{l:List D}{i:Int}(h:at? l i=some x):gE l i K H=K (.d x) H:=by unfold gE;rw[h];exact ϥ _
theorem bJ{H:Hp}{p:Prop}(h:p):H.ϴ p=H:=by
 show(⟨H.ok/\p,H.c⟩)=H
 rw[eq_true h,and_true]
theorem Ot{a b:Int}(h:0<b)(h2:b<1000000000):bA 4 (.int a) K (.int b) H=K (.int<|a/b) H:=by refine(ϥ _).trans ?_;rw[if_pos h,bJ h2]
theorem Kz{a b:Int}(h:0<b)(h2:jK b):bA 5 (.int a) K (.int b) H=K (.int<|a%b) H:=by refine(ϥ _).trans ?_;rw[if_pos h,bJ h2]
theorem JL{a b:Int}(h:jK a/\jK b):Jv (.int a) z (.int b) H=z (Ϫ a b) none H:=by refine(ϥ _).trans ?_;rw[bJ h]
theorem Pz{b:Bool}:GR env k (.bool b) H=k .next env (H.ϴ<|b=false):=ϥ _
@[simp high] theorem ar0:GR env k (.bool false) H=k .next env H:=by rw[Pz,bJ rfl]
@[simp high] theorem sf_:Rx f n K v H=f H (AD n v K):=rfl
@[simp high] theorem cf_:Rn X n K l H=un (X.C n l H) K:=rfl
@[simp high] theorem me_:L6 X fl n K v H=match resolve H n v with|some g=>fl H (GS X n K g)|none=>none:=rfl
@[simp high] theorem ru1:GS X n K (.fn m v) l H=un (X.C m (v::l) H) K:=rfl
@[simp high] theorem ru2:GS X n K (.cell m) l H=runC X.k H m n l K:=rfl
@[simp high] theorem ru3:GS X n K (.gd m) l H=vh (Av m) H l K:=rfl
@[simp high] theorem bu_:Rc n K v H=builtin n v H K:=rfl
@[simp high] theorem l2_:WE v q l H=q (v::l) H:=rfl
@[simp high] theorem l1_:Ru fl q v H=fl H (WE v q):=rfl
@[simp high] theorem it_:OH z v H=match iy H v with|some (l,k)=>z l k H|none=>none:=rfl
@[simp high] theorem rlT{l:List D}:C4 z (.tup l) H=z (Ϫ 0 l.length) none H:=rfl
@[simp high] theorem rlL{l:List D}:C4 z (.lst l) H=z (Ϫ 0 l.length) none H:=rfl
@[simp high] theorem ret_:AB env k v H=k (.ret v) env H:=rfl
@[simp high] theorem ex_:kEx env k v H=k .next env H:=rfl
@[simp high] theorem nx_:L7 env k H=k .next env H:=rfl
@[simp high] theorem sa_:Rv u n v env k w H=ob (setattr u H n v w) (L7 env k):=rfl
@[simp high] theorem si_:UP f u v env k w H=f H (GU u w v env k):=rfl
@[simp high] theorem si2{o:V}:GU u o v env k w H=ob (bF u H o w v) (L7 env k):=rfl
@[simp high] theorem as_{h:V->Run R (KS R)}:CX h k v H=h v H k:=rfl
@[simp high] theorem al_:OD f n env H k (some<|some v)=f H (Rb n v env k):=rfl
@[simp high] theorem au_{a b:Int}:Rb n (.int a) env k (.int b) H=k .next (env.set n<|some<|.int<|a+b) H:=rfl
@[simp high] theorem g1_{o:V}:Rp f g u env k o H=f H (OF g u o env k):=rfl
@[simp high] theorem g2_{o:V}:OF f u o env k v H=match ϩ H o v with|some v'=>f H (OG u o v v' env k)|none=>none:=rfl
@[simp high] theorem g3_{o:V}{a b:Int}:OG u o v (.int a) env k (.int b) H=ob (bF u H o v<|.int<|a+b) (L7 env k):=rfl
@[simp high] theorem sq_{f:Env->Run R (KS R)}:pX f k .next env H=f env H k:=rfl
@[simp high] theorem sqr{f:Env->Run R (KS R)}:pX f k (.ret v) env H=k (.ret v) env H:=rfl
@[simp high] theorem sqb{f:Env->Run R (KS R)}:pX f k .brk env H=k .brk env H:=rfl
@[simp high] theorem sqc{f:Env->Run R (KS R)}:pX f k .cont env H=k .cont env H:=rfl
end
@[simp high] theorem sl0{α β:Type}{f:α->β}:lP f []=[]:=rfl
@[simp high] theorem sl1{α β:Type}{f:α->β}{a:α}{l:List α}:lP f (a::l)=f a::lP f l:=rfl
@[simp high] theorem sl2{α:Type}{l:List α}:[]++l=l:=rfl
@[simp high] theorem sl3{α:Type}{a:α}{l m:List α}:(a::l)++m=a::(l++m):=rfl
@[simp high] theorem sl4{α:Type}{a:α}{l:List α}:(a::l)[0]? =some a:=rfl
@[simp high] theorem sl5{α:Type}{a:α}{l:List α}{n:Nat}:(a::l)[n+1]? =l[n]? :=rfl
@[simp high] theorem sl6{α:Type}{a b:α}{l:List α}:(a::l).set 0 b=b::l:=rfl
@[simp high] theorem sl7{α:Type}{a b:α}{l:List α}{n:Nat}:(a::l).set (n+1) b=a::l.set n b:=rfl
@[simp high] theorem sl8{α:Type}{a:α}:Ω 0 a=[]:=rfl
@[simp high] theorem sl9{α:Type}{a:α}{n:Nat}:Ω (n+1) a=a::Ω n a:=rfl
@[simp high] theorem so1{α β:Type}{f:α->β}{a:α}:(some a).map f=some (f a):=rfl
@[simp high] theorem so0{α β:Type}{f:α->β}:(none:Option α).map f=none:=rfl
@[simp high] theorem or0{b:Bool}:(false||b)=b:=rfl
@[simp high] theorem or1{b:Bool}:(true||b)=true:=rfl
@[simp high] theorem an0{b:Bool}:(false&&b)=false:=rfl
@[simp high] theorem an1{b:Bool}:(true&&b)=b:=rfl
@[simp high] theorem bb0:((0:Int)==0)=true:=rfl
@[simp high] theorem bb1:((1:Int)==1)=true:=rfl
@[simp high] theorem bb2:((2:Int)==2)=true:=rfl
@[simp high] theorem bb3:((3:Int)==3)=true:=rfl
@[simp high] theorem bb4:((4:Int)==4)=true:=rfl
@[simp high] theorem bb5:((5:Int)==5)=true:=rfl
@[simp high] theorem bb6:((6:Int)==6)=true:=rfl
@[simp high] theorem bb7:((7:Int)==7)=true:=rfl
@[simp high] theorem bb8:((8:Int)==8)=true:=rfl
@[simp high] theorem bb9:((9:Int)==9)=true:=rfl
@[simp high] theorem bb10:((10:Int)==10)=true:=rfl
@[simp high] theorem bb11:((11:Int)==11)=true:=rfl
@[simp high] theorem bb12:((12:Int)==12)=true:=rfl
@[simp high] theorem bb13:((13:Int)==13)=true:=rfl
@[simp high] theorem bb14:((14:Int)==14)=true:=rfl
@[simp high] theorem bb18:((18:Int)==18)=true:=rfl
@[simp high] theorem bb20:((20:Int)==20)=true:=rfl
@[simp high] theorem bb21:((21:Int)==21)=true:=rfl
@[simp high] theorem bb22:((22:Int)==22)=true:=rfl
@[simp high] theorem bb23:((23:Int)==23)=true:=rfl
@[simp high] theorem bn0:((0:Int) !=0)=false:=rfl
@[simp high] theorem bn9:((9:Int) !=9)=false:=rfl
@[simp high] theorem sb1:(!true)=false:=rfl
@[simp high] theorem sb0:(!false)=true:=rfl
@[simp high] theorem dats0:jc []=some []:=rfl
@[simp high] theorem dats1{l:List V}:jc (.d x::l)=(jc l).map (x:: ·):=rfl
@[simp high] theorem eqv_:eqv H (.d x) (.d y)=iL x y:=rfl
@[simp high] theorem eqi{a b:Int}:eqv H (.int a) (.int b)=some (a==b):=rfl
@[simp high] theorem eqDi{a b:Int}:iL (.int a) (.int b)=some (a==b):=rfl
@[simp high] theorem eqDs{a b:Nat}:iL (.str a) (.str b)=some (a==b):=rfl
@[simp high] theorem len_t{l:List D}:builtin 0 (.tup l) H K=K (.int l.length) H:=rfl
@[simp high] theorem len_l{l:List D}:builtin 0 (.lst l) H K=K (.int l.length) H:=rfl
@[simp high] theorem isN1:iw 1 .none=true:=rfl
@[simp high] theorem isN0:iw 0 .none=false:=rfl
@[simp high] theorem isN1i{i:Int}:iw 1 (.int i)=false:=rfl
@[simp high] theorem isN1n{c i:Nat}:iw 1 (.ins c i)=false:=rfl
@[simp high] theorem isN0n{c i:Nat}:iw 0 (.ins c i)=true:=rfl
@[simp high] theorem isN1t{l:List D}:iw 1 (.tup l)=false:=rfl
@[simp high] theorem isN0t{l:List D}:iw 0 (.tup l)=true:=rfl
@[simp high] theorem isN0i{i:Int}:iw 0 (.int i)=true:=rfl
@[simp high] theorem fin_r{p:Bool}:dS p n (.ret v) env H=fin p n v H:=rfl
@[simp high] theorem fin_n{p:Bool}:dS p n .next env H=fin p n .none H:=rfl
@[simp high] theorem fin_t:fin true n v H=some (v,H):=rfl
@[simp high] theorem fin_d:fin false n (.d x) H=some (.d x,H.cut n):=rfl
theorem Jb{i:Nat}{l:List D}(h:n<=i)(h2:H.get i= .list l):fin false n (.obj i) H=some (.lst l,H.cut n):=by
 unfold fin
 dsimp only
 rw[if_neg<|ϯ.mpr h,h2];rfl
theorem yx{f ar l:Nat}{b:E}{args:List V}(hf:jJ f=some (ar,l,b))(hl:args.length=ar):Β s (n+1) u f args H=wX ⟨s,Β s n<|u&&bf f,u&&bf f⟩ b (args.map some++Ω l none) H (dS (u&&bf f) H.c.length):=by
 show(match jJ f with
  |some (ar,l,b)=>if args.length=ar then wX ⟨s,Β s n<|u&&bf f,u&&bf f⟩ b (args.map some++Ω l none) H (dS (u&&bf f) H.c.length) else none
  |none=>none)=_
 rw[hf]
 dsimp only
 rw[if_pos hl]
theorem uc{m:Option (V×Hp)}{H':Hp}(h:m=some (v,H')):un m K=K v H':=by rw[h,un_]
theorem ja{f ar l:Nat}{b:E}{args:List V}(hf:jJ f=some (ar,l,b))(hl:args.length=ar):Β s (n+1) false f args H=wX ⟨s,Β s n false,false⟩ b (args.map some++Ω l none) H (dS false H.c.length):=yx hf hl
theorem go{f ar l:Nat}{b:E}{args:List V}{H':Hp}(hf:jJ f=some (ar,l,b))(hl:args.length=ar)(h:wX ⟨s,Β s n false,false⟩ b (args.map some++Ω l none) H (dS false H.c.length)=some (v,H')):un (Β s (n+1) false f args H) K=K v H':=uc<|(ja hf hl).trans h
theorem Ϝ{R:Type}{r:R}{p:Prop}(h:none=some r):p:=nomatch h
theorem ff{p:Prop}(h:false=true):p:=Bool.noConfusion h
theorem ay{α:Type}{x:α}{p:Prop}(h:x∈[]):p:=absurd h ϑ
end
end J.Internal
namespace J.Internal
open PySem PySem.W
structure HS where
 t:BT
 n:Nat
 k:Nat
 g:List ϧ
 e:Nat
 c:List χ
 s:List ϧ
 m:χ
 p:gB
noncomputable def HS.ins:HS->e9->HS
 |⟨t,n,k,g,e,c,s,m,p⟩,o=>⟨t.ins n o,n+1,k,g,e,c,s,m,p⟩
noncomputable def HS.Ay:HS->List e9->HS
 |x,[]=>x
 |x,o::l=>(x.ins o).Ay l
noncomputable def oG(P:bz)(x:ak)(k:Nat)(v:χ):ϧ:=⟨reduceHash<|P.strHash x.cps,.str x k,v⟩
noncomputable def uH(cls:χ)(l:List ϧ)(e:Nat):e9:={cls:=cls,data:=.dict ⟨l⟩ e}
noncomputable def qA(l:List χ):e9:={cls:=.type "tuple",data:=.seq ⟨l⟩}
noncomputable def NI(l:List ak)(k:Nat):List χ:=match l with
 |[]=>[]
 |x::l=>.str x k::NI l (k+1)
noncomputable def HS.NH(P:bz)(x:ak)(v:χ):HS->HS
 |⟨t,n,k,g,e,c,s,m,p⟩=>match x== "__name__" with
  |true=>⟨t,n,k+1,g.map λy=>match y.key with| .str z i=>(match z==x with|true=>⟨y.hash,.str z i,v⟩|false=>y)|_=>y,e,c,s,v,p⟩
  |false=>⟨t,n,k+1,oG P x k v::g,e+1,c,s,m,p⟩
noncomputable def K4(nm qual:ak)(line argc:Nat)(fn:Bool)(tup places:ό)(a b d:χ)(k k':Nat):e9:=
 {cls:=.type "code",data:=.fields #[.str nm k,.str qual<|k+1,.str "/claim/cut.py"<|k+2,rawInt line,rawInt argc,rawInt 0,rawInt 0,rawInt (match fn with|true=>3|false=>0),.ref tup,.bool fn,rawInt 181,.ref places,.none,a,b,d,rawInt k',rawInt line,.str "/claim/cut.py"<|k'+1]}
noncomputable def I0(m:χ)(nm qual:ak)(a:Arguments)(body:List fB)(sc:pT)(line:Nat)(n k:Nat):List e9×Nat×Nat:=
 let tm:bU:={name:=nm,qualname:=qual,params:=a,body:=.stmts body,scope:=sc,globals:=builtinsNs,closure:=[],defaults:=.none,kwdefaults:=.none}
 let fo (c:Nat):e9:={cls:=.type "function",data:=.func {tm with globals:=mainGlobals,pyModule:=m,code:=.ref c}}
 match localNames a sc (.stmts body) with
 |some (l,_)=>([qA [],{cls:=.none,data:=.fields #[]},qA<|NI l<|k+3,qA [],{cls:=.none,data:=.func tm},K4 nm qual line a.args.length true n (n+1) (.ref<|n+2) (.ref<|n+3) (.ref<|n+4) k<|k+3+l.length,fo<|n+5],n+5,k+5+l.length)
 |none=>([qA [],{cls:=.none,data:=.fields #[]},{cls:=.none,data:=.func tm},K4 nm qual line a.args.length true n (n+1) .none .none (.ref<|n+2) k<|k+3,fo<|n+3],n+3,k+5)
noncomputable def xU(P:bz)(m:χ)(cn:ak):List fB->Nat->Nat->List ϧ->List χ->List e9->List ϧ×List χ×List e9×Nat×Nat
 | .FunctionDef nm a body _ _ _ sc _ bn pos::l,n,k,es,ps,os=>match I0 m nm (cn++ "."++nm) a body sc pos.line n k with
  |(o,c,k')=>xU P m cn l (c+2) (k'+1) (oG P nm k' (.ref<|c+1)::es) (.ref c::rawInt pos.col::rawInt pos.line::ps)<|o.reverse++os
 |_::l,n,k,es,ps,os=>xU P m cn l n k es ps os
 |[],n,k,es,ps,os=>(es,ps,os,n,k)
noncomputable def y9(x:ak):List ϧ->χ
 |[]=>.type "Exception"
 |⟨_,.str z _,v⟩::l=>match z==x with
  |true=>v
  |false=>y9 x l
 |_::l=>y9 x l
noncomputable def QA:List χ:=[.type "Exception",.type "BaseException",.type "object"]
noncomputable def PE(t:BT):χ->List χ×Option χ×Bool×Bool
 | .ref a=>match t.get a with
  |some ⟨_,_,.cls c,sl⟩=>(c.mro,(sl[4]?).join,true,true)
  |_=>([],none,true,true)
 | .type n=>match n== "object" with
  |true=>([.type "object"],some<|.builtin "object.__new__",false,false)
  |false=>(QA,some<|.builtin "Exception.__new__",true,false)
 |_=>([],none,true,true)
noncomputable def XG(g:List ϧ)(n k:Nat):dX->χ×List e9×Nat
 | .Tuple [.Constant (.int a) _ _,.Constant (.int b) _ _] _ _=>(.ref n,[qA [.int a k,.int b<|k+1]],k+2)
 | .Name x _=>(y9 x g,[],k)
 |_=>(.none,[],k)
noncomputable def prs(g:List ϧ)(z:Nat):List (Option dX×dX)->Nat->Nat->List ϧ×List e9×Nat×Nat
 |(some<|.Constant (.int i) _ _,v)::l,n,k=>match XG g n (k+1) v with
  |(v,o,k')=>match prs g z l (n+o.length) (k'+z) with
   |(es,os,n',k'')=>(⟨i,.int i k,v⟩::es,o++os,n',k'')
 |_::l,n,k=>prs g z l n k
 |[],n,k=>([],[],n,k)
noncomputable def chunks(g:List ϧ):Nat->List (Option dX×dX)->Nat->Nat->List ϧ×List e9×Nat×Nat
 |0,_,n,k=>([],[],n,k)
 |f+1,l,n,k=>match Bm 17 l.length with
  |true=>match prs g 1 (l.take 17) (n+1) k with
   |(es,os,n',k')=>match chunks g f (l.drop 17) n' k' with
    |(es',os',n'',k'')=>(es++es',uH (.type "dict") es es.length::os++os',n'',k'')
  |false=>match prs g 0 l (n+1) k with
   |(es,os,n',k')=>(es,uH (.type "dict") es es.length::os,n',k'+es.length)
noncomputable def WL(g:List ϧ)(l:List (Option dX×dX))(n k:Nat):ό×List e9×Nat:=match Bm 17 l.length with
 |false=>match prs g 0 l (n+1) k with
  |(es,os,n',k')=>(n,uH (.type "dict") es es.length::os,k'+es.length)
 |true=>match prs g 1 (l.take 17) (n+1) k with
  |(es,os,n',k')=>match chunks g 20 (l.drop 17) n' k' with
   |(es',os',_,k'')=>(n,uH (.type "dict") (es++es') (es++es').length::os++os',k'')
noncomputable def LU:List dX->Nat->List χ×Nat
 | .Constant (.int i) _ _::l,k=>match LU l (k+1) with
  |(vs,k')=>(.int i k::vs,k')
 |_::l,k=>LU l k
 |[],k=>([],k)
noncomputable def HS.st(P:bz)(x:HS):fB->HS
 | .Assign [.Name nm pos] v _=>match x,v with
  |⟨t,n,k,g,e,c,s,m,_⟩,.Constant (.int i) _ _=>HS.NH P nm (.int i k) ⟨t,n,k+1,g,e,c,s,m,pos⟩
  |⟨t,n,k,g,e,c,s,m,_⟩,.Constant (.str i) _ _=>HS.NH P nm (.str i k) ⟨t,n,k+1,g,e,c,s,m,pos⟩
  |⟨t,n,k,g,e,c,s,m,_⟩,.Dict ks vs _=>match WL g (ks.zip vs) n k with
   |(a,os,k')=>HS.NH P nm (.ref a)<|(HS.mk t n k' g e c s m pos).Ay os
  |⟨t,n,k,g,e,c,s,m,_⟩,.UnaryOp _ (.Constant (.int i) _ _) _=>HS.NH P nm (.int (-i)<|k+1) ⟨t,n,k+2,g,e,c,s,m,pos⟩
  |⟨t,n,k,g,e,c,s,m,_⟩,.Tuple l _ _=>match LU l k with
   |(vs,k')=>HS.NH P nm (.ref n)<|(HS.mk t n k' g e c s m pos).Ay [qA vs]
  |x,_=>x
 | .FunctionDef nm a body _ _ _ sc _ _ pos=>match x with
  |⟨t,n,k,g,e,c,s,m,_⟩=>match I0 m nm nm a body sc pos.line n k with
   |(o,c',k')=>HS.NH P nm (.ref<|c'+1)<|(HS.mk t n k' g e (.ref c'::rawInt pos.col::rawInt pos.line::c) s m pos).Ay o
 | .ClassDef nm bases _ body _ _ _ _ _ sta pos=>match x with
  |⟨t,n,k,g,e,c,s,m,_⟩=>
   let given:List χ:=match bases with| .Name b _::_=>[y9 b g]|_=>[]
   let b:χ:=match given with|b::_=>b|[]=>.type "object"
   match PE t b,xU P m nm body (n+7) (k+12) [] [] [] with
   |(mro,nw,hd,hw),(es,ps,os,n',k')=>
    let cA:=match hd,hw with|_,_=>n'+2
    let k2:=k'+sta.length
    let core:=oG P "__firstlineno__" (k+11) (.int pos.line<|k+10)::es.reverse++[oG P "__static_attributes__" k2<|.ref n']
    let n2:=n'+3
    let n3:=match hd with|true=>n2|false=>n2+1
    let n4:=match hw with|true=>n3|false=>n3+1
    let k3:=match hd with|true=>k2+1|false=>k2+3
    let k4:=match hw with|true=>k3|false=>k3+2
    let d1:=match hd with|true=>[]|false=>[oG P "__dict__" (k2+2)<|.ref n2]
    let d2:=match hw with|true=>[]|false=>[oG P "__weakref__" (k3+1)<|.ref n3]
    let o1:List e9:=match hd with|true=>[]|false=>[{cls:=.type "getset_descriptor",data:=.fields #[.str "__dict__"<|k2+1,.ref cA,.builtin "function.__dict__",.builtin "function.__dict__#set"]}]
    let o2:List e9:=match hw with|true=>[]|false=>[{cls:=.type "getset_descriptor",data:=.fields #[.str "__weakref__" k3,.ref cA,.builtin "ExceptionGroup.__weakref__",.none]}]
    let mo:=oG P "__module__" (k+7) m
    let objs:List e9:=[qA given,{cls:=.type "builtin_function_or_method",data:=.fields #[.builtin "type.__prepare__",.type "type"]},
     uH (.type "dict") (mo::oG P "__qualname__" (k+9) (.str nm<|k+8)::core) (es.length+4),
     qA [],{cls:=.none,data:=.fields ⟨ps.reverse⟩},K4 nm nm pos.line 0 false (n+3) (n+4) .none .none .none (k+2)<|k+5,
     {cls:=.type "frame",slots:=#[some (.ref (n+5)),some (.ref mainGlobals),some (.ref (n+2)),none,some m,none,some (.ref 0)]}]++os.reverse++
     [qA (NI sta k'),uH (.type "dict") (mo::core++d1++d2++[oG P "__doc__" k4 .none]) (2+d1.length+d2.length),
      {cls:=.type "type",data:=.cls {name:=nm,bases:=[b],mro:=.ref cA::mro,ns:=n'+1,qualname:=nm},slots:=#[given.head?.map λ_=>.ref n,none,some (.str nm k),some (.str nm (k+8)),nw,some (.bool true)]}]++o1++o2++
     [{cls:=.type "super",data:=.fields #[.ref cA,.ref cA,.ref cA]},{cls:=.type "builtin_function_or_method",data:=.fields #[.builtin "object.__init_subclass__",.ref cA]}]
    let ex:Bool:=match b with| .type z=>z== "Exception"|_=>false
    let t':BT:=match b with| .ref B=>t.set B (Obj.mapCls λcd=>{cd with subclasses:=cd.subclasses++[.ref cA]})|_=>t
    let(s',k5):List ϧ×Nat:=match ex with|true=>([oG P "type.__subclasses__.Exception.n" (k4+2)<|rawInt 1,oG P "type.__subclasses__.Exception.0" (k4+1)<|rawInt cA]++s,k4+3)|false=>(s,k4+1)
    HS.NH P nm (.ref cA) ((HS.mk t' n (k5+1) g e (.ref (n+5)::rawInt pos.col::rawInt pos.line::c) s' m pos).Ay objs)
 |_=>x
noncomputable def HS.tree(x:HS):BT:=((x.t.set 3 λ_=>uH (.type "dict") x.g.reverse x.e).set 12 λ_=>{cls:=.none,data:=.fields ⟨x.c.reverse⟩}).set 2 λ_=>uH .none x.s.reverse x.s.length
noncomputable abbrev pw:=IA
noncomputable def body:List fB:=behindTheImports pw
noncomputable def xh:Ο:={scope:=pw.main.scope,locals:=mainNs,globals:=mainNs,cells:=[],code:=.ref 13,frame:=some 14}
noncomputable def cB:Code:=.body body xh
noncomputable def q0:gB:=⟨0,0,0,0⟩
noncomputable def PN(P:bz):List e9:=[boot_o_0 P,boot_o_1 P,boot_o_2 P,UI P,boot_o_4 P,boot_o_5 P,boot_o_6 P,boot_o_7 P,boot_o_8 P,boot_o_9 P,boot_o_10 P]
noncomputable def Se:List e9:=[qA [],{cls:=.none,data:=.fields #[]},
 {cls:=.type "code",data:=.fields #[.str "<module>" 182,.str "<module>" 183,.str "/claim/cut.py" 184,rawInt 1,rawInt 0,rawInt 0,rawInt 0,rawInt 0,.ref 11,.bool false,rawInt 181,.ref 12,.none,.none,.none,.none,rawInt 185,rawInt 1,.str "/claim/cut.py" 186]},
 {cls:=.type "frame",slots:=#[some (.ref 13),some (.ref 3),some (.ref 3),none,some (.str "__main__" 164),none,some (.ref 0)]}]
noncomputable def V6(o:e9):List ϧ:=match o.data with
 | .dict es _=>es.toList.reverse
 |_=>[]
noncomputable def V4(o:e9):Nat:=match o.data with
 | .dict _ n=>n
 |_=>0
noncomputable def x0(P:bz):HS:=(HS.mk .nil 0 187 (V6<|UI P) (V4<|UI P) [] [] (.str "__main__" 164) q0).Ay<|PN P++Se
noncomputable def X(P:bz)(a:Nat):HS:=(body.take a).foldl (HS.st P)<|x0 P
noncomputable def zY(x:HS)(os:tU):SharedT:=⟨x.tree,x.n,{},#[],{},x.k,os⟩
noncomputable abbrev Seg(w:cW)(a n k:Nat):Prop:=∀os,segRunT treeTable pw w 11 (some<|.ref 6) 1 (k+1) (zY (X w.params a) os) (piecesOf ((body.drop a).take n) xh cB (X w.params a).p [topFrame q0])=some (.next,zY (X w.params<|a+n) os,cB,(X w.params<|a+n).p)
noncomputable abbrev Tv:=@Fast.tw10110043849684766642
noncomputable abbrev Tw:=@Fast.tw14364793385576792824
noncomputable abbrev XF:=@Fast.tw12563942051412417395
theorem fq{w:cW}{a n k:Nat}(h: ∀os,Tv Tw pw w 11 (some<|.ref 6) 1 (k+1) (zY (X w.params a) os) ⟨(XF ((body.drop a).take n) xh).wrap doneF deadEnd id id,cB,(X w.params a).p,[topFrame q0]⟩=some (.next,zY (X w.params<|a+n) os,cB,(X w.params<|a+n).p)):Seg w a n k:=λos=>by
 unfold piecesOf
 rw[Fast.te10110043849684766642,Fast.te14364793385576792824,Fast.te12563942051412417395]
 exact h os
theorem s0(w:cW):Seg w 0 70 1483:=fq λos=>by kernel_rfl
theorem Zv(w:cW):Seg w 71 27 809:=fq λos=>by kernel_rfl
theorem Xa(w:cW):Seg w 100 31 1919:=fq λos=>by kernel_rfl
theorem Xb(w:cW):Seg w 131 21 1783:=fq λos=>by kernel_rfl
theorem Xc(w:cW):Seg w 152 9 1995:=fq λos=>by kernel_rfl
theorem Xd(w:cW):Seg w 161 47 1815:=fq λos=>by kernel_rfl
theorem Xe(w:cW):Seg (w.withFollow "special-get-raises" false) 70 1 206:=fq λos=>by kernel_rfl
theorem Xf(w:cW):Seg (w.withFollow "special-get-raises" true) 70 1 206:=fq λos=>by kernel_rfl
theorem Zu(w:cW):Seg w 70 1 206:=byRow2 "special-get-raises" (P:=λw=>Seg w 70 1 206) Xe Xf w
theorem Xg(w:cW):Seg (w.withFollow "special-get-raises" false) 98 1 2477:=fq λos=>by kernel_rfl
theorem Xh(w:cW):Seg (w.withFollow "special-get-raises" true) 98 1 2477:=fq λos=>by kernel_rfl
theorem Zw(w:cW):Seg w 98 1 2477:=byRow2 "special-get-raises" (P:=λw=>Seg w 98 1 2477) Xg Xh w
theorem Xi(w:cW):Seg (w.withFollow "special-get-raises" false) 99 1 2641:=fq λos=>by kernel_rfl
theorem Xj(w:cW):Seg (w.withFollow "special-get-raises" true) 99 1 2641:=fq λos=>by kernel_rfl
theorem Zx(w:cW):Seg w 99 1 2641:=byRow2 "special-get-raises" (P:=λw=>Seg w 99 1 2641) Xi Xj w
end J.Internal
namespace J.Internal
open PySem PySem.W PySem.Calls PyProof.Rows
section
variable{w:cW}{os:tU}
theorem seg_go{a n k N:Nat}{r:Χ}(s:Seg w a n k)(h:topRun treeTable pw w 11 (some<|.ref 6) N (zY (X w.params<|a+n) os).abs (restOf (body.drop<|a+n) xh cB (X w.params<|a+n).p [topFrame q0])=some r):
 topRun treeTable pw w 11 (some<|.ref 6) (k+1+N) (zY (X w.params a) os).abs (restOf (body.drop a) xh cB (X w.params a).p [topFrame q0])=some r:=by
 have e:body.drop a=(body.drop a).take n++body.drop (a+n):=by rw[<-List.drop_drop,List.take_append_drop]
 rw[e]
 exact piece_app (segRun_of<|s os) h
theorem MC:topGo treeTable pw w 11 (some<|.ref 6) 12 ⟨c9 w.params,jn [],gW,jr,os⟩ (topStub pw)=some ((zY (X w.params 0) os).abs,⟨denote treeTable cB,cB,q0,[topFrame q0]⟩):=by kernel_rfl
theorem BI:segRun treeTable pw w 11 (some<|.ref 6) 1 1 (zY (X w.params 0) os).abs (blockOf body xh cB q0 [topFrame q0])=some (.next,(zY (X w.params 0) os).abs,cB,q0):=by kernel_rfl
theorem Lj:topRun treeTable pw w 11 (some<|.ref 6) 2 (zY (X w.params 208) os).abs (restOf (body.drop 208) xh cB (X w.params 208).p [topFrame q0])=some (zY (X w.params 208) os).abs:=by kernel_rfl
theorem MW: ∃N,topRun treeTable pw w 11 (some<|.ref 6) N ⟨c9 w.params,jn [],gW,jr,os⟩ (topStub pw)=some (zY (X w.params 208) os).abs:=
 ⟨_,go_top MC<|piece_block BI<|seg_go (s0 w)<|seg_go (Zu w)<|seg_go (Zv w)<|seg_go (Zw w)<|seg_go (Zx w)<|seg_go (Xa w)<|seg_go (Xb w)<|seg_go (Xc w)<|seg_go (Xd w) Lj⟩
@[irreducible] noncomputable def X1(P:bz):HS:=X P 208
noncomputable abbrev HF(P:bz):ao:=absHeap (X1 P).tree (X1 P).n {}
end
theorem abs_eq{x:HS}{os:tU}:(zY x os).abs=⟨absHeap x.tree x.n {},#[],{},x.k,os⟩:=rfl
theorem MV{w:cW}{os:tU}: ∃N k,topRun treeTable pw w 11 (some<|.ref 6) N ⟨c9 w.params,jn [],gW,jr,os⟩ (topStub pw)=some ⟨HF w.params,#[],{},k,os⟩:=by
 obtain⟨N,h⟩:=MW (w:=w) (os:=os)
 rw[abs_eq] at h
 unfold HF X1
 exact⟨N,_,h⟩
theorem Jl(P:bz):((staticsOk (importedModules pw.main.body) (c9 P) (HF P)&&namesBound pw (HF P))&&(laidKept (c9 P) (HF P)&&((HF P).accountedOkI (importedModules pw.main.body)&&((HF P).isNs mainGlobals&&((HF P).isNs builtinsNs&&(HF P).bmainOk)))))=true:=by kernel_rfl
theorem LF(P:bz):(HF P).bltView=bltViewBooted:=by kernel_rfl
theorem PJ(P:bz):(c9 P).objs.size=11:=by kernel_rfl
theorem PI(P:bz):globalOf (c9 P) "__annotations__"=some (.ref 6):=by kernel_rfl
theorem R5:opening pw=plainProg pw.main.scope.names:=by kernel_rfl
theorem V8(s:Χ):fenceModules? pw s=some s:=by
 have h1:importedModules pw.main.body=[]:=by kernel_rfl
 have h2:pw.main.body.any namesNumpy=false:=by kernel_rfl
 unfold fenceModules?
 rw[h1,h2];rfl
theorem tX(w:cW):(∃s,AfterRun (opening pw) w s)/\∀s,AfterRun (opening pw) w s->(s.heap,s.gens,s.drawn,s.toks)=(c9 w.params,jn [],gW,jr)/\s.asleep:=by
 obtain⟨s,h1,h2⟩:=dF.mp<|boot_open (p:=pw) (N:=600) R5 rfl V8 w
 obtain⟨s',h3,h4⟩:=Option.bind_eq_some_iff.mp h1
 rw[V8] at h4
 cases h4
 rw[<-XD] at h3
 have A:=Um h3
 exact⟨⟨_,A⟩,λs2 hs=>Uo hs A▸⟨h2,A.life⟩⟩
theorem aL{a b:Bool}(h:(a&&b)=true):a=true:=(aQ.mp h).1
theorem aR{a b:Bool}(h:(a&&b)=true):b=true:=(aQ.mp h).2
theorem rz{a b c:Bool}(h:(a&&(b&&c))=true):c=true:=aR<|aR h
theorem E5{a b c d e:Bool}(h:(a&&(b&&(c&&(d&&e))))=true):e=true:=rz<|rz h
theorem FP{a b c d e f g h k:Bool}(q:(a&&(b&&(c&&(d&&(e&&(f&&(g&&(h&&k))))))))=true):k=true:=E5<|E5 q
theorem eB{a b c:Bool}(h:(a&&b&&c)=true):a=true:=aL<|aL h
theorem kM{a b c d:Bool}(h:(a&&b&&c&&d)=true):a=true:=eB<|aL h
theorem iT{a b c d e:Bool}(h:(a&&b&&c&&d&&e)=true):a=true:=eB<|eB h
noncomputable abbrev BK(P:bz)(os:tU):Χ:=⟨c9 P,jn [],gW,jr,os⟩
theorem BL{P:bz}{s:Χ}(e:(s.heap,s.gens,s.drawn,s.toks)=(c9 P,jn [],gW,jr)):s=BK P s.os:=congrArg (λp=>Shared.mk p.1 p.2.1 p.2.2.1 p.2.2.2 s.os) e
theorem Ek{w:cW}{os:tU}(z:(BK w.params os).asleep): ∃s₁,TopRan pw w (BK w.params os) s₁/\s₁.heap=HF w.params/\s₁.gens=#[]/\s₁.asleep:=by
 obtain⟨N,k,r⟩:=MV (w:=w) (os:=os)
 rw[<-XD] at r
 obtain⟨a,l,o,fr⟩:=topRun_spec _ _ _ _ z r
 have b:=Jl w.params
 obtain⟨bm,ob,c1,_,c3,c4,c5,_⟩:=Heap.bmainOk_spec<|aR<|aR<|aR<|aR<|aR b
 exact⟨_,⟨a,l,Shared.rest_eq o,λb o hb hn=>fr b o ((PJ w.params)▸cM hb) (λq=>hn (.inl q)) (λq=>hn (.inr (.inl q))) (λq=>hn (.inr (.inr ((PI w.params).trans q)))) hb,
  Heap.accountedI_of_ok (aL<|aR<|aR b),statics_of_ok<|aL<|aL b,Pin.keysAreStrs_of<|aL<|aR<|aR<|aR b,λx hx=>(Pin.builtinOf_eq (aL<|aR<|aR<|aR<|aR b) x).trans<|Heap.of_bltView (aL<|aR<|aR<|aR<|aR b) (LF w.params) x hx,⟨bm,ob,(FN (aL<|aR<|aR<|aR b) _).trans c1,c3,c4,c5⟩,
  λg m=>absurd m (by simp),names_of_bound (aR (aL b)),laid_of_kept (aL (aR b))⟩,rfl,rfl,Shared.asleep_of_life l z⟩
theorem H6{w:cW}{s₀:Χ}(e:(s₀.heap,s₀.gens,s₀.drawn,s₀.toks)=(c9 w.params,jn [],gW,jr))(z:s₀.asleep):
 ∃s₁,TopRan pw w s₀ s₁/\s₁.heap=HF w.params/\s₁.gens=#[]/\s₁.asleep:=by
 rw[BL e] at z⊢
 exact Ek z
end J.Internal
local macro_rules | `(tactic| omega) => `(tactic| lia)
namespace J.Internal
open P
variable [Key]
inductive Slot where
 |v (k:Int)|x (key:Nat) (k:Int)|u (key:Nat) (k:Int)|g (k:Int)|c (n:Int)|b|z
inductive Od where
 |i (x:Int)|ts (l:List Int)
noncomputable def Od.dv:Od->D
 | .i x=>.int x
 | .ts l=>.tup<|l.map .int
abbrev Pa:=List<|Int×Nat
structure d_ where
 op:Int
 n:Od
 st:List Slot
 pa:Pa
noncomputable def d_.dv(i:d_):D:=.lst [.int i.op,i.n.dv]
structure Row where
 kind:Int
 lid:Nat
 wh:Option Nat
 b:D
structure Cl where
 sort:Int
 t0:Int
 t1:Int
 h0:Int
 h1:Int
 ex:Int
 rt:Int
 rh:Int
 up:Pa
 row:Option Row
noncomputable def Cl.dv(c:Cl):D:=.tup [.int c.sort,.int c.t0,.int c.t1,.int c.h0,.int c.h1,.int c.ex]
structure Lb where
 l:Int
 s:List Slot
 p:Pa
structure St where
 ok:Prop
 code:List d_
 ϙ:List (Int×Int)
 made:Int
 locals:List Int
 ϳ:List (Int×Int)
 clauses:List Cl
 pa:Pa
 rc:Int
 d9:List (Int×List Int)
 bZ:Option Int
 fJ:Int
 cur:List Slot
 lg:List Lb
 nt:List (Int×Int)
noncomputable def St.regions(st:St):List Int:=st.pa.map Ϣ
noncomputable def oi:Option Int->V
 |some i=>.int i
 |none=>.none
noncomputable def iv(l:List (Int×Int)):List (Int×V):=l.map λx=>(x.1,.int x.2)
noncomputable def pv(l:List (Int×List Int)):List (Int×V):=l.map λx=>(x.1,.tup<|x.2.map .int)
noncomputable def Yp(st:St):List (Nat×V):=[(58,.ins 5 14),(37,.ins 18 0),(57,.ins 0 1),(56,.ins 4 23),(55,.obj 40),(54,.obj 41),(53,.int st.made),(52,.obj 42),(51,.obj 43),(50,.obj 44),(49,.obj 45),
 (48,.obj 46),(47,.obj 47),(46,.int st.rc),(45,.obj 48),(44,oi st.bZ),(43,.int st.fJ),(42,.obj 49),(41,.obj 50),(40,.obj 51),(39,.obj 52),(38,.obj 53)]
noncomputable def kinds:List D:=([0,9,1,7,13,16,17,12,16,19,17,18,1,18]).map .int
noncomputable def kd(lid:Nat):Int:=([0,9,1,7,13,16,17,12,16,19,17,18,1,18]).getD lid 0
noncomputable def qZ:List D:=(ϗ 16).map (λk=>.tup [.int 1,.int k])++[.tup [.int 2,.int 70,.tup []],.tup [.int 7,.int 0],.tup [.int 6,.int 0],.tup [.int 2,.int 71,.tup []]]
noncomputable def Yo:List (List D×V):=((ϗ 16).map λk=>([.int 1,.int k],.int k))++[([.int 2,.int 70,.tup []],.int 16),([.int 7,.int 0],.int 17),([.int 6,.int 0],.int 18),([.int 2,.int 71,.tup []],.int 19)]
noncomputable def lG(i:Nat):PO:=.at [(18,.int i),(17,.d<|.str 82),(16,.int<|kd i),(15,.int 0),(14,.int 1),(13,.int<|-1),(12,.int 0)]
structure Fx where
 g:Bool
 r:List D
 lb:Int
noncomputable def We(q:Fx):PO:=.ds [(74,.obj 12),(54,.int q.lb),(75,.tup kinds),(76,.int (if q.g then 1 else 0))]
noncomputable def pre(q:Fx):List PO:=[.at [(57,.ins 0 1),(73,.obj 7),(72,.obj 8),(71,.obj 9),(70,.obj 10),(69,.obj 11),(68,.int 0)],
 .at [(5,.obj 2),(4,.obj 3),(3,.obj 4),(2,.obj 5),(0,.obj 6)],.list qZ,.dt Yo,.list<|Ω 20<|.int 1,.list<|Ω 20<|.int 1,.list<|Ω 17 (.int 0)++[.int 1,.int 1,.int 0],
 .vl [.none],.vl [.none],.vl [.none],.di [],.list [],.list q.r,We q,
 .at [(37,.ins 18 0),(36,.int 0),(35,.obj 15),(34,.obj 16),(33,.obj 17),(32,.ins 2 18),(31,.obj 20),(30,.obj 21),(29,.obj 22)],
 .vl [.none,.ins 4 23],.vl [.none,.ins 3 26,.ins 3 27,.ins 3 28,.ins 3 29,.ins 3 30,.ins 3 31,.ins 3 32,.ins 3 33,.ins 3 34,.ins 3 35,.ins 3 36,.ins 3 37,.ins 3 38],.di [],.at [(5,.obj 19)],.list [],.di [],.di [],.di [],
 .at [(28,.int 1),(27,.int 0),(26,.obj 24),(25,.obj 25),(24,.int<|-1),(9,.int (if q.g then 13 else 0)),(23,.none),(22,.int 0),(21,.int 0),(20,.int<|-1),(19,.int 0)],
 .list [.int 1,.int 2,.int 3,.int 4,.int 5,.int 6,.int 7,.int 8,.int 9,.int 10,.int 11,.int 12,.int 13],.list [],
 lG 1,lG 2,lG 3,lG 4,lG 5,lG 6,lG 7,lG 8,lG 9,lG 10,lG 11,lG 12,lG 13]
noncomputable def Wc(q:Fx)(p:Prop)(a:List (Nat×V))(c:List D)(l:List (Int×V))(lo:List D)(o:List (Int×V))(cl r:List D)(ro:List (Int×V))(s:List PO):Hp:=
 ⟨p,pre q++ .at a:: .list c:: .di l:: .list lo:: .di o:: .di [(12,.int 0)]:: .di []:: .list cl:: .list r:: .di ro::
 .di [(2,.ins 17 54)]:: .di []:: .di []:: .di []:: .di [(1,.ins 7 55),(3,.ins 8 56),(18,.ins 9 57),(20,.ins 10 58),(21,.ins 11 59),(22,.ins 12 60),(23,.ins 13 61),(12,.ins 14 62),(13,.ins 15 63),(14,.ins 16 64)]::
 .at []:: .at []:: .at []:: .at []:: .at []:: .at []:: .at []:: .at []:: .at []:: .at []:: .at []::s⟩
noncomputable def W(q:Fx)(st:St)(s:List PO):Hp:=Wc q st.ok (Yp st) (st.code.map d_.dv) (iv st.ϙ) (st.locals.map .int) (iv st.ϳ) (st.clauses.map Cl.dv) (st.regions.map .int) (pv st.d9) s
abbrev em:V:=.ins 6 39
section
variable{q:Fx}{st:St}{s:List PO}{R:Type}{K:KV R}{u:Bool}{X:Cx}{n:Nat}{Μ:List Int}
@[simp high] theorem lenW:(W q st s).c.length=s.length+65:=rfl
@[simp high] theorem cut_:(W q st s).cut (s.length+65)=W q st s:=by
 show(⟨_,Uw _ _⟩:Hp)=_
 rw[<-lenW,aY]
theorem sJ{α β:Type}{f:α->β}{l:List α}{a:α}:l.map f++[f a]=(l++[a]).map f:=by rw[Ξ];rfl
noncomputable def St.ϴ(st:St)(p:Prop):St:={st with ok:=st.ok/\p}
@[simp high] theorem chkW{p:Prop}:(W q st s).ϴ p=W q (st.ϴ p) s:=rfl
theorem zE{p:Prop}(h:p):st.ϴ p=st:=by
 unfold St.ϴ
 rw[eq_true h,and_true]
@[simp high] theorem g2:(W q st s).get 2= .list qZ:=rfl
@[simp high] theorem g16:(W q st s).get 16= .vl [.none,.ins 3 26,.ins 3 27,.ins 3 28,.ins 3 29,.ins 3 30,.ins 3 31,.ins 3 32,.ins 3 33,.ins 3 34,.ins 3 35,.ins 3 36,.ins 3 37,.ins 3 38]:=rfl
@[simp high] theorem g40:(W q st s).get 40= .list (st.code.map d_.dv):=rfl
@[simp high] theorem g41:(W q st s).get 41= .di (iv st.ϙ):=rfl
@[simp high] theorem g44:(W q st s).get 44= .di [(12,.int 0)]:=rfl
@[simp high] theorem g47:(W q st s).get 47= .list (st.regions.map .int):=rfl
@[simp high] theorem ixv{K:KV R}{v w:V}{H:Hp}{l:List V}:xN v K w H (.vl l)=ob (ϩ H v w) (qv H K):=rfl
@[simp high] theorem aUnit:ϸ (W q st s) 58 em=some (.ins 5 14):=rfl
@[simp high] theorem aStore:ϸ (W q st s) 37 em=some (.ins 18 0):=rfl
@[simp high] theorem aKt:ϸ (W q st s) 57 em=some (.ins 0 1):=rfl
@[simp high] theorem aFn:ϸ (W q st s) 56 em=some (.ins 4 23):=rfl
@[simp high] theorem aCode:ϸ (W q st s) 55 em=some (.obj 40):=rfl
@[simp high] theorem aLabels:ϸ (W q st s) 54 em=some (.obj 41):=rfl
@[simp high] theorem aMade:ϸ (W q st s) 53 em=some (.int st.made):=rfl
@[simp high] theorem aLocals:ϸ (W q st s) 52 em=some (.obj 42):=rfl
@[simp high] theorem aOfLid:ϸ (W q st s) 51 em=some (.obj 43):=rfl
@[simp high] theorem aArgs:ϸ (W q st s) 50 em=some (.obj 44):=rfl
@[simp high] theorem aFree:ϸ (W q st s) 49 em=some (.obj 45):=rfl
@[simp high] theorem aClauses:ϸ (W q st s) 48 em=some (.obj 46):=rfl
@[simp high] theorem aRegions:ϸ (W q st s) 47 em=some (.obj 47):=rfl
@[simp high] theorem aRc:ϸ (W q st s) 46 em=some (.int st.rc):=rfl
@[simp high] theorem aRol:ϸ (W q st s) 45 em=some (.obj 48):=rfl
@[simp high] theorem aRetL:ϸ (W q st s) 44 em=some (oi st.bZ):=rfl
@[simp high] theorem aRetP:ϸ (W q st s) 43 em=some (.int st.fJ):=rfl
@[simp high] theorem aExprs:ϸ (W q st s) 42 em=some (.obj 49):=rfl
@[simp high] theorem aEffects:ϸ (W q st s) 41 em=some (.obj 50):=rfl
@[simp high] theorem aJumps:ϸ (W q st s) 39 em=some (.obj 52):=rfl
@[simp high] theorem aStmts:ϸ (W q st s) 38 em=some (.obj 53):=rfl
@[simp high] theorem mIns:resolve (W q st s) 60 em=some (.fn 28 em):=rfl
@[simp high] theorem mMark:resolve (W q st s) 63 em=some (.fn 29 em):=rfl
@[simp high] theorem mNl:resolve (W q st s) 64 em=some (.fn 30 em):=rfl
@[simp high] theorem mTemp:resolve (W q st s) 66 em=some (.fn 31 em):=rfl
@[simp high] theorem mExpr:resolve (W q st s) 65 em=some (.fn 32 em):=rfl
@[simp high] theorem mEffect:resolve (W q st s) 61 em=some (.fn 33 em):=rfl
@[simp high] theorem mStmt:resolve (W q st s) 62 em=some (.fn 34 em):=rfl
noncomputable def St.add(st:St)(op:Int)(n:Od)(nx:List Slot):St:={st with code:=st.code++[⟨op,n,st.cur,st.pa⟩],cur:=nx,ok:=st.ok/\st.code.length<big}
@[simp high] theorem rCode:resolve (W q st s) 1 (.obj 40)=some (.cell 40):=rfl
theorem runCode{op:Int}{n:Od}{d:D}(nx:List Slot)(h: .lst [.int op,n.dv]=d):runC u (W q st s) 40 1 [.d d] K=K .none (W q (st.add op n nx) s):=by
 subst h
 refine(ϥ _).trans ?_
 show K .none (Wc q (_/\(st.code.map d_.dv).length<big) _ (st.code.map d_.dv++[d_.dv ⟨op,n,st.cur,st.pa⟩]) _ _ _ _ _ _ s)=_
 rw[sJ,ς];rfl
theorem IT{op:Int}{w:D}(m:Od)(nx:List Slot)(h:m.dv=w):un (Β Μ (n+1) false 28 [em,.int op,.d w]<|W q st s) K=K (.none) (W q (st.add op m nx) s):=go rfl rfl (by simp[runCode nx<|congrArg (λx=>D.lst [.int op,x]) h])
theorem fV(op:Int)(nx:List Slot){x:Int}:un (Β Μ (n+1) false 28 [em,.int op,.int x]<|W q st s) K=K (.none) (W q (st.add op (.i x) nx) s):=IT _ nx rfl
theorem Yg(op:Int)(nx:List Slot){x:List Int}:un (Β Μ (n+1) false 28 [em,.int op,.tup<|x.map .int]<|W q st s) K=K (.none) (W q (st.add op (.ts x) nx) s):=IT _ nx rfl
noncomputable def lk{β:Type}(k:Int):List (Int×β)->Option β
 |[]=>none
 |(a,v)::r=>if a=k then some v else lk k r
theorem uV{β:Type}(f:β->V)(k:Int)(l:List (Int×β)):look k (l.map λx=>(x.1,f x.2))=(lk k l).map f:=by
 induction l with
 |nil=>rfl
 |cons a l ih=>
  show(if a.1=k then some (f a.2) else look k (l.map λx=>(x.1,f x.2)))=(if a.1=k then some a.2 else lk k l).map f
  split
  ·rfl
  ·exact ih
@[simp high] theorem look_iv{l:List (Int×Int)}{k:Int}:look k (iv l)=(lk k l).map .int:=uV .int k l
@[simp high] theorem look_pv{l:List (Int×List Int)}{k:Int}:look k (pv l)=(lk k l).map λx=>.tup (x.map .int):=uV (λx:List Int=>.tup<|x.map .int) k l
theorem xR{β:Type}{f:β->V}{l:List (Int×β)}{k:Int}{p:Prop}{n:Nat}:(((p/\lk k l=none)/\(l.map λx=>(x.1,f x.2)).length<n/\(lk k l).map f=none)=(p/\l.length<n/\lk k l=none))/\(((l.map λx=>(x.1,f x.2)).length<n/\(lk k l).map f=none)=(l.length<n/\lk k l=none)):=by
 rw[ς]
 cases lk k l<;>simp
noncomputable def St.mark(st:St)(l:Int):St:={st with ϙ:=st.ϙ++[(l,(st.code.length:Int))],lg:=st.lg++[⟨l,st.cur,st.pa⟩],ok:=st.ok/\st.ϙ.length<big/\lk l st.ϙ=none}
@[simp high] theorem gLabels{i:Int}:isIn (W q st s) (.int i) (.obj 41)=some (look i<|iv st.ϙ).isSome:=rfl
@[simp high] theorem lenCode:builtin 0 (.obj 40) (W q st s) K=K (.int st.code.length) (W q st s):=by
 refine(ϥ _).trans ?_
 show K (.int<|(st.code.map d_.dv).length) _=_
 rw[ς]
theorem AN{l:Int}:bF u (W q (st.ϴ<|lk l st.ϙ=none) s) (.obj 41) (.int l) (.int st.code.length)=some (W q (st.mark l) s):=by
 refine(ϥ _).trans ?_
 show some (Wc q ((st.ok/\lk l st.ϙ=none)/\(st.ϙ.map λx=>(x.1,V.int x.2)).length<big/\look l (iv st.ϙ)=none) _ _ ((st.ϙ.map λx=>(x.1,V.int x.2))++[_]) _ _ _ _ _ s)=_
 rw[look_iv,xR.1]
 exact congrArg (λz=>some<|Wc q _ _ _ z _ _ _ _ _ s)<|sJ (a:=(l,(st.code.length:Int)))
@[simp high] theorem chkCode{p:Prop}:(st.ϴ p).code=st.code:=rfl
@[simp high] theorem chkLabels{p:Prop}:(st.ϴ p).ϙ=st.ϙ:=rfl
theorem fj{l:Int}:un (Β Μ (n+1) false 29 [em,.int l]<|W q st s) K=K (.none) (W q (st.mark l) s):=go rfl rfl (by simp[Pz,AN])
noncomputable def St.nl(st:St)(x:List Slot)(p:Pa):St:={st with made:=st.made-1,lg:=st.lg++[⟨st.made-1,x,p⟩]}
theorem HD(x:List Slot)(p:Pa):setattr u (W q st s) 53 (.int<|st.made-1) em=some (W q (st.nl x p) s):=rfl
@[simp high] theorem nlMade{x:List Slot}{p:Pa}:(st.nl x p).made=st.made-1:=rfl
theorem KJ(x:List Slot)(p:Pa):un (Β Μ (n+1) false 30 [em]<|W q st s) K=K (.int<|st.made-1) (W q (st.nl x p) s):=go rfl rfl (by simp[HD x p])
theorem ou(x:List Slot):un (Β Μ (n+1) false 30 [em]<|W q st s) K=K (.int<|st.made-1) (W q (st.nl x st.pa) s):=KJ x st.pa
noncomputable def pW(k:Int):Bool:=k==17||k==18
noncomputable def mF(k:Nat):Int:=if k<16 then 1 else if k=17 then 7 else if k=18 then 6 else 2
noncomputable def MQ(k:Nat):List D:=match qZ[k]? with
 |some (.tup<|_::r)=>r
 |_=>[]
theorem rowAt: ∀k,k<20->qZ[k]? =some (.tup<|.int (mF k)::MQ k)
 |0,_=>rfl|1,_=>rfl|2,_=>rfl|3,_=>rfl|4,_=>rfl|5,_=>rfl|6,_=>rfl|7,_=>rfl|8,_=>rfl|9,_=>rfl|10,_=>rfl|11,_=>rfl|12,_=>rfl|13,_=>rfl|14,_=>rfl|15,_=>rfl|16,_=>rfl|17,_=>rfl|18,_=>rfl|19,_=>rfl
 |k+20,h=>absurd h<|of_decide_eq_false rfl
theorem Q4: ∀k:Nat,k<20->pW k=(mF k==6||mF k==7):=by decide+kernel
@[simp high] theorem aRows:ϸ (W q st s) 5 (.ins 0 1)=some (.obj 2):=rfl
@[simp high] theorem mRow:resolve (W q st s) 8 (.ins 0 1)=some (.fn 1<|.ins 0 1):=rfl
@[simp high] theorem lenRows:builtin 0 (.obj 2) (W q st s) K=K (.int 20) (W q st s):=ϥ _
theorem Wi{k:Nat}(h:k<20){H:Hp}:gE qZ k K H=K (.tup (.int (mF k)::MQ k)) H:=l_ (by
 unfold at?
 rw[if_pos (Ϧ k),ϡ,rowAt k h])
@[simp high] theorem ixT0{H:Hp}{x:D}{l:List D}:ϩ H (.tup<|x::l) (.int 0)=some (.d x):=rfl
@[simp high] theorem ixT1{H:Hp}{x y:D}{l:List D}:ϩ H (.tup<|x::y::l) (.int 1)=some (.d y):=rfl
@[simp high] theorem ixT2{H:Hp}{x y z:D}{l:List D}:ϩ H (.tup<|x::y::z::l) (.int 2)=some (.d z):=rfl
@[simp high] theorem ixT3{H:Hp}{x y z w:D}{l:List D}:ϩ H (.tup<|x::y::z::w::l) (.int 3)=some (.d w):=rfl
@[simp high] theorem ixM0{H:Hp}{x:D}{l:List D}:ϩ H (.lst<|x::l) (.int 0)=some (.d x):=rfl
@[simp high] theorem ixM1{H:Hp}{x y:D}{l:List D}:ϩ H (.lst<|x::y::l) (.int 1)=some (.d y):=rfl
theorem oq{k:Int}(h0:0<=k)(hk:k<20):un (Β Μ (n+2) false 12 [.ins 0 1,.int k]<|W q st s) K=K (.bool<|pW k) (W q st s):=by
 refine(aS h0).elim λk e_1=>?_
 subst e_1
 have hk:k<20:=by omega
 refine go rfl rfl ?_
 have e1:Β Μ (n+1) false 1 [.ins 0 1,.int k] (W q st s)=some (.tup<|.int (mF k)::MQ k,W q st s):=by rw[ja rfl rfl];simp[Wi hk,show¬(k:Int)<0 by omega,show¬20<=(k:Int) by omega]
 rw[Q4 k hk]
 cases h:mF k==6<;>simp[uc e1,h]
noncomputable def St.lo(st:St)(lid:Nat):Int:=(lk lid st.ϳ).getD st.locals.length
noncomputable def St.Bd(st:St)(kd:Int):St:={st with locals:=st.locals++[kd],ok:=st.ok/\st.locals.length<big}
noncomputable def St.put(st:St)(lid:Nat)(v:Int):St:={st with ϳ:=st.ϳ++[((lid:Int),v)],ok:=st.ok/\st.ϳ.length<big/\lk lid st.ϳ=none}
noncomputable def St.loc(st:St)(lid:Nat):St:=match lk lid st.ϳ with
 |some _=>st
 |none=>(st.Bd<|kd lid).put lid st.locals.length
@[simp high] theorem lenTmp{k:Int}:((st.Bd k).locals.length:Int)-1=st.locals.length:=by simp[St.Bd]
@[simp high] theorem rOfLid:resolve (W q st s) 6 (.obj 43)=some (.cell 43):=rfl
@[simp high] theorem gOfLid{i:Int}:runC u (W q st s) 43 6 [.int i] K=K ((look i<|iv st.ϳ).getD .none) (W q st s):=rfl
@[simp high] theorem rLocals:resolve (W q st s) 1 (.obj 42)=some (.cell 42):=rfl
@[simp high] theorem appLocals{k:Int}:runC u (W q st s) 42 1 [.int k] K=K .none (W q (st.Bd k) s):=by
 refine(ϥ _).trans ?_
 show K .none (Wc q (_/\(st.locals.map D.int).length<big) _ _ _ (st.locals.map D.int++[.int k]) _ _ _ _ s)=_
 rw[sJ,ς];rfl
@[simp high] theorem lenLocals:builtin 0 (.obj 42) (W q st s) K=K (.int st.locals.length) (W q st s):=by
 refine(ϥ _).trans ?_
 show K (.int<|(st.locals.map D.int).length) _=_
 rw[ς]
theorem DY{lid:Nat}{v:Int}:bF u (W q st s) (.obj 43) (.int lid) (.int v)=some (W q (st.put lid v) s):=by
 refine(ϥ _).trans ?_
 show some (Wc q (st.ok/\(st.ϳ.map λx=>(x.1,V.int x.2)).length<big/\look _ (iv _)=none) _ _ _ _ ((st.ϳ.map λx=>(x.1,V.int x.2))++[_]) _ _ _ s)=_
 rw[look_iv,(xR (p:=True)).2]
 exact congrArg (λz=>some<|Wc q _ _ _ _ _ z _ _ _ s)<|sJ (a:=((lid:Int),v))
@[simp high] theorem aVars:ϸ (W q st s) 34 (.ins 5 14)=some (.obj 16):=rfl
theorem QL: ∀lid:Nat,1<=lid->lid<=13->ϩ (W q st s) (.obj 16) (.int lid)=some (.ins 3<|25+lid)/\ϸ (W q st s) 16 (.ins 3<|25+lid)=some (.int<|kd lid)
 |0,h,_=>absurd h<|Br.mp rfl
 |1,_,_=>⟨rfl,rfl⟩|2,_,_=>⟨rfl,rfl⟩|3,_,_=>⟨rfl,rfl⟩|4,_,_=>⟨rfl,rfl⟩|5,_,_=>⟨rfl,rfl⟩|6,_,_=>⟨rfl,rfl⟩|7,_,_=>⟨rfl,rfl⟩|8,_,_=>⟨rfl,rfl⟩|9,_,_=>⟨rfl,rfl⟩|10,_,_=>⟨rfl,rfl⟩|11,_,_=>⟨rfl,rfl⟩|12,_,_=>⟨rfl,rfl⟩|13,_,_=>⟨rfl,rfl⟩
 |k+14,_,h=>absurd h (by omega)
theorem ic{lid:Nat}(h1:1<=lid)(h2:lid<=13):un (Β Μ (n+1) false 40 [em,.int lid]<|W q st s) K=K (.int<|st.lo lid) (W q (st.loc lid) s):=by
 refine go rfl rfl ?_
 unfold St.lo St.loc
 induction h:lk lid st.ϳ with
 |some p=>simp[h]
 |none=>simp[h,(QL lid h1 h2).1,(QL lid h1 h2).2,DY]
noncomputable def St.rd(st:St)(lid:Nat):St:=if lid=12 then st.add 65033 (.i 0) [.v 1] else(st.loc lid).add 65036 (.i<|st.lo lid) [.v<|kd lid]
noncomputable def jy(lid:Nat):D:=.tup [.int 2,.int<|kd lid,.int lid]
@[simp high] theorem gArgs{lid:Int}:isIn (W q st s) (.int lid) (.obj 44)=some (look lid [(12,.int 0)]).isSome:=rfl
@[simp high] theorem iArgs:ϩ (W q st s) (.obj 44) (.int 12)=some (.int 0):=rfl
theorem RT{x:Int}:look x [(12,.int 0)]=if(12:Int)=x then some (.int 0) else none:=rfl
theorem uB{t lid:Nat}(h1:1<=lid)(h2:lid<=13):un (Β Μ (n+2) false 73 [.ins 17 t,em,.d<|jy lid]<|W q st s) K=K (.none) (W q (st.rd lid) s):=by
 refine go rfl rfl ?_
 unfold jy St.rd
 by_cases hl:lid=12
 ·subst hl
  have e:Β Μ (n+1) false 41 [em,.int 12] (W q (st.add 65033 (.i 0) [.v 1]) s)=some (.bool false,W q (st.add 65033 (.i 0) [.v 1]) s):=by
   rw[ja rfl rfl];exact congrArg (λx=>some (V.bool false,x)) cut_
  simp[RT,fV 65033 [.v 1],uc e]
 ·have e: ¬(12=(lid:Int)):=tH rfl rfl λa=>hl<|id<|OY a
  simp[hl,RT,e,ic h1 h2,fV 65036 [.v<|kd lid]]
@[simp high] theorem gExprs:runC u (W q st s) 49 6 [.int 2] K=K (.ins 17 54) (W q st s):=rfl
@[simp high] theorem rExprs:resolve (W q st s) 6 (.obj 49)=some (.cell 49):=rfl
@[simp high] theorem rEffects:resolve (W q st s) 6 (.obj 50)=some (.cell 50):=rfl
@[simp high] theorem gEffects{x:Int}:runC u (W q st s) 50 6 [.int x] K=K .none (W q st s):=rfl
@[simp high] theorem rJumps:resolve (W q st s) 6 (.obj 52)=some (.cell 52):=rfl
@[simp high] theorem gJumps{x:Int}:runC u (W q st s) 52 6 [.int x] K=K .none (W q st s):=rfl
@[simp high] theorem mLocal:resolve (W q st s) 59 (.ins 17 54)=some (.fn 73<|.ins 17 54):=rfl
@[simp high] theorem isE0{lid:Nat}:iw 0 (.d<|jy lid)=true:=rfl
@[simp high] theorem isE1{lid:Nat}:iw 1 (.d<|jy lid)=false:=rfl
@[simp high] theorem ixE0{H:Hp}{lid:Nat}:ϩ H (.d<|jy lid) (.int 0)=some (.int 2):=rfl
@[simp high] theorem ixE1{H:Hp}{lid:Nat}:ϩ H (.d<|jy lid) (.int 1)=some (.int<|kd lid):=rfl
@[simp high] theorem ixE2{H:Hp}{lid:Nat}:ϩ H (.d<|jy lid) (.int 2)=some (.int lid):=rfl
theorem i_{lid:Nat}(h1:1<=lid)(h2:lid<=13):un (Β Μ (n+3) false 36 [em,.d<|jy lid]<|W q st s) K=K (.none) (W q (st.rd lid) s):=go rfl rfl (by simp[uB h1 h2])
theorem j0{lid:Nat}(h1:1<=lid)(h2:lid<=13):un (Β Μ (n+4) false 32 [em,.d<|jy lid]<|W q st s) K=K (.none) (W q (st.rd lid) s):=go rfl rfl (by simp[i_ h1 h2])
@[simp high] theorem kd1:kd 1=9:=rfl
noncomputable def St.eff(st:St):St:=(st.rd 1).add 38 (.i 0) []
theorem BR:un (Β Μ (n+5) false 33 [em,.d<|jy 1]<|W q st s) K=K (.none) (W q (st.eff) s):=by
 have e:Β Μ (n+4) false 37 [em,.d<|jy 1] (W q st s)=some (.none,W q (st.eff) s):=by rw[ja rfl rfl];simp[i_,fV 38 [],St.eff]
 exact go rfl rfl (by simp[uc e])
noncomputable def St.jmp(st:St)(lid:Nat)(wh:Bool)(l:Int):St:=(st.rd lid).add (if wh then 58 else 57) (.i l) []
theorem KG{lid:Nat}{w l:Int}(h1:1<=lid)(h2:lid<=13):un (Β Μ (n+4) false 38 [em,.d<|jy lid,.int w,.int l]<|W q st s) K=K (.none) (W q (st.jmp lid (w !=0) l) s):=by
 refine go rfl rfl ?_
 cases e:(w !=0)<;>simp[St.jmp,e,i_ h1 h2,fV 57 [],fV 58 []]
noncomputable def St.box(st:St)(k:Int):St:=if pW k then st.add 140 (.i k) [.g k] else st
theorem PV{k:Int}(h0:0<=k)(hk:k<20):un (Β Μ (n+3) false 42 [em,.int k]<|W q st s) K=K (.none) (W q (st.box k) s):=by
 refine go rfl rfl ?_
 cases e:pW k<;>simp[St.box,oq h0 hk,e,fV 140 [.g k]]
noncomputable def St.nr(st:St):St:={st with rc:=st.rc+1}
noncomputable def St.pr(st:St)(r:Int)(k:Nat)(x:List Slot):St:={st with pa:=st.pa++[(r,k)],cur:=x,ok:=st.ok/\st.pa.length<big}
noncomputable def St.er(st:St)(k:Nat)(x:List Slot):St:=st.nr.pr (st.rc+1) k x
noncomputable def St.lr(st:St):St:={st with pa:=st.pa.dropLast,cur:=[],ok:=st.ok/\st.pa≠[]}
@[simp high] theorem setRc:setattr u (W q st s) 46 (.int<|st.rc+1) em=some (W q st.nr s):=rfl
@[simp high] theorem nrRc:st.nr.rc=st.rc+1:=rfl
@[simp high] theorem rRegions:resolve (W q st s) 1 (.obj 47)=some (.cell 47):=rfl
@[simp high] theorem rRegionsP:resolve (W q st s) 67 (.obj 47)=some (.cell 47):=rfl
theorem g_(k:Nat)(x:List Slot){r:Int}:runC u (W q st s) 47 1 [.int r] K=K .none (W q (st.pr r k x) s):=by
 refine(ϥ _).trans ?_
 show K .none (Wc q (_/\(st.regions.map D.int).length<big) _ _ _ _ _ _ (st.regions.map D.int++[.int r]) _ s)=K .none (Wc q (_/\_) _ _ _ _ _ _ (((st.pa++[(r,k)]).map Ϣ).map D.int) _ s)
 rw[show((st.pa++[(r,k)]).map Ϣ).map D.int=st.regions.map D.int++[.int r] by rw[Ξ,Ξ];rfl,ς]
 unfold St.regions
 rw[ς];rfl
@[simp high] theorem c_next_region:un (Β Μ (n+1) false 43 [em]<|W q st s) K=K (.int<|st.rc+1) (W q st.nr s):=go rfl rfl (by simp)
theorem wZ(k:Nat)(x:List Slot):un (Β Μ (n+2) false 58 [em]<|W q st s) K=K (.int st.code.length) (W q (st.er k x) s):=go rfl rfl (by simp[St.er,g_ k x];rfl)
@[simp high] theorem popRegions:runC u (W q st s) 47 67 [] K=K (.d<|(st.regions.map D.int).getLast?.getD .none) (W q st.lr s):=by
 refine(ϥ _).trans ?_
 show K _ (Wc q (_/\(st.regions.map D.int≠[])) _ _ _ _ _ _ (st.regions.map D.int).dropLast _ s)=K _ (Wc q (_/\(st.pa≠[])) _ _ _ _ _ _ ((st.pa.dropLast.map Ϣ).map D.int) _ s)
 unfold St.regions
 rw[A4,A4,show((st.pa.map Ϣ).map D.int≠[])=(st.pa≠[]) by simp];rfl
@[simp high] theorem erCode{k:Nat}{x:List Slot}:(st.er k x).code=st.code:=rfl
@[simp high] theorem lrCode:st.lr.code=st.code:=rfl
theorem bR:un (Β Μ (n+1) false 60 [em]<|W q st s) K=K (.int st.code.length) (W q st.lr s):=go rfl rfl (by simp)
abbrev Pt:=List<|Nat×Nat
theorem aa(m:Nat):Ϫ 0 m=(ϗ m).map λ(k:Nat)=>D.int (k:Int):=by
 unfold Ϫ
 simp
abbrev Body:=Env->Hp->KS (Fl×Env×Hp)->Option (Fl×Env×Hp)
abbrev rt:KS (Fl×Env×Hp):=λf e h=>some (f,e,h)
section
variable{σ α:Type}{body:Body}{k0:KS R}{t:E}{st:Option (Nat×PO)}
inductive FH(en:σ->Env)(hp:σ->Hp)(I:σ->Prop)(r:Option (Fl×Env×Hp)):Prop
 |mk (f:Fl) (s:σ):I s->(f= .next∨f= .cont)->r=some (f,en s,hp s)->FH en hp I r
inductive Ends(en:σ->Env)(hp:σ->Hp)(I:σ->Prop)(k:KS R)(r:Option R):Prop
 |mk (s:σ):I s->r=k .next (en s) (hp s)->Ends en hp I k r
noncomputable def turn(t:E)(body:Body)(x:D)(e:Env)(H:Hp):Option (Fl×Env×Hp):=ob (nZ t x e) λe=>body e H rt
noncomputable abbrev Vi(st:Option (Nat×PO))(t:E)(body:Body)(k0:KS R)(l:List D)(r:Option (Fl×Env×Hp)):Option R:=match r with
 |some (.next,e,h)=>forL st t body k0 l e h
 |some (.cont,e,h)=>forL st t body k0 l e h
 |some (.brk,e,h)=>k0 .next e h
 |some (.ret v,e,h)=>k0 (.ret v) e h
 |none=>none
theorem Jf{x:D}{l:List D}{e:Env}{H:Hp}:forL st t body k0 (x::l) e H=stay st H (Vi st t body k0 l<|turn t body x e H):=by
 refine congrArg (stay st H) ?_
 unfold turn
 induction nZ t x e<;>rfl
theorem qP{x:D}{l:List D}{e:Env}{H:Hp}{f:Fl}{e2:Env}{H2:Hp}(h:turn t body x e H=some (f,e2,H2))(hf:f= .next∨f= .cont):forL st t body k0 (x::l) e H=stay st H (forL st t body k0 l e2 H2):=
 Jf.trans (h▸hf.elim (λe=>e▸rfl) λe=>e▸rfl)
variable{en:σ->Env}{hp:σ->Hp}
theorem gy{f:α->D}(I:List α->σ->Prop)(h0: ∀l s,I l s->∀x:Option R,stay st (hp s) x=x)(hs: ∀x l s,I (x::l) s->FH en hp (I l) (turn t body (f x) (en s)<|hp s))(l:List α): ∀s,I l s->Ends en hp (I []) k0 (lq t body (en s) k0 (l.map f) st<|hp s):=by
 have main: ∀s,I l s->Ends en hp (I []) k0 (forL st t body k0 (l.map f) (en s)<|hp s):=by
  induction l with
  |nil=>exact λs h=>⟨s,h,h0 _ _ h _⟩
  |cons x l ih=>exact λs h=>(hs x l s h).casesOn λf s2 h2 hf e=>(ih s2 h2).casesOn λs3 h3 e3=>⟨s3,h3,(qP e hf).trans<|(h0 _ _ h _).trans e3⟩
 exact λs h=>(main s h).casesOn λs2 h2 e=>⟨s2,h2,(ϥ _).trans e⟩
theorem Cz(I:List D->σ->Prop)(h0: ∀l s,I l s->∀x:Option R,stay st (hp s) x=x)(hs: ∀x l s,I (x::l) s->FH en hp (I l) (turn t body x (en s)<|hp s))(l:List D)(s:σ)(h:I l s):Ends en hp (I []) k0 (lq t body (en s) k0 l st<|hp s):=by
 have:=gy (k0:=k0) (f:=λx:D=>x) I h0 hs l s h
 rwa [J9] at this
theorem Jd{f:Nat->D}(I:Nat->σ->Prop){m:Nat}(h0: ∀i s,I i s->∀x:Option R,stay st (hp s) x=x)(hs: ∀i s,i<m->I i s->FH en hp (I<|i+1) (turn t body (f i) (en s)<|hp s)): ∀d i s,i+d=m->I i s->Ends en hp (I m) k0 (lq t body (en s) k0 ((nv i d).map f) st<|hp s):=by
 have main: ∀d i s,i+d=m->I i s->Ends en hp (I m) k0 (forL st t body k0 ((nv i d).map f) (en s)<|hp s):=by
  intro d
  induction d with
  |zero=>exact λi s e h=>e▸⟨s,h,h0 _ _ h _⟩
  |succ d ih=>exact λi s e h=>(hs i s (e▸dB (cT d)) h).casesOn λf s2 h2 hf e2=>(ih (i+1) s2 ((Nat.succ_add i d).trans e) h2).casesOn λs3 h3 e3=>⟨s3,h3,(qP e2 hf).trans<|(h0 _ _ h _).trans e3⟩
 exact λd i s e h=>(main d i s e h).casesOn λs2 h2 e=>⟨s2,h2,(ϥ _).trans e⟩
theorem QH(I:Nat->σ->Prop){m:Nat}(h0: ∀i s,I i s->∀x:Option R,stay st (hp s) x=x)(hs: ∀i s,i<m->I i s->FH en hp (I<|i+1) (turn t body (.int (i:Nat)) (en s)<|hp s))(s:σ)(h:I 0 s):Ends en hp (I m) k0 (lq t body (en s) k0 (Ϫ 0 m) st<|hp s):=by
 rw[aa,jF]
 exact Jd I h0 hs m 0 s (aP m) h
theorem QG{j:Nat}{o:PO}{H:Hp}{r:Option R}{l:List D}(P:D->Bool)(hc:H.c[j]? =some o)(hn: ∀x∈l,P x=false->∀w,∃w',turn t body x (en w) H=some (.next,en w',H))(hh: ∀x∈l,P x=true->∀w m,Vi (some (j,o)) t body k0 m (turn t body x (en w) H)=r)(hd:l.any P=false->∀w,k0 .next (en w) H=r)(w:σ):lq t body (en w) k0 l (some (j,o)) H=r:=by
 refine(ϥ _).trans ?_
 revert w
 induction l with
 |nil=>exact λw=>(if_pos hc).trans<|hd rfl w
 |cons x l ih=>
  induction h:P x with
  |true=>exact λw=>Jf.trans<|(if_pos hc).trans<|hh x (.head _) h w l
  |false=>exact λw=>(hn x (.head _) h w).elim λw' e=>(qP e<|.inl rfl).trans<|(if_pos hc).trans<|ih (λy m=>hn y<|.tail _ m) (λy m=>hh y<|.tail _ m) (λq=>hd (by rw[kC,h,q];rfl)) w'
theorem yJ{r:Option R}{H:Hp}{l:List D}(hs: ∀x∈l,∀w,∃w',turn t body x (en w) H=some (.next,en w',H))(hd: ∀w,k0 .next (en w) H=r)(w:σ):lq t body (en w) k0 l none H=r:=by
 refine(ϥ _).trans ?_
 revert w
 induction l with
 |nil=>exact hd
 |cons x l ih=>exact λw=>(hs x (.head _) w).elim λw' e=>(qP e<|.inl rfl).trans<|ih (λy m=>hs y<|.tail _ m) w'
theorem mV{m:Nat}{x:D}(h:x∈Ϫ 0 m): ∃p:Nat,p<m/\x= .int p:=by
 rw[aa] at h
 exact(Ϗ.mp h).imp λp h=>⟨ϭ.mp h.1,h.2.symm⟩
theorem Cr{n:Nat}{env:Env}{x:D}:rY n 0 env x=some ((env++Ω n none).set env.length<|some<|.d x):=rfl
theorem bT{body:Body}{x:D}{e:Env}{H:Hp}:turn (L n) body x e H=body (e.set n<|some<|.d x) H rt:=rfl
theorem Eu{body:Body}{x:List D}{e:Env}{t:E}{H:Hp}:turn (Tu t) body (.tup x) e H=ob (eE t x e) λe=>body e H rt:=rfl
end
theorem Jc{k0:Option (Nat×PO)}{t:E}{body:Body}{k:KS R}{r:Option R}(I:List D->Env->Hp->Prop)(h0: ∀l e H,I l e H->∀x:Option R,stay k0 H x=x)(hs: ∀x l e H,I (x::l) e H->∃e1 e2 H2 f,nZ t x e=some e1/\body e1 H rt=some (f,e2,H2)/\(f= .next∨f= .cont)/\I l e2 H2)(hd: ∀e H,I [] e H->k .next e H=r):
 ∀(l:List D)(e:Env)(H:Hp),I l e H->forL k0 t body k l e H=r
 |[],e,H,h=>(h0 _ _ _ h _).trans<|hd e H h
 |x::l,e,H,h=>by
  obtain⟨e1,e2,H2,f,a,b,f1,c⟩:=hs x l e H h
  refine((h0 _ _ _ h _).trans ?_).trans<|Jc I h0 hs hd l e2 H2 c
  show(ob (nZ t x e) λenv1=>match body env1 H rt with
   |some (.next,e,h)=>forL k0 t body k l e h
   |some (.cont,e,h)=>forL k0 t body k l e h
   |some (.brk,e,h)=>k .next e h
   |some (.ret v,e,h)=>k (.ret v) e h
   |none=>none)=_
  rw[a,ob_,b]
  rcases f1 with rfl|rfl<;>rfl
@[simp high] theorem lenRegions:builtin 0 (.obj 47) (W q st s) K=K (.int st.regions.length) (W q st s):=by
 refine(ϥ _).trans ?_
 show K (.int<|(st.regions.map D.int).length) _=_
 rw[ς]
@[simp high] theorem ixTI{H:Hp}{l:List D}{k:Nat}:ϩ H (.tup l) (.int (k:Int))=l[k]?.map .d:=by
 show(if 0<=(k:Int) then l[(k:Int).toNat]? else _).map V.d=_
 rw[if_pos<|Ϧ k,ϡ]
theorem cP{α:Type}{l:List α}{k:Nat}:at? l (k:Int)=l[k]? :=by
 unfold at?
 rw[if_pos<|Ϧ k,ϡ]
theorem Yt{k0:Option (Nat×PO)}{t:E}{body:Body}{k:KS R}{r:Option R}{l:List D}{e:Env}{H:Hp}(I:List D->Env->Hp->Prop)(h:I l e H)(h0: ∀l e H,I l e H->∀x:Option R,stay k0 H x=x)(hs: ∀x l e H,I (x::l) e H->∃e1 e2 H2 f,nZ t x e=some e1/\body e1 H rt=some (f,e2,H2)/\(f= .next∨f= .cont)/\I l e2 H2)(hd: ∀e H,I [] e H->k .next e H=r):lq t body e k l k0 H=r:=
 (ϥ _).trans (Jc I h0 hs hd l e H h)
theorem rU{p p':Prop}:(st.ϴ p).ϴ p'=st.ϴ (p/\p'):=by
 unfold St.ϴ
 rw[and_assoc]
theorem Gg{p p':Prop}(h:p↔p'):W q (st.ϴ p) s=W q (st.ϴ p') s:=by rw[propext h]
theorem Wo{l:List D}{i:Int}{H:Hp}(h:at? l i=none):gE l i K H=K .none (H.ϴ False):=by unfold gE;rw[h];exact ϥ _
@[simp high] theorem chkRegions{p:Prop}:(st.ϴ p).regions=st.regions:=rfl
@[simp high] theorem eqDN{a:Int}:iL (.int a) .none=some false:=rfl
theorem HX{p l:List Int}{i:Nat}{x:Int}(h:p[i]? =some x):p.take (i+1)=l.take (i+1)↔p.take i=l.take i/\l[i]? =some x:=by
 refine⟨λe=>⟨?_,?_⟩,λe=>?_⟩
 ·have:=congrArg (Uw i) e
  rwa [FA,FA,FD<|ϰ i] at this
 ·have:=congrArg (·[i]?) e
  exact(((cZ<|ϝ i).symm.trans this.symm).trans<|cZ<|ϝ i).trans h
 ·rw[dR,dR,e.1,e.2,h]
theorem jN{p:List Int}:un (Β Μ (n+1) false 44 [.tup<|p.map .int,.obj 47]<|W q st s) K=K (.bool true) (W q (st.ϴ (p<+:st.regions)) s):=by
 refine go rfl rfl ?_
 simp[Pz]
 rw[show W q (st.ϴ<|p.length<=st.regions.length) s=W q (st.ϴ<|p.length<=st.regions.length/\p.take 0=st.regions.take 0) s from Gg ⟨λh=>⟨h,rfl⟩,And.left⟩]
 refine(QH (σ:=Option V×Nat) (en:=λx=>[some<|.tup<|p.map .int,some<|.obj 47,x.1]) (hp:=λx=>W q (st.ϴ<|p.length<=st.regions.length/\p.take x.2=st.regions.take x.2) s) (λi x=>x.2=i) (λ_ _ _ _=>rfl) (λi x hi e=>?_) (none,0) rfl).casesOn λx e h=>h.trans ?_
 ·subst e
  have hx:=ϊ hi
  refine⟨.next,(some<|.int x.2,x.2+1),rfl,.inl rfl,(dg ?_ (congrArg (λH=>some (Fl.next,[some<|V.tup<|p.map .int,some<|V.obj 47,some<|V.int x.2],H))<|Gg ((and_congr_right'<|HX hx).trans and_assoc.symm).symm))⟩
  rw[bT]
  generalize(p.length<=st.regions.length/\p.take x.2=st.regions.take x.2)=A
  induction hr:st.regions[x.2]? with
  |none=>
   simp[hx,Wo (l:=st.regions.map D.int) (by rw[cP,ϒ,hr];rfl),Pz,rU]
  |some y=>
   simp[hx,l_ (x:=.int y) (by rw[cP,ϒ,hr];rfl),Pz,rU]
   exact Gg<|and_congr_right' eq_comm
 ·simp
  exact e.symm▸Gg ⟨λh=>g7.mpr<|(aY).symm.trans h.2,λh=>⟨h.length_le,aY.trans<|g7.mp h⟩⟩
noncomputable def St.path(st:St)(l:Int):List Int:=(lk l st.d9).getD []
noncomputable def St.same(st:St)(l:Int):Bool:=(st.path l).length==st.regions.length
noncomputable def St.pb(st:St)(l:Int):St:=st.ϴ (st.path l<+:st.regions)
noncomputable def St.sm(st:St)(l:Int):St:=if st.same l then st.pb l else st
@[simp high] theorem rRol:resolve (W q st s) 6 (.obj 48)=some (.cell 48):=rfl
@[simp high] theorem gRol{l:Int}:runC u (W q st s) 48 6 [.int l,.tup []] K=K (.tup<|(st.path l).map .int) (W q st s):=by
 show K ((look l<|pv st.d9).getD<|.tup []) _=_
 rw[look_pv];unfold St.path;cases lk l st.d9<;>rfl
theorem yS{a b:Nat}:((a:Int)==(b:Int))=(a==b):=by
 rw[fD,beq_iff_eq,beq_iff_eq];exact aO
theorem w7{l:Int}:un (Β Μ (n+2) false 46 [em,.int l]<|W q st s) K=K (.bool<|st.same l) (W q (st.sm l) s):=by
 refine go rfl rfl ?_
 cases e:(st.path l).length==st.regions.length<;>simp[St.sm,St.same,St.pb,yS,e,jN]
noncomputable def St.goto(st:St)(l:Int):St:=(st.pb l).add (if st.same l then 56 else 221) (.i l) []
theorem w4{l:Int}:un (Β Μ (n+2) false 45 [em,.int l]<|W q st s) K=K (.none) (W q (st.goto l) s):=by
 refine go rfl rfl ?_
 cases e:(st.path l).length==st.regions.length<;>simp[St.goto,St.same,St.pb,yS,e,jN,fV 56 [],fV 221 []]
@[simp high] theorem iLabels:iy (W q st s) (.obj 41)=some ((iv st.ϙ).map λe=>.int e.1,some (41,.di<|iv st.ϙ)):=rfl
@[simp high] theorem xLabels{l:Int}:ϩ (W q st s) (.obj 41) (.int l)=look l (iv st.ϙ):=rfl
noncomputable def St.pend(st:St):Bool:=st.ϙ.any λx=>lk x.1 st.ϙ==some (st.code.length:Int)
noncomputable def St.As(st:St):St:=if st.pend then st.add 0 (.i 0) [] else st
noncomputable def St.et(st:St):St:=st.As.er 0 []
theorem Mi{β:Type}{x:Int×β}{l:List (Int×β)}(m:x∈l): ∃v,lk x.1 l=some v:=by
 induction m with
 |head r=>exact⟨x.2,if_pos rfl⟩
 |tail b _ ih=>exact(eN<|b.1=x.1).elim (λh=>⟨b.2,if_pos h⟩) λh=>ih.imp λv e=>(if_neg h).trans e
noncomputable def St.Wx(st:St):D->Bool
 | .int l=>lk l st.ϙ==some (st.code.length:Int)
 |_=>false
theorem tY:((iv st.ϙ).map λe=>D.int e.1).any st.Wx=st.pend:=by
 unfold iv;rw[Ϲ,List.any_map];rfl
theorem C8{x:D}(m:x∈(iv st.ϙ).map λe=>D.int e.1): ∃l v,x= .int l/\lk l st.ϙ=some v/\st.Wx x=(v==(st.code.length:Int)):=by
 unfold iv at m
 rw[Ϲ] at m
 refine(Ϗ.mp m).elim λy q_=>q_.elim λhy e_2=>?_
 subst e_2
 obtain⟨v,e⟩:=Mi hy
 exact⟨y.1,v,rfl,e,by show(lk y.1 st.ϙ==_)=_;rw[e];rfl⟩
theorem uS{X:Cx}{b:E}{k0:KS R}{r:Option R}(hh:st.pend=true->∀l m,Vi (some (41,.di<|iv st.ϙ)) (L 2) (wX X<|k (ifs (P.C 0 (P.X (A 54<|L 0)<|L 2)<|L 1) b z) z) k0 m (wX X b [some em,some<|.int st.code.length,some<|.int l] (W q st s)<|pX (wX X z) rt)=r)(hd:st.pend=false->∀v,k0 .next [some em,some<|.int st.code.length,v] (W q st s)=r)(v:Option V):lq (L 2) (wX X<|k (ifs (P.C 0 (P.X (A 54<|L 0)<|L 2)<|L 1) b z) z) [some em,some<|.int st.code.length,v] k0 ((iv st.ϙ).map λe=>D.int e.1) (some (41,.di<|iv st.ϙ)) (W q st s)=r:=by
 refine QG (en:=λv=>[some em,some<|.int st.code.length,v]) st.Wx rfl (λx m h v=>?_) (λx m h v l=>?_) (λh=>hd<|tY.symm.trans h) v
 ·obtain⟨l,v,rfl,e1,e2⟩:=C8 m
  exact⟨some<|.int l,by rw[bT];simp[e1,e2.symm.trans h]⟩
 ·have hp:=tY.symm.trans<|aW.mpr ⟨_,m,h⟩
  obtain⟨i,v,rfl,e1,e2⟩:=C8 m
  rw[bT,<-hh hp i l]
  simp[e1,e2.symm.trans h]
theorem mS:un (Β Μ (n+3) false 59 [em]<|W q st s) K=K (.int st.et.code.length) (W q st.et s):=by
 refine go rfl rfl ?_
 simp
 unfold St.et St.As
 exact uS (λhp l m=>by simp[hp,fV 0 [],wZ 0 []]) (λhp v=>by simp[hp,wZ 0 []]) none
@[simp high] theorem rFree:resolve (W q st s) 6 (.obj 45)=some (.cell 45):=rfl
@[simp high] theorem gFree{i:Int}:runC u (W q st s) 45 6 [.int i] K=K .none (W q st s):=rfl
theorem KQ{k:Int}:un (Β Μ (n+2) false 31 [em,.int k]<|W q st s) K=K (.int st.locals.length) (W q (st.Bd k) s):=by
 have e:Β Μ (n+1) false 35 [em,.int k] (W q st s)=some (.int st.locals.length,W q (st.Bd k) s):=by rw[ja rfl rfl];simp
 exact go rfl rfl (by simp[uc e])
theorem ig:un (Β Μ (n+1) false 57 [em]<|W q st s) K=K (.int (if q.g then 13 else 0)) (W q st s):=by
 exact go rfl rfl<|congrArg (λx=>some (V.int _,x)) cut_
end
end J.Internal
namespace J.Internal
open P
inductive Tr where
 |nil|cons (t ts:Tr)|row (kind:Int) (lid:Nat) (wh:Option Nat) (b r:Tr)
 |eff|Dy|dw (l:Int)|go (l:Int)|w9 (lid:Nat) (w l:Int)|tab (ls:List Int)|ret (g:Bool)|lO (o:Option Nat)
 |qL (ts:Tr)|qz (b rows:Tr)|iD (b rows last:Tr)
noncomputable def pL:Option Nat->D
 |some lid=>jy lid
 |none=>.none
noncomputable def OC:D->List D
 | .tup l=>l
 |_=>[]
noncomputable def Tr.dv(t:Tr):D:=@Tr.rec (λ_=>D) (.tup []) (λ_ _ a b=>.tup<|a::OC b) (λk l w _ _ a b=>.tup<|.tup [.int k,.int l,pL w,a]::OC b)
 (.tup [.int 1,jy 1]) (.tup [.int 18]) (λl=>.tup [.int 20,.int l]) (λl=>.tup [.int 21,.int l]) (λlid w l=>.tup [.int 22,jy lid,.int w,.int l]) (λls=>.tup [.int 23,jy 3,.tup<|ls.map .int])
 (λg=>.tup [.int 12,if g then jy 4 else .none]) (λo=>.tup [.int 13,pL o]) (λ_ a=>.tup [.int 3,.tup<|OC a,.int 0]) (λ_ _ a b=>.tup [.int 14,a,.tup<|OC b,.none]) (λ_ _ _ a b c=>.tup [.int 14,a,.tup<|OC b,c]) t
noncomputable abbrev Tr.fW(t:Tr):List D:=OC t.dv
noncomputable def Tr.fN:Tr->Bool
 | .nil=>true
 |_=>false
noncomputable def St.w9(st:St)(lid:Nat)(w l:Int):St:=
 if st.same l then(st.pb l).jmp lid (w !=0) l
 else(((st.nl [] st.pa).jmp lid (1-w !=0)<|st.made-1).goto l).mark (st.made-1)
noncomputable def St.goals:List Int->List Int->List (Int×Int)->St->List Int×List (Int×Int)×St
 |[],g,f,st=>(g,f,st)
 |l::r,g,f,st=>if st.same l then St.goals r (g++[l]) f ((st.pb l).ϴ<|g.length<big) else St.goals r (g++[st.made-1]) (f++[(st.made-1,l)]) (((st.nl [] st.pa).ϴ<|g.length<big).ϴ<|f.length<big)
theorem yO{g:List Int}{f:List (Int×Int)}{st:St}:St.goals [] g f st=(g,f,st):=rfl
theorem GC{l:Int}{r g:List Int}{f:List (Int×Int)}{st:St}:St.goals (l::r) g f st=if st.same l then St.goals r (g++[l]) f ((st.pb l).ϴ<|g.length<big) else St.goals r (g++[st.made-1]) (f++[(st.made-1,l)]) (((st.nl [] st.pa).ϴ<|g.length<big).ϴ<|f.length<big):=rfl
noncomputable def St.pJ(far:List (Int×Int))(st:St):St:=match far with
 |[]=>st
 |x::r=>St.pJ r<|(st.mark x.1).goto x.2
noncomputable def St.tab(st:St)(ls:List Int):St:=
 let q:=St.goals ls [] [] st
 let st1:=((q.2.2.rd 3).ϴ<|q.1.length<=big).add 69 (.ts q.1) []
 if q.2.1.isEmpty then st1 else(St.pJ q.2.1<|(st1.nl [] st1.pa).add 56 (.i<|st1.made-1) []).mark (st1.made-1)
noncomputable def St.sL(st:St)(l:Int):St:={st with bZ:=some l}
noncomputable def St.sP(st:St)(l:Int):St:={st with fJ:=l}
noncomputable def St.rl(st:St):St:=match st.bZ with
 |some _=>st
 |none=>(st.nl [] []).sL<|st.made-1
noncomputable def St.rp(st:St):St:=if st.fJ<0 then(st.Bd 13).sP st.locals.length else st
noncomputable def St.ret(st:St)(g:Bool):St:=
 let st1:=if g then st.rd 4 else st
 if st1.regions.isEmpty then st1.add 42 (.i 0) []
 else
  let st2:=if g then st1.rp.rl.add 65038 (.i st1.rp.fJ) [] else st1.rl
  st2.add 221 (.i<|st2.bZ.getD 0) []
noncomputable def St.lO(st:St)(o:Option Nat):St:=match o with
 |none=>st.add 65050 (.i 0) []
 |some lid=>((st.rd lid).box<|kd lid).add 122 (.i 0) []
noncomputable def St.note(st:St)(r a:Int):St:={st with nt:=st.nt++[(r,a)]}
noncomputable def nE(kind:Int):Int:=if kind= -1 then 12 else kind
noncomputable def St.taken(st:St)(kind:Int)(lid:Nat)(r:Int):St:=
 if lid=0 then(st.add 38 (.i 0) []).note r (-1)
 else if pW kind then let st1:=st.add 165 (.i kind) [.u r.toNat kind];((st1.loc lid).add 65038 (.i<|st1.lo lid) []).note r (st1.lo lid)
 else((st.loc lid).add 65038 (.i<|st.lo lid) []).note r (st.lo lid)
noncomputable def St.ask(st:St)(kind:Int)(key:Nat)(no yes:Int):St:=
 ((((((st.add 117 (.i kind) [.x key kind]).add 37 (.i 0) [.x key kind,.x key kind]).add 58 (.i yes) [.z]).add 38 (.i 0) []).add 32 (.i 0) [.c 0]).add 56 (.i no) [.x key kind]).mark yes
noncomputable def St.uI(st:St)(kind:Int)(lid wh:Nat)(r:Int):St:=
 let no:=st.made-1
 let st0:=st.nl [.b] st.pa
 let st1:=if kind= -1 then st0 else(st0.nl [.x r.toNat kind] st.pa).ask kind r.toNat no (st0.made-1)
 ((((((st1.taken kind lid r).rd wh).add 32 (.i 0) [.v 1,.c 0]).add 65027 (.i 0) [.b]).mark no).add 65041 (.i 0) [])
noncomputable def St.ac(st:St)(c:Cl):St:={st with clauses:=st.clauses++[c],ok:=st.ok/\st.clauses.length<big}
noncomputable def St.fE(st:St):List Cl->St
 |[]=>st
 |c::l=>St.fE (st.ac c) l
theorem Ko{st:St}:st.fE []=st:=rfl
theorem Kn{st:St}{c:Cl}{l:List Cl}:st.fE (c::l)=(st.ac c).fE l:=rfl
noncomputable def St.sW(st:St)(kind:Int)(lid:Nat)(wh:Option Nat):St:=match wh with
 |none=>st
 |some w=>((st.er 2 [.x (st.rc+1).toNat 12]).uI kind lid w<|st.rc+1).lr
noncomputable def St.sX(st:St)(kind:Int)(lid:Nat)(wh:Option Nat):St:=
 if kind= -2 then st.er 3 [] else match wh with
  |none=>(st.er 1 [.x (st.rc+1).toNat<|nE kind]).taken kind lid<|st.rc+1
  |some _=>((st.er 1 [.x (st.rc+1).toNat 12]).add 38 (.i 0) []).note (st.rc+1)<|-1
noncomputable def St.x_(st:St)(kind:Int)(fin:Int):St:=if kind= -2 then(st.add 220 (.i 0) []).lr else(st.add 221 (.i fin) []).lr
noncomputable def AM(kind:Int)(lid:Nat)(wh:Option Nat)(b:D)(t0 t1 h0 h1 f0 rt rh:Int)(up:Pa):Cl:=
 if kind= -2 then⟨4,t0,t1,h0,h1,0,rt,rh,up,some ⟨kind,lid,wh,b⟩⟩ else match wh with
  |some _=>⟨1,t0,t1,h0,h1,f0,rt,rh,up,some ⟨kind,lid,wh,b⟩⟩
  |none=>⟨0,t0,t1,h0,h1,nE kind,rt,rh,up,some ⟨kind,lid,wh,b⟩⟩
structure Rw where
 (t0 t1 fin rt:Int)
 i:Nat
abbrev OX:=Rw->St->St×List Cl
noncomputable def St.s8(st:St)(n:Bool)(f g:OX)(z:Rw):St:=if n then(f z st).1 else
 let s1:=(st.nl [] st.pa).et
 let s2:=((f z s1).1.add 221 (.i<|st.made-1) []).lr
 let r:=g ⟨s1.code.length,s2.code.length,st.made-1,s1.rc,0⟩ s2
 (r.1.fE r.2).mark (st.made-1)
noncomputable def St.H7(st:St)(n:Bool)(f g h:OX)(z:Rw):St:=
 let s1:=(st.nl [] st.pa).et
 let s2:=((s1.s8 n f g z).add 221 (.i<|st.made-1) []).lr
 let s3:=((h z<|s2.er 3 []).1.add 220 (.i 0) []).lr
 (s3.fE [⟨2,s1.code.length,s2.code.length,s2.code.length,s3.code.length,0,s1.rc,s2.rc+1,st.pa,none⟩]).mark (st.made-1)
noncomputable def St.W6(st:St)(kind:Int)(lid:Nat)(wh:Option Nat)(b:D)(f g:OX)(z:Rw):St×List Cl:=
 let s1:=st.sW kind lid wh
 let s3:=(f z<|s1.sX kind lid wh).1.x_ kind z.fin
 let r:=g ⟨z.t0,z.t1,z.fin,z.rt,z.i+1⟩<|s3.ϴ<|z.i<big
 (r.1,AM kind lid wh b z.t0 z.t1 s1.code.length s3.code.length st.code.length z.rt (s1.rc+1) st.pa::r.2)
noncomputable def eT(t:Tr):OX:=@Tr.rec (λ_=>OX) (λ_ st=>(st,[])) (λ_ _ f g z st=>g z (f z st).1) (λk l w b _ f g z st=>st.W6 k l w b.dv f g z)
 (λ_ st=>(st.eff,[])) (λ_ st=>(st,[])) (λl _ st=>(st.mark l,[])) (λl _ st=>(st.goto l,[])) (λlid w l _ st=>(st.w9 lid w l,[])) (λls _ st=>(st.tab ls,[]))
 (λg _ st=>(st.ret g,[])) (λo _ st=>(st.lO o,[])) (λ_ f z st=>f z st) (λ_ r f g z st=>(st.s8 r.fN f g z,[])) (λ_ r _ f g h z st=>(st.H7 r.fN f g h z,[])) t
noncomputable def z0:Rw:=⟨0,0,0,0,0⟩
noncomputable abbrev V3(t:Tr)(st:St):St:=(eT t z0 st).1
end J.Internal
namespace J.Internal
open P
variable [Key]
section
variable{q:Fx}{st:St}{s:List PO}{R:Type}{K:KV R}{u:Bool}{X:Cx}{n:Nat}{Μ:List Int}
@[simp high] theorem rStmts:resolve (W q st s) 6 (.obj 53)=some (.cell 53):=rfl
theorem fh{c f i l:Nat}{b:E}{r:List D}{st':St}{v:V}(key:Int)(h1: ∀K:KV (V×Hp),runC false (W q st s) 53 6 [.int key] K=K (.ins c i) (W q st s))(h2:resolve (W q st s) 59 (.ins c i)=some (.fn f<|.ins c i))
 (hf:jJ f=some (3,l,b)) (h:wX ⟨Μ,Β Μ n false,false⟩ b ([some<|.ins c i,some em,some<|.tup<|.int key::r]++Ω l none) (W q st s) (dS false<|s.length+65)=some (v,W q st' s)):un (Β Μ (n+3) false 34 [em,.tup<|.int key::r]<|W q st s) K=K .none (W q st' s):=by
 have e:Β Μ (n+2) false 39 [em,.tup<|.int key::r] (W q st s)=some (.none,W q st' s):=by rw[ja rfl rfl];simp[h1,h2,uc ((ja hf rfl).trans h:Β Μ (n+1) false f [.ins c i,em,.tup<|.int key::r] (W q st s)=some (v,W q st' s))]
 exact go rfl rfl (by simp[uc e])
abbrev Sk(t:D)(q:Fx)(s:List PO)(Μ:List Int)(n:Nat)(st st':St):Prop:=∀{R:Type}{K:KV R},un (Β Μ n false 34 [em,.d t]<|W q st s) K=K .none (W q st' s)
theorem SI:Sk (.tup [.int 1,jy 1]) q s Μ (n+8) st (st.eff):=fh (v:=.none) 1 (λ_=>rfl) rfl rfl (by simp[BR])
theorem SK:Sk (.tup [.int 18]) q s Μ (n+3) st st:=fh (v:=.none) 18 (λ_=>rfl) rfl rfl (by simp)
theorem SJ{l:Int}:Sk (.tup [.int 20,.int l]) q s Μ (n+4) st (st.mark l):=fh (v:=.none) 20 (λ_=>rfl) rfl rfl (by simp[fj])
theorem Xk{l:Int}:Sk (.tup [.int 21,.int l]) q s Μ (n+5) st (st.goto l):=fh (v:=.none) 21 (λ_=>rfl) rfl rfl (by simp[w4])
theorem SH{lid:Nat}{w l:Int}(h1:1<=lid)(h2:lid<=13):Sk (.tup [.int 22,jy lid,.int w,.int l]) q s Μ (n+7) st (st.w9 lid w l):=by
 refine fh (v:=.none) 22 (λ_=>rfl) rfl rfl ?_
 unfold St.w9
 cases e:st.same l<;>simp[w7,St.sm,e,KG h1 h2,w4,fj,ou []]
theorem Jw{lid:Nat}(h:lid<=13):0<=kd lid/\kd lid<20:=by
 have kk: ∀l:Fin 14,0<=kd l/\kd l<20:=by decide+kernel
 exact kk ⟨lid,Nat.lt_succ_of_le h⟩
theorem MY:Sk (.tup [.int 13,.none]) q s Μ (n+7) st (st.lO none):=fh (v:=.none) 13 (λ_=>rfl) rfl rfl (by simp[St.lO,fV 65050 []])
theorem SR{lid:Nat}(h1:1<=lid)(h2:lid<=13):Sk (.tup [.int 13,jy lid]) q s Μ (n+7) st (st.lO<|some lid):=
 fh (v:=.none) 13 (λ_=>rfl) rfl rfl (by simp[St.lO,j0 h1 h2,PV (Jw h2).1 (Jw h2).2,fV 122 []])
@[simp high] theorem setRetL{l:Int}:setattr u (W q st s) 44 (.int l) em=some (W q (st.sL l) s):=rfl
@[simp high] theorem setRetP{l:Int}:setattr u (W q st s) 43 (.int l) em=some (W q (st.sP l) s):=rfl
section
variable{l:Int}
@[simp high] theorem f1:(st.sL l).bZ=some l:=rfl
@[simp high] theorem f2:(st.sP l).bZ=st.bZ:=rfl
@[simp high] theorem f3:(st.Bd l).bZ=st.bZ:=rfl
@[simp high] theorem f4{op:Int}{m:Od}{x:List Slot}:(st.add op m x).bZ=st.bZ:=rfl
@[simp high] theorem f5:(st.sP l).fJ=l:=rfl
@[simp high] theorem f6:(st.sL l).fJ=st.fJ:=rfl
@[simp high] theorem f7{x:List Slot}{p:Pa}:(st.nl x p).fJ=st.fJ:=rfl
@[simp high] theorem f8:(st.sL l).locals=st.locals:=rfl
@[simp high] theorem f9{x:List Slot}{p:Pa}:(st.nl x p).locals=st.locals:=rfl
@[simp high] theorem fa:(st.sL l).regions=st.regions:=rfl
@[simp high] theorem fb{x:List Slot}{p:Pa}:(st.nl x p).regions=st.regions:=rfl
end
@[simp high] theorem oiS{l:Int}:oi (some l)= .int l:=rfl
@[simp high] theorem oiN:oi none= .none:=rfl
noncomputable abbrev eR(t:D):Env:=[some<|.ins 14 62,some em,some<|.d t]
noncomputable abbrev rB(body:E):E:=k (ifs (P.C 0 (Bu 0<|A 47<|L 1)<|I 0) (k (ex<|M 60 (L 1)<|k (G 15 42)<|k (I 0) z)<|k (ret N) z) z) body
noncomputable abbrev rC(body:E):E:=k (ifs (Is 1<|A 44<|L 1) (k (asg (A 44<|L 1)<|M 64 (L 1) z) z) z) body
noncomputable abbrev rD(body:E):E:=k (ifs (P.C 2 (A 43<|L 1)<|I 0) (k (asg (A 43<|L 1)<|M 66 (L 1)<|k (Fn 57<|k (L 1) z) z) z) z) body
theorem YQ{t:D}{body:E}{k0:KS R}:wX ⟨Μ,Β Μ (n+4) false,false⟩ (rC body) (eR t) (W q st s) k0=wX ⟨Μ,Β Μ (n+4) false,false⟩ body (eR t) (W q st.rl s) k0:=by
 unfold St.rl
 cases hl:st.bZ<;>simp[hl,KJ [] []]
theorem Zt{t:D}{body:E}{k0:KS R}(hg:q.g=true):wX ⟨Μ,Β Μ (n+4) false,false⟩ (rD body) (eR t) (W q st s) k0=wX ⟨Μ,Β Μ (n+4) false,false⟩ body (eR t) (W q st.rp s) k0:=by
 unfold St.rp
 by_cases hp:st.fJ<0<;>simp[hp,hg,ig,KQ]
theorem Sn:st.rl.fJ=st.fJ:=by unfold St.rl;cases st.bZ<;>rfl
theorem Sp:oi st.rl.bZ= .int (st.rl.bZ.getD 0):=by unfold St.rl;cases hl:st.bZ<;>simp[hl]
theorem So:st.rl.rp=st.rp.rl:=by
 unfold St.rp
 rw[Sn]
 split<;>(unfold St.rl;cases hl:st.bZ<;>simp[hl]<;>rfl)
noncomputable abbrev rA(body:E):E:=k (ifs (Is 0<|P.X (L 2)<|I 1) (k (ex<|M 65 (L 1)<|k (P.X (L 2)<|I 1) z) z) z)<|rB body
theorem SN:Sk (.tup [.int 12,if q.g then jy 4 else .none]) q s Μ (n+7) st (st.ret q.g):=by
 refine fh (v:=.none) 12 (λ_=>rfl) rfl rfl ?_
 have e {r:List Int}:((r.length:Int)+1==0)=false:=by rw[beq_eq_false_iff_ne];exact E1<|(λ{x y}=>pQ.mp) rfl
 unfold St.ret
 cases hg:q.g with
 |false=>
  cases hr:st.regions with
  |nil=>simp[hr,fV 42 []]
  |cons a r=>
   have p0 {body:E} {k0:KS (V×Hp)}:wX ⟨Μ,Β Μ (n+4) false,false⟩ (rA body) (eR<|.tup [.int 12,.none]) (W q st s) k0=wX ⟨Μ,Β Μ (n+4) false,false⟩ body (eR<|.tup [.int 12,.none]) (W q st s) k0:=by simp[hr,e]
   refine p0.trans<|YQ.trans ?_
   simp[hr,fV 221 [],Sp]
 |true=>
  cases hr:(st.rd 4).regions with
  |nil=>simp[hr,j0 (lid:=4),fV 42 []]
  |cons a r=>
   have p0 {body:E} {k0:KS (V×Hp)}:wX ⟨Μ,Β Μ (n+4) false,false⟩ (rA body) (eR<|.tup [.int 12,jy 4]) (W q st s) k0=wX ⟨Μ,Β Μ (n+4) false,false⟩ body (eR<|.tup [.int 12,jy 4]) (W q (st.rd 4) s) k0:=by simp[hr,e,j0 (lid:=4)]
   have p1 {st:St} {body:E} {k0:KS (V×Hp)}:wX ⟨Μ,Β Μ (n+4) false,false⟩ (k (ifs (Is 0<|P.X (L 2)<|I 1) (rD<|k (ex<|M 60 (L 1)<|k (G 33 65038)<|k (A 43<|L 1) z) z) z) body) (eR<|.tup [.int 12,jy 4]) (W q st s) k0=wX ⟨Μ,Β Μ (n+4) false,false⟩ body (eR<|.tup [.int 12,jy 4]) (W q (st.rp.add 65038 (.i st.rp.fJ) []) s) k0:=x_1.trans<|(Zt hg).trans (by simp[fV 65038 []])
   refine p0.trans<|YQ.trans<|p1.trans ?_
   simp[hr,fV 221 [],So,Sn,Sp]
end
section
variable{q:Fx}{st:St}{s t:List PO}{R:Type}{K:KV R}{u:Bool}{X:Cx}{n j:Nat}{Μ:List Int}{o o' o2:PO}{H:Hp}
theorem h_{c:List PO}: ∀{a:List PO},(a++o::c)[a.length]? =some o
 |[]=>rfl
 |_::a=>h_ (a:=a)
theorem ia{c:List PO}: ∀{a:List PO},(a++o::c).set a.length o'=a++o'::c
 |[]=>rfl
 |_::a=>congrArg _<|ia (a:=a)
theorem PB:(W q st<|s++o::t).c[s.length+65]? =some o:=h_ (a:=s)
theorem IJ:(W q st<|s++o::o2::t).c[s.length+66]? =some o2:=by
 have:=h_ (o:=o2) (a:=s++[o]) (c:=t)
 rw[Α,θ] at this
 exact this
@[simp high] theorem get_t:(W q st<|s++o::t).get (s.length+65)=o:=congrArg (·.getD .dead) PB
@[simp high] theorem get_t2:(W q st<|s++o::o2::t).get (s.length+66)=o2:=congrArg (·.getD .dead) IJ
@[simp high] theorem put_t:(W q st<|s++o::t).put (s.length+65) o'=W q st (s++o'::t):=congrArg (λx=>W q st x)<|ia (a:=s)
@[simp high] theorem put_t2:(W q st<|s++o::o2::t).put (s.length+66) o'=W q st (s++o::o'::t):=by
 have:=ia (o:=o2) (o':=o') (a:=s++[o]) (c:=t)
 rw[Α,Α,θ] at this
 exact congrArg (λx=>W q st x) this
@[simp high] theorem new_t:(W q st s).new o=W q st (s++[o]):=rfl
@[simp high] theorem new_t2:(W q st<|s++o::t).new o2=W q st (s++o::(t++[o2])):=congrArg (λx=>W q st x)<|Α s (o::t) [o2]
@[simp high] theorem cut_t:(W q st<|s++t).cut (s.length+65)=W q st s:=congrArg (λx=>W q st x)<|show(s++t).take s.length=s from jG
theorem YF:(W q st<|s++[o]).c.length=s.length+66:=by rw[lenW,θ];rfl
variable{l:List D}{x:D}
theorem fZ(h:H.get j= .list l):resolve H 1 (.obj j)=some (.cell j):=congrArg (Fb j 1) h
theorem gp(h:H.get j= .list l):runC u H j 1 [.d x] K=K .none ((H.ϴ<|l.length<big).put j<|.list<|l++[x]):=(congrArg (DK u H j 1 [.d x] K) h).trans<|ϥ _
theorem ng(h:H.get j= .list l){b:Nat}:builtin b (.obj j) H K=num b [K (.int l.length) H,newL 0 H l K,newL 1 H l K,K (.tup l)<|H.ϴ<|l.length<=big,ob (qw l) λm=>K (.int m) H] none:=(ϥ _).trans<|congrArg (Vy b H K) h
theorem LZ(h:H.get j= .list l):iy H (.obj j)=some (l,some (j,.list l)):=congrArg (UN j) h
theorem JW{r:Option R}(h:H.c[j]? =some o):stay (some (j,o)) H r=r:=if_pos h
noncomputable def fr(f:List (Int×Int)):List D:=f.map λx=>.tup [.int x.1,.int x.2]
theorem UM{f:List (Int×Int)}{a b:Int}:fr f++[.tup [.int a,.int b]]=fr (f++[(a,b)]):=sJ (f:=λx:Int×Int=>D.tup [.int x.1,.int x.2]) (a:=(a,b))
noncomputable abbrev tE(ls:List Int)(s:List PO)(v w:Option V):Env:=[some<|.ins 13 61,some em,some<|.tup [.int 23,jy 3,.tup<|ls.map .int],some<|.obj<|s.length+65,some<|.obj<|s.length+66,v,w,none]
noncomputable abbrev tB:E:=k (ifs (Fn 46<|k (L 1)<|k (L 5) z) (k (ex<|M 1 (L 3)<|k (L 5) z) z)<|k (asg (L 6)<|M 64 (L 1) z)<|k (ex<|M 1 (L 3)<|k (L 6) z)<|k (ex<|M 1 (L 4)<|k (Tu<|k (L 6)<|k (L 5) z) z) z) z
theorem Xz{ls g:List Int}{f:List (Int×Int)}{a:Int}{w:Option V}(hs:st.same a=true):wX ⟨Μ,Β Μ (n+2) false,false⟩ tB (tE ls s (some<|.int a) w) (W q st<|s++[.list<|g.map .int,.list<|fr f]) rt=some (.next,tE ls s (some<|.int a) w,W q ((st.pb a).ϴ<|g.length<big)<|s++[.list<|(g++[a]).map .int,.list<|fr f]):=by
 simp[w7,hs,St.sm,fZ get_t,gp get_t]
theorem XA{ls g:List Int}{f:List (Int×Int)}{a:Int}{w:Option V}(hs:st.same a=false):wX ⟨Μ,Β Μ (n+2) false,false⟩ tB (tE ls s (some<|.int a) w) (W q st<|s++[.list<|g.map .int,.list<|fr f]) rt=some (.next,tE ls s (some<|.int a)<|some<|.int<|st.made-1,W q (((st.nl [] st.pa).ϴ<|g.length<big).ϴ<|f.length<big)<|s++[.list<|(g++[st.made-1]).map .int,.list<|fr<|f++[(st.made-1,a)]]):=by
 simp[w7,hs,St.sm,ou [],fZ get_t,gp get_t,fZ get_t2,gp get_t2,fr]
noncomputable abbrev Xy(ls:List Int)(s:List PO)(v w:Option V)(b:Int):Env:=[some<|.ins 13 61,some em,some<|.tup [.int 23,jy 3,.tup<|ls.map .int],some<|.obj<|s.length+65,some<|.obj<|s.length+66,v,w,some<|.int b]
theorem XC{ls g:List Int}{f:List (Int×Int)}{v w:Option V}{b:Int}{k0:KS R}{r:Option R}(h: ∀v w,k0 .next (Xy ls s v w b) (W q (St.pJ f st)<|s++[.list<|g.map .int,.list<|fr f])=r):
 lq (Tu<|k (L 6)<|k (L 5) z) (wX ⟨Μ,Β Μ (n+3) false,false⟩<|k (ex<|M 63 (L 1)<|k (L 6) z)<|k (ex<|Fn 45<|k (L 1)<|k (L 5) z) z) (Xy ls s v w b) k0 (fr f) (some (s.length+66,.list<|fr f)) (W q st<|s++[.list<|g.map .int,.list<|fr f])=r:=
 (gy (st:=some (s.length+66,.list<|fr f)) (t:=Tu<|k (L 6)<|k (L 5) z) (body:=wX ⟨Μ,Β Μ (n+3) false,false⟩<|k (ex<|M 63 (L 1)<|k (L 6) z)<|k (ex<|Fn 45<|k (L 1)<|k (L 5) z) z) (en:=λz:Option V×Option V×St=>Xy ls s z.1 z.2.1 b) (hp:=λz:Option V×Option V×St=>W q z.2.2<|s++[PO.list<|g.map D.int,PO.list<|fr f]) (f:=λx:Int×Int=>D.tup [.int x.1,.int x.2]) (λl z=>St.pJ f st=St.pJ l z.2.2) (λ_ _ _ x=>JW IJ) (λy l z i=>⟨.next,(some<|.int y.2,some<|.int y.1,(z.2.2.mark y.1).goto y.2),i,.inl rfl,Eu.trans (by simp[fj,w4])⟩) f (v,w,st) rfl).casesOn λz i e1=>e1.trans (by have:=h z.1 z.2.1;rw[i] at this;exact this)
structure X6 where
 (v w:Option V)
 g:List Int
 f:List (Int×Int)
 st:St
theorem SQ{ls:List Int}:Sk (.tup [.int 23,jy 3,.tup<|ls.map .int]) q s Μ (n+7) st (st.tab ls):=by
 refine fh (v:=.none) 23 (λ_=>rfl) rfl rfl ?_
 dsimp
 rw[θ,Α]
 refine(gy (st:=none) (t:=L 5) (body:=wX ⟨Μ,Β Μ (n+4) false,false⟩ tB) (en:=λz:X6=>tE ls s z.v z.w) (hp:=λz:X6=>W q z.st<|s++[PO.list<|z.g.map D.int,PO.list<|fr z.f]) (f:=D.int) (λl z=>St.goals ls [] [] st=St.goals l z.g z.f z.st) (λ_ _ _ _=>rfl) (λa l z i=>?_) ls ⟨none,none,[],[],st⟩ rfl).casesOn λz i e=>e.trans ?_
 ·obtain⟨v,w,g,f,st2⟩:=z
  cases hs:st2.same a with
  |true=>exact⟨.next,⟨some<|.int a,w,g++[a],f,(st2.pb a).ϴ<|g.length<big⟩,i.trans<|if_pos hs,.inl rfl,bT.trans<|Xz hs⟩
  |false=>exact⟨.next,⟨some<|.int a,some<|.int<|st2.made-1,g++[st2.made-1],f++[(st2.made-1,a)],((st2.nl [] st2.pa).ϴ<|g.length<big).ϴ<|f.length<big⟩,i.trans<|if_neg (by rw[hs];exact ϟ),.inl rfl,bT.trans<|XA hs⟩
 ·obtain⟨v,w,g,f,st2⟩:=z
  unfold St.tab
  rw[i]
  induction f with
  |nil=>simp[yO,fr,j0 (lid:=3),ng get_t,ng get_t2,num,Yg 69 []]
  |cons y f=>
   have en:((((fr<|y::f).length:Nat):Int)==0)=false:=rfl
   simp[en,yO,GC,ou [],j0 (lid:=3),ng get_t,ng get_t2,num,Yg 69 [],fV 56 [],LZ get_t2]
   refine XC λv w=>?_
   simp[fj]
end
inductive Bp(kind:Int)(lid:Nat)(wh:Option Nat):Prop
 |mk (hk:kind= -1∨kind= -2∨(0<=kind/\kind<20)) (hl:lid<=13) (hw: ∀w,wh=some w->1<=w/\w<=13) (hf:kind= -2->wh=none)
section
variable{q:Fx}{st:St}{s t:List PO}{R:Type}{K:KV R}{u:Bool}{X:Cx}{n j:Nat}{Μ:List Int}{H:Hp}{z:Rw}
@[simp high] theorem noteW{r a:Int}:W q (st.note r a) s=W q st s:=rfl
theorem VB{op x:Int}(r a:Int):un (Β Μ (n+1) false 28 [em,.int op,.int x]<|W q st s) K=K (.none) (W q ((st.add op (.i x) []).note r a) s):=fV _ []
theorem rT{kind r0:Int}{lid:Nat}{r:List D}(hk:kind= -1∨(0<=kind/\kind<20))(hl:lid<=13):un (Β Μ (n+3) false 64 [em,.tup<|.int kind:: .int lid::r]<|W q st s) K=K .none (W q (st.taken kind lid r0) s):=by
 refine go rfl rfl ?_
 unfold St.taken
 by_cases h1:lid=0
 ·simp[h1,fV 38 []]
 ·have h0:((lid:Int) !=0)=true:=by rw[bne_iff_ne];omega
  rcases hk with rfl|hk
  ·have:pW (-1)=false:=rfl
   simp[h0,h1,this,ic (lid:=lid) (by omega) hl,fV 65038 []]
  ·induction e:pW kind with
   |false=>simp[h0,h1,hk.1,e,oq hk.1 hk.2,ic (lid:=lid) (by omega) hl,fV 65038 []]
   |true=>simp[h0,h1,hk.1,e,oq hk.1 hk.2,ic (lid:=lid) (by omega) hl,fV 165 [.u r0.toNat kind],fV 65038 []]
theorem BU{kind r0:Int}{lid wh:Nat}{x:D}(hk:kind= -1∨(0<=kind/\kind<20))(hl:lid<=13)(hw:1<=wh/\wh<=13):un (Β Μ (n+5) false 65 [em,.tup [.int kind,.int lid,jy wh,x]]<|W q st s) K=K .none (W q (st.uI kind lid wh r0) s):=by
 refine go rfl rfl ?_
 unfold St.uI
 by_cases h1:kind= -1
 ·simp[h1,ou [.b],rT (r0:=r0) (.inl rfl) hl,j0 hw.1 hw.2,fV 32 [.v 1,.c 0],fV 65027 [.b],fj,fV 65041 []]
 ·have h2:(kind== -1)=false:=by simp[h1]
  unfold St.ask
  simp[h1,h2,ou (st:=st) [.b],KJ (st:=st.nl [.b] st.pa) [.x r0.toNat kind] st.pa,fV 117 [.x r0.toNat kind],fV 37 [.x r0.toNat kind,.x r0.toNat kind],fV 58 [.z],fV 38 [],fV 32 [.c 0],fV 56 [.x r0.toNat kind],fj]
  simp[rT (r0:=r0) hk hl,j0 hw.1 hw.2,fV 32 [.v 1,.c 0],fV 65027 [.b],fj,fV 65041 []]
abbrev Em(g:Bool)(Μ:List Int)(N:Nat)(t:Tr):Prop:=∀(z:Rw)(lb:Int)(r:List D)(s:List PO)(st:St),Sk t.dv ⟨g,r,lb⟩ s Μ N st (eT t z st).1
theorem Gb{g:Bool}{lb:Int}{rr:List D}{b:Tr}{kind t0 t1 fin rt:Int}{lid:Nat}{wh:Option Nat}(ro:Bp kind lid wh)(ih:Em g Μ (n+8) b):
 un (Β Μ (n+9) false 63 [em,.tup [.int kind,.int lid,pL wh,b.dv],.int t0,.int t1,.int fin]<|W ⟨g,rr,lb⟩ st s) K=
  K (.d (AM kind lid wh b.dv t0 t1 (st.sW kind lid wh).code.length ((eT b z<|(st.sW kind lid wh).sX kind lid wh).1.x_ kind fin).code.length st.code.length rt ((st.sW kind lid wh).rc+1) st.pa).dv) (W ⟨g,rr,lb⟩ ((eT b z<|(st.sW kind lid wh).sX kind lid wh).1.x_ kind fin) s):=by
 refine go rfl rfl ?_
 have ih2 {st:St} {R:Type} {K:KV R}:un (Β Μ (n+8) false 34 [em,.d b.dv]<|W ⟨g,rr,lb⟩ st s) K=K .none (W ⟨g,rr,lb⟩ (eT b z st).1 s):=ih z lb rr s st
 unfold St.sW St.sX St.x_ AM
 by_cases h2:kind= -2
 ·simp[h2,ro.4 h2,wZ 3 [],ih2,bR,fV 220 [],pL,Cl.dv]
 ·have h3:(kind== -2)=false:=beq_eq_false_iff_ne.mpr h2
  have hk:kind= -1∨(0<=kind/\kind<20):=by rcases ro.1 with q|q|q;exact .inl q;exact absurd q h2;exact .inr q
  induction wh with
  |some w=>
   simp[-lrCode,h2,h3,wZ (st:=st) 2 [.x (st.rc+1).toNat 12],BU (r0:=st.rc+1) hk ro.2<|ro.3 w rfl,bR,pL,Cl.dv]
   generalize((st.er 2 [.x (st.rc+1).toNat 12]).uI kind lid w<|st.rc+1).lr=st1
   simp[-noteW,h2,h3,wZ (st:=st1) 1 [.x (st1.rc+1).toNat 12],ih2,bR,VB (op:=38) (st1.rc+1)<|-1,fV 221 []]
  |none=>
   simp[h2,h3,wZ (st:=st) 1 [.x (st.rc+1).toNat<|nE kind],ih2,rT (r0:=st.rc+1) hk ro.2,bR,fV 221 [],pL,Cl.dv]
   generalize(eT b z _).1.add 221 _ []=st2
   have e:nE kind=if kind== -1 then 12 else kind:=by unfold nE;simp
   rw[e]
   induction kind== -1<;>simp
end
class inductive Seq(P:Tr->Prop):Tr->Prop
 |nil:Seq P .nil
 |cons {t ts:Tr}:P t->Seq P ts->Seq P (.cons t ts)
class inductive Rws(P:Int->Nat->Option Nat->Tr->Prop):Tr->Prop
 |nil:Rws P .nil
 |row {k:Int} {l:Nat} {w:Option Nat} {b r:Tr}:P k l w b->Rws P r->Rws P (.row k l w b r)
section
variable{q:Fx}{st:St}{s t:List PO}{R:Type}{K:KV R}{u g:Bool}{X:Cx}{n j:Nat}{Μ:List Int}{H:Hp}
@[simp high] theorem rClauses:resolve (W q st s) 1 (.obj 46)=some (.cell 46):=rfl
theorem nY{c:Cl}{d:D}(h:c.dv=d):runC u (W q st s) 46 1 [.d d] K=K .none (W q (st.ac c) s):=by
 subst h
 refine(ϥ _).trans ?_
 show K .none (Wc q (_/\(st.clauses.map Cl.dv).length<big) _ _ _ _ _ (st.clauses.map Cl.dv++[c.dv]) _ _ s)=_
 rw[sJ,ς];rfl
section
variable{σ:Type}{en:Option V->Env}{hp:σ->Hp}{te:E}{body:Body}{k0:KS R}{run:Tr->σ->σ}
theorem CB{P:Tr->Prop}(step:Tr->σ->σ)(hn: ∀s,run .nil s=s)(hc: ∀t ts s,run (.cons t ts) s=run ts (step t s))(hs: ∀t s v,P t->turn te body t.dv (en v) (hp s)=some (.next,en<|some<|.d t.dv,hp<|step t s)){ts:Tr}(h:Seq P ts)(s:σ)(v:Option V): ∃v',lq te body (en v) k0 ts.fW none (hp s)=k0 .next (en v') (hp<|run ts s):=by
 suffices m: ∀s v,∃v',forL none te body k0 ts.fW (en v) (hp s)=k0 .next (en v') (hp<|run ts s) from(m s v).imp λ_ e=>(ϥ _).trans e
 induction h with
 |nil=>exact λs v=>⟨v,congrArg (λx=>k0 .next (en v)<|hp x) (hn s).symm⟩
 |cons a _ ih=>exact λs v=>(ih _ _).imp λ_ e=>(qP (hs _ s v a)<|.inl rfl).trans<|e.trans<|congrArg (λx=>k0 .next _<|hp x) (hc _ _ s).symm
noncomputable def pG(k:Int)(l:Nat)(w:Option Nat)(b:Tr):D:=.tup [.int k,.int l,pL w,b.dv]
theorem CA{P:Int->Nat->Option Nat->Tr->Prop}(step:Int->Nat->Option Nat->Tr->σ->σ)(hn: ∀s,run .nil s=s)(hc: ∀k l w b r s,run (.row k l w b r) s=run r (step k l w b s))(hs: ∀k l w b s v,P k l w b->turn te body (pG k l w b) (en v) (hp s)=some (.next,en<|some<|.d<|pG k l w b,hp<|step k l w b s)){ts:Tr}(h:Rws P ts)(s:σ)(v:Option V): ∃v',lq te body (en v) k0 ts.fW none (hp s)=k0 .next (en v') (hp<|run ts s):=by
 suffices m: ∀s v,∃v',forL none te body k0 ts.fW (en v) (hp s)=k0 .next (en v') (hp<|run ts s) from(m s v).imp λ_ e=>(ϥ _).trans e
 induction h with
 |nil=>exact λs v=>⟨v,congrArg (λx=>k0 .next (en v)<|hp x) (hn s).symm⟩
 |row a _ ih=>exact λs v=>(ih _ _).imp λ_ e=>(qP (hs _ _ _ _ s v a)<|.inl rfl).trans<|e.trans<|congrArg (λx=>k0 .next _<|hp x) (hc _ _ _ _ _ s).symm
end
theorem SD{ts:Tr}(h:Seq (Em g Μ n) ts):Em g Μ (n+3) (.qL ts):=λz lb r s st R K=>by
 refine fh (v:=.none) 3 (λ_=>rfl) rfl rfl ?_
 dsimp
 refine(CB (te:=L 3) (en:=λv=>[some<|.ins 8 56,some em,some<|.d (Tr.qL ts).dv,v]) (hp:=λst=>W ⟨g,r,lb⟩ st s) (run:=λt st=>(eT t z st).1) (λt st=>(eT t z st).1) (λ_=>rfl) (λ_ _ _=>rfl) (λt st v ih=>bT.trans ?_) h st none).elim λv e=>e.trans ?_
 ·have ih {K:KV (Fl×Env×Hp)}:=ih z lb r s st (K:=K)
  simp[ih]
 ·simp;rfl
abbrev Er(g:Bool)(Μ:List Int)(n:Nat)(kind:Int)(lid:Nat)(wh:Option Nat)(b:Tr):Prop:=Bp kind lid wh/\Em g Μ n b
theorem fQ{P:Int->Nat->Option Nat->Tr->Prop}{r:Tr}(h:Rws P r):((r.fW.length:Int)==0)=r.fN:=by
 induction h<;>rfl
noncomputable abbrev cE(x:D)(s:List PO)(e t0 t1:Int)(v w:Option V):Env:=[some em,some<|.d x,some<|.int e,some<|.int t0,some<|.int t1,some<|.obj<|s.length+65,v,w]
noncomputable def MR(z:Rw)(x:St×List Cl)(k:Int)(l:Nat)(w:Option Nat)(b:Tr):St×List Cl:=
 let s1:=x.1.sW k l w
 let s3:=(eT b ⟨z.t0,z.t1,z.fin,z.rt,x.2.length⟩<|s1.sX k l w).1.x_ k z.fin
 (s3.ϴ<|x.2.length<big,x.2++[AM k l w b.dv z.t0 z.t1 s1.code.length s3.code.length x.1.code.length z.rt (s1.rc+1) x.1.pa])
noncomputable def JP(z:Rw)(t:Tr)(x:St×List Cl):St×List Cl:=((eT t ⟨z.t0,z.t1,z.fin,z.rt,x.2.length⟩ x.1).1,x.2++(eT t ⟨z.t0,z.t1,z.fin,z.rt,x.2.length⟩ x.1).2)
theorem KO{lb:Int}{r:List D}{rows:Tr}{x:D}{k0:KS R}{res:Option R}{e t0 t1 rt:Int}(h:Rws (Er g Μ<|n+8) rows)(hd: ∀v,k0 .next (cE x s e t0 t1 v none) (W ⟨g,r,lb⟩ (eT rows ⟨t0,t1,e,rt,0⟩ st).1<|s++[.list<|(eT rows ⟨t0,t1,e,rt,0⟩ st).2.map Cl.dv])=res):
 lq (L 6) (wX ⟨Μ,Β Μ (n+9) false,false⟩<|P.k (ex<|M 1 (L 5)<|P.k (Fn 63<|P.k (L 0)<|P.k (L 6)<|P.k (L 3)<|P.k (L 4)<|P.k (L 2) z) z) z) (cE x s e t0 t1 none none) k0 rows.fW none (W ⟨g,r,lb⟩ st<|s++[.list []])=res:=by
 refine(CA (te:=L 6) (en:=λv=>cE x s e t0 t1 v none) (hp:=λy=>W ⟨g,r,lb⟩ y.1<|s++[.list<|y.2.map Cl.dv]) (run:=JP ⟨t0,t1,e,rt,0⟩) (λk l w b y=>MR ⟨t0,t1,e,rt,0⟩ y k l w b) (λy=>congrArg (pP y.1)<|Ν _) (λk l w b r y=>?_) (λk l w b y v a=>bT.trans ?_) h (st,[]) none).elim λv e=>e.trans<|hd v
 ·have e1:(MR ⟨t0,t1,e,rt,0⟩ y k l w b).2.length=y.2.length+1:=θ
  unfold JP
  rw[e1]
  exact congrArg (pP _)<|gZ ..
 ·have ih {K:KV (Fl×Env×Hp)}:=Gb (K:=K) (s:=s++[.list<|y.2.map Cl.dv]) (st:=y.1) (rr:=r) (lb:=lb) (z:=⟨t0,t1,e,rt,y.2.length⟩) (t0:=t0) (t1:=t1) (fin:=e) (rt:=rt) a.1 a.2
  unfold pG MR
  simp[fZ get_t,ih,gp get_t]
theorem KD{cl:List Cl}{x:D}{k0:KS R}{res:Option R}{e t0 t1:Int}{v:Option V}(hd: ∀w,k0 .next (cE x s e t0 t1 v w) (W q (st.fE cl)<|s++[.list<|cl.map Cl.dv])=res):
 lq (L 7) (wX ⟨Μ,Β Μ (n+9) false,false⟩<|P.k (ex<|M 1 (A 48<|L 0)<|P.k (L 7) z) z) (cE x s e t0 t1 v none) k0 (cl.map Cl.dv) (some (s.length+65,.list<|cl.map Cl.dv)) (W q st<|s++[.list<|cl.map Cl.dv])=res:=
 (gy (st:=some (s.length+65,.list<|cl.map Cl.dv)) (t:=L 7) (body:=wX ⟨Μ,Β Μ (n+9) false,false⟩<|P.k (ex<|M 1 (A 48<|L 0)<|P.k (L 7) z) z) (en:=λz:Option V×St=>cE x s e t0 t1 v z.1) (hp:=λz=>W q z.2<|s++[.list<|cl.map Cl.dv]) (f:=λc:Cl=>c.dv) (λl z=>st.fE cl=z.2.fE l) (λ_ _ _ x=>JW PB) (λc l z i=>⟨.next,(some<|.d c.dv,z.2.ac c),i,.inl rfl,bT.trans (by simp[nY (c:=c) rfl])⟩) cl (none,st) rfl).casesOn λz i e1=>e1.trans (by have:=hd z.1;rw[i] at this;exact this)
theorem qM{lb:Int}{r:List D}{b rows:Tr}{x:D}{z:Rw}(hb:Em g Μ (n+9) b)(h:Rws (Er g Μ<|n+8) rows):un (Β Μ (n+10) false 62 [em,.tup [.int 14,b.dv,.tup rows.fW,x]]<|W ⟨g,r,lb⟩ st s) K=K .none (W ⟨g,r,lb⟩ (st.s8 rows.fN (eT b) (eT rows) z) s):=by
 refine go rfl rfl ?_
 have ihb {st:St} {R:Type} {K:KV R}:un (Β Μ (n+9) false 34 [em,.d b.dv]<|W ⟨g,r,lb⟩ st s) K=K .none (W ⟨g,r,lb⟩ (eT b z st).1 s):=hb z lb r s st
 unfold St.s8
 induction h0:rows.fN with
 |true=>simp[(fQ h).trans h0,ihb]
 |false=>
  simp[(fQ h).trans h0,ou [],ihb,mS,bR,fV 221 []]
  refine KO (rt:=(st.nl [] st.pa).et.rc) h λv=>?_
  simp[LZ get_t]
  refine KD λw=>?_
  simp[fj]
end
end J.Internal
namespace J.Internal
open P
inductive RowW(kind:Int)(lid:Nat)(wh:Option Nat):Prop
 |mk (k:kind= -1∨(16<=kind/\kind<20)) (l:lid=0∨(1<=lid/\lid<=13/\kd lid=nE kind)) (w: ∀w,wh=some w->w=2∨w=12)
inductive Lf(g b1 b2:Bool)(S:List Int):Tr->Prop
 |eff:Lf g b1 b2 S .eff
 |Dy:Lf g b1 b2 S .Dy
 |go {l:Int}:l∈S->Lf g b1 b2 S (.go l)
 |w9 {lid:Nat} {w l:Int}:(lid=2∨lid=12)->l∈S->Lf g b1 b2 S (.w9 lid w l)
 |tab {ls:List Int}:ls.length<=2->(∀l∈ls,l∈S)->Lf g b1 b2 S (.tab ls)
 |ret:b1=false->Lf g b1 b2 S (.ret g)
 |OP:b2=true->Lf g b1 b2 S (.lO none)
 |lO {lid:Nat}:(lid=5∨lid=6∨lid=13)->Lf g b1 b2 S (.lO<|some lid)
inductive Md where
 |s (b1 b2:Bool)|l (b1 b2:Bool)|r (b1:Bool)
noncomputable def Md.on:Md->Prop->Prop->Prop->Prop
 | .s _ _,p,_,_=>p
 | .l _ _,_,p,_=>p
 | .r _,_,_,p=>p
class inductive Ws(g:Bool):Md->List Int->Int->Int->Nat->Nat->Tr->Prop
 |leaf {b1 b2:Bool} {S:List Int} {a:Int} {d n:Nat} {t:Tr}:Lf g b1 b2 S t->8<=d->16<=n->Ws g (.s b1 b2) S a a d n t
 |nil {b1 b2:Bool} {S:List Int} {a:Int} {d:Nat}:Ws g (.l b1 b2) S a a d 0 .nil
 |cons {b1 b2:Bool} {S:List Int} {a y z:Int} {d n m:Nat} {t ts:Tr}:Ws g (.s b1 b2) S a y d n t->Ws g (.l b1 b2) S y z d m ts->Ws g (.l b1 b2) S a z d (n+m) (.cons t ts)
 |dw {b1 b2:Bool} {S:List Int} {a z:Int} {d n:Nat} {ts:Tr}:Ws g (.l b1 b2) (S++[a]) (a+1) z d n ts->8<=d->Ws g (.l b1 b2) S a z d (1+n) (.cons (.dw a) ts)
 |qL {b1 b2:Bool} {S:List Int} {a z:Int} {d n e m:Nat} {ts:Tr}:Ws g (.l b1 b2) S a z d n ts->d+3<=e->n<=m->Ws g (.s b1 b2) S a z e m (.qL ts)
 |sV {b1:Bool} {S:List Int} {a:Int} {d:Nat}:Ws g (.r b1) S a a d 0 .nil
 |row {b1:Bool} {S:List Int} {a y z:Int} {d n m:Nat} {k:Int} {l:Nat} {w:Option Nat} {b r:Tr}:RowW k l w->Ws g (.s b1 true) S a y d n b->Ws g (.r b1) S y z d m r->Ws g (.r b1) S a z d (n+m+40) (.row k l w b r)
 |tL {b1:Bool} {S:List Int} {a z:Int} {d n:Nat} {b:Tr}:Ws g (.s true false) [] a z d n b->Ws g (.r b1) S a z d (n+40) (.row (-2) 0 none b .nil)
 |qz {b1 b2:Bool} {S:List Int} {a y z:Int} {d n m e k:Nat} {b rows:Tr}:Ws g (.s b1 b2) S a y d n b->Ws g (.r b1) S y z d m rows->d+14<=e->n+m+20<=k->Ws g (.s b1 b2) S a z e k (.qz b rows)
 |iD {b1 b2:Bool} {S:List Int} {a x y z:Int} {d n m p e k:Nat} {b rows last:Tr}:Ws g (.s b1 b2) S a x d n b->Ws g (.r b1) S x y d m rows->Ws g (.s true false) [] y z d p last->d+14<=e->n+m+p+40<=k->Ws g (.s b1 b2) S a z e k (.iD b rows last)
theorem vH{N k:Nat}(h:k<=N): ∃n,N=n+k:=⟨N-k,(Nat.sub_add_cancel h).symm⟩
variable [Key]
section
variable{q:Fx}{st:St}{s t:List PO}{R:Type}{K:KV R}{u g:Bool}{X:Cx}{n j:Nat}{Μ:List Int}{H:Hp}
noncomputable def Eh:D->Nat
 | .tup l=>match l with
  | .int k::_=>k.toNat
  |_=>0
 |_=>0
theorem uO{t:Tr}(h:Eh t.dv≠0)(m:Nat):iw m (.d t.dv)=(m==0):=by
 generalize t.dv=x at h
 cases x with
 |none=>exact absurd rfl h
 |_=>induction m<;>rfl
theorem SV{b rows:Tr}(hb:Em g Μ (n+9) b)(h:Rws (Er g Μ<|n+8) rows):Em g Μ (n+14) (.qz b rows):=λz lb r s st=>by
 show Sk (.tup [.int 14,b.dv,.tup rows.fW,.none]) _ s Μ (n+14) st (st.s8 rows.fN (eT b) (eT rows) z)
 refine fh (v:=.none) 14 (λ_=>rfl) rfl rfl ?_
 have e:Β Μ (n+11) false 61 [em,.tup [.int 14,b.dv,.tup rows.fW,.none]] (W ⟨g,r,lb⟩ st s)=some (.none,W ⟨g,r,lb⟩ (st.s8 rows.fN (eT b) (eT rows) z) s):=by rw[ja rfl rfl];simp[qM (z:=z) hb h]
 simp[uc e]
theorem MZ{b rows t:Tr}(hb:Em g Μ (n+9) b)(h:Rws (Er g Μ<|n+8) rows)(ht:Em g Μ (n+10) t)(h0:Eh t.dv≠0):Em g Μ (n+14) (.iD b rows t):=λz lb r s st=>by
 show Sk (.tup [.int 14,b.dv,.tup rows.fW,t.dv]) _ s Μ (n+14) st (st.H7 rows.fN (eT b) (eT rows) (eT t) z)
 refine fh (v:=.none) 14 (λ_=>rfl) rfl rfl ?_
 have ihb {st:St} {R:Type} {K:KV R}:un (Β Μ (n+10) false 34 [em,.d t.dv]<|W ⟨g,r,lb⟩ st s) K=K .none (W ⟨g,r,lb⟩ (eT t z st).1 s):=ht z lb r s st
 have e:Β Μ (n+11) false 61 [em,.tup [.int 14,b.dv,.tup rows.fW,t.dv]] (W ⟨g,r,lb⟩ st s)=some (.none,W ⟨g,r,lb⟩ (st.H7 rows.fN (eT b) (eT rows) (eT t) z) s):=by
  rw[ja rfl rfl]
  unfold St.H7
  simp[uO h0,ihb,ou [],qM (z:=z) hb h,mS,bR,fV 221 [],fV 220 [],wZ 3 [],fj]
  refine(nY (c:=⟨2,_,_,_,_,0,(st.nl [] st.pa).et.rc,(((st.nl [] st.pa).et.s8 rows.fN (eT b) (eT rows) z).add 221 (.i<|st.made-1) []).lr.rc+1,st.pa,none⟩) rfl).trans ?_
  simp[fj,Ko,Kn]
 simp[uc e]
theorem RowW.ok{k:Int}{l:Nat}{w:Option Nat}(h:RowW k l w):Bp k l w:=
 ⟨h.1.imp_right λx=>.inr ⟨by omega,x.2⟩,h.2.elim (λe=>e▸ϋ _) λx=>x.2.1,λw e=>by have:=h.3 w e;omega,λe=>by have:=h.1;omega⟩
theorem VC{b1 b2:Bool}{S:List Int}{t:Tr}(h:Lf g b1 b2 S t):Em g Μ (n+8) t:=by
 induction h with
 |eff=>exact λz lb r s st=>SI
 |Dy=>exact λz lb r s st=>SK
 |go _=>exact λz lb r s st=>Xk
 |w9 h _=>exact λz lb r s st=>SH (by omega) (by omega)
 |tab _ _=>exact λz lb r s st=>SQ
 |ret _=>exact λz lb r s st=>SN
 |OP _=>exact λz lb r s st=>MY
 |lO h=>exact λz lb r s st=>SR (by omega) (by omega)
theorem yi{md:Md}{S:List Int}{a y:Int}{d m:Nat}{t:Tr}(w:Ws g md S a y d m t):md.on (Eh t.dv≠0) True True:=by
 induction w with
 |leaf h _ _=>induction h with|_=>exact λe=>aD e
 |qL _ _ _ _=>exact λe=>aD e
 |qz _ _ _ _ _ _=>exact λe=>aD e
 |iD _ _ _ _ _ _ _ _=>exact λe=>aD e
 |_=>trivial
theorem VA{md:Md}{S:List Int}{a y:Int}{d m:Nat}{t:Tr}(w:Ws g md S a y d m t): ∀N,d<=N->md.on (Em g Μ N t) (Seq (Em g Μ N) t) (Rws (Er g Μ N) t):=by
 induction w with
 |leaf h hd _=>exact λN hN=>by obtain⟨n,rfl⟩:=vH (η hd hN);exact VC h
 |nil=>exact λN _=>.nil
 |sV=>exact λN _=>.nil
 |cons _ _ h1 h2=>exact λN hN=>.cons (h1 N hN)<|h2 N hN
 |dw _ hd h2=>exact λN hN=>.cons (by obtain⟨n,rfl⟩:=vH (η hd hN);exact λz lb r s st=>SJ)<|h2 N hN
 |qL _ hd _ h=>
  intro N hN
  refine(vH<|η (ϣ 3 _)<|η hd hN).elim λn e_1=>?_
  subst e_1
  exact SD<|h n<|ϫ<|η hd hN
 |row hr _ _ h1 h2=>exact λN hN=>.row ⟨hr.ok,h1 N hN⟩<|h2 N hN
 |tL _ h1=>exact λN hN=>.row ⟨⟨.inr<|.inl rfl,ϋ _,λ_ e=>(Ϝ e),λ_=>rfl⟩,h1 N hN⟩ .nil
 |qz _ _ hd _ h1 h2=>
  intro N hN
  refine(vH<|η (ϣ 14 _)<|η hd hN).elim λn e_1=>?_
  subst e_1
  have:=ϫ<|η hd hN
  exact SV (h1 _<|ϔ this)<|h2 _<|ϔ this
 |iD _ _ w3 hd _ h1 h2 h3=>
  intro N hN
  obtain⟨n,rfl⟩:=vH<|η (ϣ 14 _)<|η hd hN
  have:=ϫ<|η hd hN
  exact MZ (h1 _<|ϔ this) (h2 _<|ϔ this) (h3 _<|ϔ this)<|yi w3
end
end J.Internal
namespace J.Internal
open P
variable [Key]
noncomputable def St.UR(st:St)(l:Int):St:={st with d9:=st.d9++[(l,st.regions)],ok:=(st.ok/\st.regions.length<=big)/\st.d9.length<big/\lk l st.d9=none}
noncomputable def St.nw(st:St)(wh:Option Nat):St:=match wh with
 |some _=>st.nr
 |none=>st
abbrev U6:=St->St
noncomputable def St.E_(st:St)(n:Bool)(f g:U6):St:=if n then f st else g (f<|st.er 0 []).lr
noncomputable def jx(t:Tr):U6:=@Tr.rec (λ_=>U6) (λst=>st) (λ_ _ f g st=>g<|f st) (λ_ _ w _ _ f g st=>g (f<|(st.nw w).er 0 []).lr) (λst=>st) (λst=>st) (λl st=>st.UR l) (λ_ st=>st) (λ_ _ _ st=>st) (λ_ st=>st) (λ_ st=>st) (λ_ st=>st)
 (λ_ f st=>f st) (λ_ r f g st=>st.E_ r.fN f g) (λ_ r _ f g h st=>(h<|((st.er 0 []).E_ r.fN f g).lr.er 0 []).lr) t
section
variable{q:Fx}{st:St}{s t:List PO}{R:Type}{K:KV R}{u g:Bool}{X:Cx}{n j:Nat}{Μ:List Int}{H:Hp}
abbrev Nt(Μ:List Int)(n:Nat)(t:Tr):Prop:=∀(q:Fx)(s:List PO)(st:St){R:Type}{K:KV R},un (Β Μ n false 66 [em,.d t.dv]<|W q st s) K=K .none (W q (jx t st) s)
theorem Mp{key:Int}{r:List D}(h1:(key==20)=false)(h2:(key==3)=false)(h3:(key==14)=false):un (Β Μ (n+1) false 66 [em,.tup<|.int key::r]<|W q st s) K=K .none (W q st s):=go rfl rfl (by simp[h1,h2,h3])
theorem yf:builtin 3 (.obj 47) (W q st s) K=K (.tup<|st.regions.map .int) (W q (st.ϴ<|st.regions.length<=big) s):=by
 refine(ϥ _).trans ?_
 show K (.tup<|st.regions.map D.int) (W q (st.ϴ<|(st.regions.map D.int).length<=big) s)=_
 rw[ς]
theorem M6{l:Int}:bF u (W q (st.ϴ<|st.regions.length<=big) s) (.obj 48) (.int l) (.tup<|st.regions.map .int)=some (W q (st.UR l) s):=by
 refine(ϥ _).trans ?_
 show some (Wc q ((st.ok/\_)/\(st.d9.map λx=>(x.1,V.tup<|x.2.map .int)).length<big/\look l (pv st.d9)=none) _ _ _ _ _ _ _ ((st.d9.map λx=>(x.1,V.tup<|x.2.map .int))++[_]) s)=_
 rw[look_pv,(xR (f:=λx:List Int=>V.tup<|x.map .int) (p:=True)).2]
 exact congrArg (λz=>some<|Wc q _ _ _ _ _ _ _ _ z s)<|sJ (f:=λx:Int×List Int=>(x.1,V.tup<|x.2.map .int)) (a:=(l,st.regions))
theorem R0{l:Int}:un (Β Μ (n+1) false 66 [em,.tup [.int 20,.int l]]<|W q st s) K=K .none (W q (st.UR l) s):=go rfl rfl (by simp[yf,M6])
theorem V5:W q (st.nr.pr (st.rc+1) 0 []) s=W q (st.er 0 []) s:=rfl
theorem oZ{t:Tr}(h:Nt Μ (n+1) t):un (Β Μ (n+2) false 67 [em,.d t.dv]<|W q st s) K=K .none (W q (jx t<|st.er 0 []).lr s):=go rfl rfl (by simp[g_ 0 [],h q s,V5])
theorem RZ{ts:Tr}(h:Seq (Nt Μ n) ts):Nt Μ (n+1) (.qL ts):=λq s st R K=>by
 show un (Β Μ (n+1) false 66 [em,.tup [.int 3,.tup ts.fW,.int 0]]<|W q st s) _=_
 refine go rfl rfl ?_
 dsimp
 refine(CB (te:=L 2) (en:=λv=>[some em,some<|.tup [.int 3,.tup ts.fW,.int 0],v]) (hp:=λst=>W q st s) (run:=jx) jx (λ_=>rfl) (λ_ _ _=>rfl) (λt st v ih=>bT.trans ?_) h st none).elim λv e=>e.trans ?_
 ·have ih {K:KV (Fl×Env×Hp)}:=ih q s st (K:=K)
  simp[ih]
 ·simp;rfl
theorem Ds{rows:Tr}{x:V}{k0:KS R}{res:Option R}(h:Rws (λ_ _ _=>Nt Μ<|n+1) rows)(hd: ∀v,k0 .next [some em,some x,v] (W q (jx rows st) s)=res):
 lq (L 2) (wX ⟨Μ,Β Μ (n+2) false,false⟩<|k (ifs (P.Is 0<|P.X (L 2)<|I 2) (k (ex<|Fn 43<|k (L 0) z) z) z)<|k (ex<|Fn 67<|k (L 0)<|k (P.X (L 2)<|I 3) z) z) [some em,some x,none] k0 rows.fW none (W q st s)=res:=by
 refine(CA (te:=L 2) (en:=λv=>[some em,some x,v]) (hp:=λst=>W q st s) (run:=jx) (λ_ _ w b st=>(jx b<|(st.nw w).er 0 []).lr) (λ_=>rfl) (λ_ _ _ _ _ _=>rfl) (λk l w b st v ih=>bT.trans ?_) h st none).elim λv e=>e.trans<|hd v
 unfold pG
 induction w<;>simp[pL,oZ ih,St.nw]
theorem R2{b rows:Tr}(h1:Nt Μ (n+1) b)(h2:Nt Μ (n+2) b)(h3:Rws (λ_ _ _=>Nt Μ<|n+1) rows):Nt Μ (n+4) (.qz b rows):=λq s st R K=>by
 have e:Β Μ (n+3) false 68 [em,.tup [.int 14,b.dv,.tup rows.fW,.none]] (W q st s)=some (.none,W q (st.E_ rows.fN (jx b)<|jx rows) s):=by
  rw[ja rfl rfl]
  unfold St.E_
  induction h0:rows.fN with
  |true=>simp[(fQ h3).trans h0,h2 q s st]
  |false=>
   simp[(fQ h3).trans h0,oZ h1]
   refine Ds h3 λv=>?_
   simp
 show un (Β Μ (n+4) false 66 [em,.tup [.int 14,b.dv,.tup rows.fW,.none]]<|W q st s) _=K .none (W q (st.E_ rows.fN (jx b)<|jx rows) s)
 exact go rfl rfl (by simp[uc e])
theorem Mq{b rows t:Tr}(h1:Nt Μ (n+1) b)(h2:Nt Μ (n+2) b)(h3:Rws (λ_ _ _=>Nt Μ<|n+1) rows)(h4:Nt Μ (n+1) t)(h0:Eh t.dv≠0):Nt Μ (n+4) (.iD b rows t):=λq s st R K=>by
 have e:Β Μ (n+3) false 68 [em,.tup [.int 14,b.dv,.tup rows.fW,t.dv]] (W q st s)=some (.none,W q (jx t<|((st.er 0 []).E_ rows.fN (jx b)<|jx rows).lr.er 0 []).lr s):=by
  rw[ja rfl rfl]
  unfold St.E_
  induction h:rows.fN with
  |true=>simp[(fQ h3).trans h,h2 q s,uO h0,g_ 0 [],V5,oZ h4]
  |false=>
   simp[(fQ h3).trans h,oZ h1,uO h0,g_ 0 [],V5]
   refine Ds h3 λv=>?_
   simp[uO h0,oZ h4]
 show un (Β Μ (n+4) false 66 [em,.tup [.int 14,b.dv,.tup rows.fW,t.dv]]<|W q st s) _=K .none (W q (jx t<|((st.er 0 []).E_ rows.fN (jx b)<|jx rows).lr.er 0 []).lr s)
 exact go rfl rfl (by simp[uc e])
theorem WN{md:Md}{S:List Int}{a y:Int}{d m:Nat}{t:Tr}(w:Ws g md S a y d m t): ∀N,d<=N->md.on (Nt Μ N t) (Seq (Nt Μ N) t) (Rws (λ_ _ _=>Nt Μ N) t):=by
 induction w with
 |leaf h hd _=>
  intro N hN
  refine(vH<|η (η (show 1<=8 by decide) hd) hN).elim λn e_1=>?_
  subst e_1
  induction h<;>exact λq s st=>Mp rfl rfl rfl
 |nil=>exact λN _=>.nil
 |sV=>exact λN _=>.nil
 |cons _ _ h1 h2=>exact λN hN=>.cons (h1 N hN)<|h2 N hN
 |dw _ hd h2=>exact λN hN=>.cons (by obtain⟨n,rfl⟩:=vH (η (η (show 1<=8 by decide) hd) hN);exact λq s st=>R0)<|h2 N hN
 |qL _ hd _ h=>
  intro N hN
  refine(vH<|η (ϣ 3 _)<|η hd hN).elim λn e_1=>?_
  subst e_1
  exact RZ<|h _<|ϔ<|ϫ<|η hd hN
 |row hr _ _ h1 h2=>exact λN hN=>.row (h1 N hN)<|h2 N hN
 |tL _ h1=>exact λN hN=>.row (h1 N hN) .nil
 |qz _ _ hd _ h1 h2=>
  intro N hN
  obtain⟨n,rfl⟩:=vH<|η (ϣ 14 _)<|η hd hN
  have:=ϫ<|η hd hN
  exact λq s st=>R2 (n:=n+10) (h1 _<|ϔ (k:=11) this) (h1 _<|ϔ (k:=12) this) (h2 _<|ϔ (k:=11) this) q s st
 |iD _ _ w3 hd _ h1 h2 h3=>
  intro N hN
  obtain⟨n,rfl⟩:=vH<|η (ϣ 14 _)<|η hd hN
  have:=ϫ<|η hd hN
  exact λq s st=>Mq (n:=n+10) (h1 _<|ϔ (k:=11) this) (h1 _<|ϔ (k:=12) this) (h2 _<|ϔ (k:=11) this) (h3 _<|ϔ (k:=11) this) (yi w3) q s st
noncomputable def bK(op:Int):Bool:=op==56||(op==42||(op==122||(op==221||(op==65050||(op==220||op==65041)))))
end
noncomputable def St.oe(st:St):Bool:=match st.code.getLast? with
 |none=>true
 |some i=>!bK i.op||st.pend
noncomputable def St.mk?(st:St):St:=match st.bZ with
 |some k=>st.mark k
 |none=>st
noncomputable def St.fin(st:St)(g:Bool):St:=
 if g then
  let s1:=if st.oe then(st.add 20 (.i 0) [.v 14]).add 122 (.i 0) [] else st
  match s1.bZ with
  |some k=>((s1.mark k).add 65036 (.i s1.fJ) [.v 13]).add 42 (.i 0) []
  |none=>s1
 else if st.mk?.oe then st.mk?.add 42 (.i 0) [] else st.mk?
noncomputable def St.r0(st:St):St:={st with rc:=0}
noncomputable def St.init:St:=⟨True,[],[],0,[],[],[],[],0,[],none,-1,[],[],[]⟩
noncomputable def oF(g:Bool)(t:Tr):St:=(V3 t (jx t St.init).r0).fin g
section
variable{q:Fx}{st:St}{s t:List PO}{R:Type}{K:KV R}{u g:Bool}{X:Cx}{n j:Nat}{Μ:List Int}{H:Hp}
@[simp high] theorem cutH:H.cut H.c.length=H:=congrArg (Hp.mk H.ok)<|aY ..
theorem wY{op:Int}:un (Β Μ (n+1) false 16 [.int op] H) K=K (.bool<|bK op) H:=by
 refine go rfl rfl ?_
 unfold bK
 cases h1:op==56
 ·cases h2:op==42
  ·cases h3:op==122
   ·cases h4:op==221
    ·cases h5:op==65050
     ·cases h6:op==220<;>simp[h1,h2,h3,h4,h5,h6]
     ·simp[h1,h2,h3,h4,h5]
    ·simp[h1,h2,h3,h4]
   ·simp[h1,h2,h3]
  ·simp[h1,h2]
 ·simp[h1]
theorem F3{α:Type}{l:List α}{i:α}:at? (l++[i]) (((l++[i]).length:Int)-1)=some i:=by
 have:((l++[i]).length:Int)-1=(l.length:Nat):=by rw[θ];simp
 rw[this,cP,Ϟ]
theorem j4:un (Β Μ (n+2) false 69 [em]<|W q st s) K=K (.bool st.oe) (W q st s):=by
 refine go rfl rfl ?_
 rcases iY st.code with h|⟨l,i,h⟩
 ·have:st.oe=true:=by unfold St.oe;rw[h];rfl
  simp[h,this]
 ·rw[iW] at h
  have e1:st.oe=(!bK i.op||st.pend):=by unfold St.oe;rw[h,vP]
  have e0:((st.code.length:Int)==0)=false:=by rw[beq_eq_false_iff_ne,h,θ];simp;exact pQ.mp rfl
  have e2 {K:KV (V×Hp)}:gE (st.code.map d_.dv) ((st.code.length:Int)-1) K (W q st s)=K (.d i.dv) (W q st s):=l_ (by
   rw[show(st.code.length:Int)=((st.code.map d_.dv).length:Nat) by rw[ς],h,Ξ]
   exact F3)
  rw[e1]
  induction he:bK i.op with
  |false=>simp[e0,e2,d_.dv,wY,he]
  |true=>
   simp[e0,e2,d_.dv,wY,he]
   exact uS (λhp l m=>by simp[hp]) (λhp v=>by simp[hp]) none
@[simp high] theorem fmP{l:Int}:(st.mark l).fJ=st.fJ:=rfl
theorem wW:un (Β Μ (n+3) false 70 [em]<|W q st s) K=K .none (W q (st.fin q.g) s):=by
 refine go rfl rfl ?_
 unfold St.fin
 induction hg:q.g with
 |false=>
  unfold St.mk?
  cases hr:st.bZ with
  |none=>cases ho:st.oe<;>simp[ig,hg,hr,j4,ho,fV 42 []]
  |some k=>cases ho:(st.mark k).oe<;>simp[ig,hg,hr,j4,ho,fV 42 [],fj]
 |true=>
  cases ho:st.oe<;>cases hr:st.bZ<;>simp[ig,hg,hr,j4,ho,fV 42 [],fV 65036 [.v 13],fV 20 [.v 14],fV 122 [],fj]
@[simp high] theorem setRc0:setattr u (W q st s) 46 (.int 0) em=some (W q st.r0 s):=rfl
theorem uC{S:List Int}{b1 b2:Bool}{a y:Int}{d m:Nat}{t:Tr}{lb:Int}{r:List D}(w:Ws g (.s b1 b2) S a y d m t)(h:d<=n+3):un (Β Μ (n+4) false 71 [em,.d t.dv]<|W ⟨g,r,lb⟩ st s) K=K .none (W ⟨g,r,lb⟩ ((V3 t (jx t st).r0).fin g) s):=by
 have h1 {st:St} {R:Type} {K:KV R}:un (Β Μ (n+3) false 66 [em,.d t.dv]<|W ⟨g,r,lb⟩ st s) K=K .none (W ⟨g,r,lb⟩ (jx t st) s):=WN w (n+3) h _ _ _
 have h2 {st:St} {R:Type} {K:KV R}:un (Β Μ (n+3) false 34 [em,.d t.dv]<|W ⟨g,r,lb⟩ st s) K=K .none (W ⟨g,r,lb⟩ (V3 t st) s):=VA w (n+3) h z0 lb r s st
 exact go rfl rfl (by simp[h1,h2,wW])
structure BS where
 rest:List Int
 dw:Int
noncomputable def BS.hd(b:BS):Int:=b.rest.headD 0
noncomputable def BS.tl(b:BS):BS:=⟨b.rest.tail,b.dw⟩
@[simp high] theorem tlLab{b:BS}:b.tl.dw=b.dw:=rfl
abbrev Sub:=List Int->Int×Int->BS->Tr×BS
noncomputable def pick(l:List Int)(i:Int):Int:=l.getD (i%l.length).toNat 0
noncomputable def gM(sb:Sub)(scope:List Int)(bars:Int×Int):Nat->BS->Tr×BS
 |0,b=>(.nil,b)
 |n+1,b=>
  let w:=b.hd
  let lid:Nat:=[7,8,9,10,11].getD (w%5).toNat 0
  let kind:Int:=if lid=7 then -1 else kd lid
  let wh:Option Nat:=[none,some 2,some 12].getD (w/10%3).toNat none
  let r:=sb scope (bars.1,1) b.tl
  let q:=gM sb scope bars n r.2
  (.row kind (if w/5%2=0 then 0 else lid) wh r.1 q.1,q.2)
end
noncomputable def rG(sb:Sub)(k t:Int)(scope:List Int)(bars:Int×Int)(b:BS):Tr×BS:=
 let r:=sb scope bars b
 if k=9/\t%2≠0 then
  let h:=sb [] (1,0) r.2
  (.qz r.1<|.row (-2) 0 none h.1 .nil,h.2)
 else
  let q:=if k=9 then(.nil,r.2) else gM sb scope bars (1+t%2).toNat r.2
  if k=8∨k=9 then
   let l:=sb [] (1,0) q.2
   (.iD r.1 q.1 l.1,l.2)
  else(.qz r.1 q.1,q.2)
noncomputable def qJ(g:Bool)(k t:Int)(scope:List Int)(bars:Int×Int):Tr:=
 if k=2/\scope≠[] then .go (pick scope t)
 else if k=3/\scope≠[] then .w9 (if t/2%2=0 then 2 else 12) (t%2) (pick scope<|t/4)
 else if k=4/\scope≠[] then .tab ((ϗ (t%3).toNat).map λ(j:Nat)=>pick scope<|t/3+j)
 else if k=5/\bars.1=0 then .ret g
 else if k=6/\bars.2≠0/\t%4=3 then .lO none
 else if k=6 then .lO (some<|[5,6,13].getD (t%3).toNat 0)
 else if k=1 then .Dy
 else .eff
noncomputable def gu(g:Bool)(sub:Option Sub)(scope:List Int)(bars:Int×Int)(b:BS):Tr×BS:=
 match sub with
 |some sb=>
  if b.hd%12=7∨b.hd%12=8∨b.hd%12=9∨b.hd%12=10 then rG sb (b.hd%12) (b.hd/12) scope bars b.tl
  else if b.hd%12=11 then sb scope bars b.tl
  else(qJ g (b.hd%12) (b.hd/12) scope bars,b.tl)
 |none=>(qJ g (b.hd%12) (b.hd/12) scope bars,b.tl)
noncomputable def i8(g:Bool)(sub:Option Sub)(scope:List Int)(bars:Int×Int):Nat->BS->Tr×BS
 |0,b=>(.nil,b)
 |n+1,b=>let r:=gu g sub scope bars b;let q:=i8 g sub scope bars n r.2;(.cons r.1 q.1,q.2)
noncomputable def qK(g:Bool)(sub:Option Sub):Sub:=λscope bars b=>
 let n:=(1+b.hd/2%3).toNat
 if b.hd%2=0 then let q:=i8 g sub scope bars n b.tl;(.qL q.1,q.2)
 else let q:=i8 g sub (scope++[b.dw]) bars n ⟨b.tl.rest,b.dw+1⟩;(.qL<|.cons (.dw b.dw) q.1,q.2)
noncomputable def bL(g:Bool):Nat->Sub
 |0=>qK g none
 |f+1=>qK g<|some<|bL g f
noncomputable def Bh(g:Bool)(b:BS)(s:List PO):Hp:=⟨True,(pre ⟨g,b.rest.map .int,b.dw⟩).take 14++s⟩
section
variable{g:Bool}{b:BS}{s t:List PO}{R:Type}{K:KV R}{u:Bool}{n:Nat}{Μ:List Int}{o o':PO}{H:Hp}{scope:List Int}{bars:Int×Int}
@[simp high] theorem bg13:(Bh g b s).get 13= .ds [(74,.obj 12),(54,.int b.dw),(75,.tup kinds),(76,.int (if g then 1 else 0))]:=rfl
@[simp high] theorem dRest:ϩ (Bh g b s) (.obj 13) (.d<|.str 74)=some (.obj 12):=rfl
@[simp high] theorem dLab:ϩ (Bh g b s) (.obj 13) (.d<|.str 54)=some (.int b.dw):=rfl
@[simp high] theorem dKinds:ϩ (Bh g b s) (.obj 13) (.d<|.str 75)=some (.tup kinds):=rfl
@[simp high] theorem dGives:ϩ (Bh g b s) (.obj 13) (.d<|.str 76)=some (.int (if g then 1 else 0)):=rfl
@[simp high] theorem rRest:resolve (Bh g b s) 67 (.obj 12)=some (.cell 12):=rfl
@[simp high] theorem lenB:(Bh g b s).c.length=s.length+14:=rfl
theorem e_:(Bh g b<|s++o::t).get (s.length+14)=o:=congrArg (·.getD .dead)<|h_
@[simp high] theorem bput_t:(Bh g b<|s++o::t).put (s.length+14) o'=Bh g b (s++o'::t):=congrArg (λx=>Bh g b x)<|ia
@[simp high] theorem bnew_t:(Bh g b s).new o=Bh g b (s++[o]):=rfl
@[simp high] theorem bcut_t:(Bh g b<|s++t).cut (s.length+14)=Bh g b s:=congrArg (λx=>Bh g b x) jG
@[simp high] theorem bcut_0:(Bh g b s).cut (s.length+14)=Bh g b s:=congrArg (λx=>Bh g b x)<|aY ..
theorem S8(l:List Int)(n:Nat):kF n (l.map .int)=true:=by
 induction l with
 |nil=>rfl
 |cons a l ih=>exact dg rfl ih
theorem Qy{l:List Int}:iL (.lst<|l.map .int) (.lst [])=some l.isEmpty:=by
 refine dg (b:=if(kF 5 (l.map .int)&&true)=true then some (kU (l.map .int) []) else none) rfl ?_
 rw[S8]
 induction l<;>rfl
@[simp high] theorem eqDn:iL (.lst []) (.lst [])=some true:=rfl
theorem Qz:eqv (Bh g b s) (.obj 12) (.lst [])=some b.rest.isEmpty:=Qy
@[simp high] theorem in2{i a b:Int}:isIn H (.int i) (.tup [.int a,.int b])=some (a==i||(b==i||false)):=rfl
@[simp high] theorem in4{i a b c d:Int}:isIn H (.int i) (.tup [.int a,.int b,.int c,.int d])=some (a==i||(b==i||(c==i||(d==i||false)))):=rfl
theorem G8{x:Int}{r:List Int}{dw:Int}:runC u (Bh g ⟨x::r,dw⟩ s) 12 67 [.int 0] K=K (.int x) (Bh g ⟨r,dw⟩ s):=ϥ _
theorem M5{v:Int}:bF u (Bh g b s) (.obj 13) (.d<|.str 54) (.int v)=some (Bh g ⟨b.rest,v⟩ s):=by
 refine(ϥ _).trans ?_
 show some (((Bh g b s).ϴ<|4<big).put 13 _)=_
 rw[bJ (by decide)];rfl
theorem rS:un (Β Μ (n+1) false 82 [.obj 13]<|Bh g b s) K=K (.int b.hd) (Bh g b.tl s):=by
 refine go rfl rfl ?_
 obtain⟨rest,dw⟩:=b
 induction rest with
 |nil=>simp[Qz,BS.hd,BS.tl]
 |cons x rest=>simp[Qz,BS.hd,BS.tl,G8]
theorem oU{lid:Nat}(hl:lid<=13):kinds[lid]? =some (.int<|kd lid):=by
 match lid,hl with
 |0,_=>rfl|1,_=>rfl|2,_=>rfl|3,_=>rfl|4,_=>rfl|5,_=>rfl|6,_=>rfl|7,_=>rfl|8,_=>rfl|9,_=>rfl|10,_=>rfl|11,_=>rfl|12,_=>rfl|13,_=>rfl
 |k+14,h=>omega
theorem w6{lid:Nat}(hl:lid<=13):un (Β Μ (n+1) false 83 [.obj 13,.int lid]<|Bh g b s) K=K (.d<|jy lid) (Bh g b s):=by
 exact go rfl rfl (by simp[oU hl,jy])
theorem d4{a:Int}:(∀{K:KV R},bA 4 (.int a) K (.int 2) H=K (.int<|a/2) H)/\(∀{K:KV R},bA 4 (.int a) K (.int 3) H=K (.int<|a/3) H)/\(∀{K:KV R},bA 4 (.int a) K (.int 4) H=K (.int<|a/4) H)/\(∀{K:KV R},bA 4 (.int a) K (.int 5) H=K (.int<|a/5) H)/\(∀{K:KV R},bA 4 (.int a) K (.int 10) H=K (.int<|a/10) H)/\(∀{K:KV R},bA 4 (.int a) K (.int 12) H=K (.int<|a/12) H):=
 ⟨Ot (by decide) (by decide),Ot (by decide) (by decide),Ot (by decide) (by decide),Ot (by decide) (by decide),Ot (by decide) (by decide),Ot (by decide) (by decide)⟩
theorem d5{a:Int}:(∀{K:KV R},bA 5 (.int a) K (.int 2) H=K (.int<|a%2) H)/\(∀{K:KV R},bA 5 (.int a) K (.int 3) H=K (.int<|a%3) H)/\(∀{K:KV R},bA 5 (.int a) K (.int 4) H=K (.int<|a%4) H)/\(∀{K:KV R},bA 5 (.int a) K (.int 5) H=K (.int<|a%5) H)/\(∀{K:KV R},bA 5 (.int a) K (.int 12) H=K (.int<|a%12) H):=
 ⟨Kz (by decide) (by decide),Kz (by decide) (by decide),Kz (by decide) (by decide),Kz (by decide) (by decide),Kz (by decide) (by decide)⟩
noncomputable abbrev bV(bars:Int×Int):V:=.tup [.int bars.1,.int bars.2]
abbrev Sb(Μ:List Int)(g:Bool)(N:Nat)(deep:Int)(f:Nat)(sb:Sub):Prop:=∀{R:Type}{K:KV R}(scope:List Int)(bars:Int×Int) b s,scope.length+f<1000->un (Β Μ N false 84 [.obj 13,.int deep,.lst<|scope.map .int,bV bars]<|Bh g b s) K=K (.d (sb scope bars b).1.dv) (Bh g (sb scope bars b).2 s)
abbrev Sx(Μ:List Int)(g:Bool)(N:Nat)(deep:Int)(sub:Option Sub)(scope:List Int)(bars:Int×Int):Prop:=∀{R:Type}{K:KV R}(b:BS)(s:List PO),un (Β Μ N false 85 [.obj 13,.int deep,.lst<|scope.map .int,bV bars]<|Bh g b s) K=K (.d (gu g sub scope bars b).1.dv) (Bh g (gu g sub scope bars b).2 s)
noncomputable abbrev lE(deep:Int)(sc:D)(bars:Int×Int)(v:Int)(j:Nat)(w:D)(x:Option V):Env:=[some<|.obj 13,some<|.int deep,some<|.d sc,some<|bV bars,some<|.int v,some<|.obj j,some<|.d w,x]
inductive YY(g:Bool)(sub:Option Sub)(scope:List Int)(bars:Int×Int)(res:Tr×BS)(n0:Nat)(l:List Nat)(z:Option V×List D×BS):Prop
 |mk (e:res.1.fW=z.2.1++(i8 g sub scope bars l.length z.2.2).1.fW) (b:res.2=(i8 g sub scope bars l.length z.2.2).2) (n:n0+z.2.1.length+l.length<10)
theorem BW{deep v:Int}{sub:Option Sub}{sc:D}{pr:List D}{m:Nat}{k0:KS R}{r:Option R}(h:Sx Μ g n deep sub scope bars)(hp:pr.length+m<10)
 (hd: ∀x,k0 .next (lE deep sc bars v (s.length+14) (.lst<|scope.map .int) x) (Bh g (i8 g sub scope bars m b).2<|s++[.list<|pr++(i8 g sub scope bars m b).1.fW])=r):
 lq (L 7) (wX ⟨Μ,Β Μ n false,false⟩<|k (ex<|M 1 (L 5)<|k (Fn 85<|k (L 0)<|k (L 1)<|k (L 6)<|k (L 3) z) z) z) (lE deep sc bars v (s.length+14) (.lst<|scope.map .int) none) k0 (Ϫ 0 m) none (Bh g b<|s++[.list pr])=r:=by
 rw[aa,<-Ν pr]
 refine(gy (en:=λz:Option V×List D×BS=>lE deep sc bars v (s.length+14) (.lst<|scope.map .int) z.1) (hp:=λz=>Bh g z.2.2<|s++[.list<|pr++z.2.1]) (YY g sub scope bars (i8 g sub scope bars m b) pr.length) (λ_ _ _ _=>rfl) (λi l z h1=>?_) (ϗ m) (none,[],b) ⟨by rw[ϲ];rfl,by rw[ϲ],by rw[ϲ];exact hp⟩).casesOn λz h1 e=>e.trans<|?_
 ·obtain⟨w,acc,b2⟩:=z
  exact⟨.next,(some<|.int i,acc++[(gu g sub scope bars b2).1.dv],(gu g sub scope bars b2).2),⟨h1.1.trans<|gZ ..,h1.2,by rw[θ];exact Τ (cC<|bN (pr.length+acc.length) l.length) h1.3⟩,.inl rfl,bT.trans (by simp[fZ e_,h,gp e_,bJ (mP (Τ (Ρ _ _) h1.3) (by decide):pr.length+acc.length<big)])⟩
 ·have:=hd z.1
  rw[h1.1.trans<|Ν _,h1.2] at this
  exact this
theorem Vm{a b:List D}(h:(a++b).length<=big):bA 0 (.lst a) K (.lst b) H=K (.lst<|a++b) H:=by rw[Vl,bJ h]
theorem oX{sub:Option Sub}: ∀{m:Nat}{b:BS},(i8 g sub scope bars m b).1.fW.length=m
 |0,_=>rfl
 |_+1,_=>congrArg (· +1) oX
theorem BV{deep:Int}{f:Nat}{sub:Option Sub}(h: ∀scope bars,scope.length+f<=1000->Sx Μ g (n+1) deep sub scope bars):Sb Μ g (n+2) deep f (qK g sub):=λscope bars b s hs=>by
 refine go rfl rfl ?_
 obtain⟨m,hm,hm2⟩: ∃m:Nat,1+b.hd/2%3=m/\m<=3:=⟨(1+b.hd/2%3).toNat,by have:=pM (b.hd/2) (show(3:Int)≠0 by decide);omega,by have:=lJ (b.hd/2) (show(0:Int)<3 by decide);omega⟩
 have sm:jK 0/\jK (m:Int):=⟨by decide,by unfold jK;omega⟩
 unfold qK
 rw[hm,ϡ]
 by_cases h2:b.hd%2=0
 ·simp[rS,d4,d5,h2,hm,JL sm]
  refine BW (h scope bars<|Ϩ hs) (Τ (aT hm2 _) (by decide)) λx=>?_
  simp[ng e_,num]
  rw[bJ (by rw[oX];exact η hm2 (by decide)),bcut_t]
  exact⟨rfl,rfl⟩
 ·have h3:(b.hd%2 !=0)=true:=bne_iff_ne.mpr h2
  have h4:0<big:=by decide
  have h5:(scope.map D.int++[D.int b.dw]).length<=big:=by rw[θ,ς];show scope.length+1<=1000000;omega
  simp[rS,d4,d5,h2,h3,hm,JL sm,fZ e_,gp e_,bJ h4,Vm h5,M5]
  rw[(sJ:scope.map D.int++[.int b.dw]=(scope++[b.dw]).map .int)]
  refine BW (pr:=[.tup [.int 20,.int b.dw]]) (h _ bars (by rw[θ];show scope.length+1+f<=1000;omega)) (show 1+m<10 by omega) λx=>?_
  simp[ng e_,num]
  rw[bJ (by rw[oX];show m+1<=1000000;omega),bcut_t]
  exact⟨rfl,rfl⟩
noncomputable abbrev yE(k0 t0 deep:Int)(sc:D)(bars:Int×Int)(bd:D)(j:Nat)(a b c d e:Option V):Env:=[some<|.obj 13,some<|.int k0,some<|.int t0,some<|.int deep,some<|.d sc,some<|bV bars,some<|.d bd,some<|.obj j,a,b,c,d,e,none]
noncomputable abbrev y1(body:E):E:=k (asg (L 9)<|Fn 82<|k (L 0) z)<|k (asg (L 10)<|P.X (Tu<|k (I 7)<|k (I 8)<|k (I 9)<|k (I 10)<|k (I 11) z)<|B 5 (L 9)<|I 5)<|k (asg (L 11)<|If (P.C 0 (L 10)<|I 7) (Ng<|I 1)<|P.X (P.X (L 0)<|Z 75)<|L 10) body
noncomputable abbrev y2(body:E):E:=k (asg (L 12)<|P.X (Tu<|k N<|k (I 2)<|k (I 12) z)<|B 5 (B 4 (L 9)<|I 10)<|I 3)<|k (ifs (Is 0<|L 12) (k (asg (L 12)<|Fn 83<|k (L 0)<|k (L 12) z) z) z) body
noncomputable abbrev yB:E:=y1<|y2<|k (ex<|M 1 (L 7)<|k (Tu<|k (L 11)<|k (If (B 5 (B 4 (L 9)<|I 5)<|I 2) (L 10)<|I 0)<|k (L 12)<|k (Fn 84<|k (L 0)<|k (B 0 (L 3)<|I 1)<|k (L 4)<|k (Tu<|k (P.X (L 5)<|I 0)<|k (I 1) z) z) z) z) z
theorem d8(a:Int)(m:Nat)(h:0<m): ∃k:Nat,a% (m:Int)=k/\k<m:=⟨(a%m).toNat,by have:=pM a (show(m:Int)≠0 by omega);omega,by have:=lJ a (show(0:Int)<m by omega);omega⟩
noncomputable def TU:Option Nat->D
 |some k=>.int k
 |none=>.none
theorem getM{α:Type}{f:α->D}{l:List α}{w:Nat}{d:α}(h:w<l.length):(l.map f)[w]? =some (f<|l.getD w d):=by rw[ϒ,bh,ϊ h];rfl
theorem Gf{k0 t0 deep:Int}{bd:D}{x a1 a2 a3 a4:Option V}{f:Nat}{sb:Sub}{l:List D}(h:Sb Μ g (n+1) (deep+1) f sb)(hs:scope.length+f<1000)(hl:l.length<big):
 let w:=b.hd
 let lid:Nat:=[7,8,9,10,11].getD (w%5).toNat 0
 let kind:Int:=if lid=7 then -1 else kd lid
 let wh:Option Nat:=[none,some 2,some 12].getD (w/10%3).toNat none
 let r:=sb scope (bars.1,1) b.tl
 wX ⟨Μ,Β Μ (n+1) false,false⟩ yB (yE k0 t0 deep (.lst<|scope.map .int) bars bd (s.length+14) x a1 a2 a3 a4) (Bh g b<|s++[.list l]) rt=some (.next,yE k0 t0 deep (.lst<|scope.map .int) bars bd (s.length+14) x (some<|.int w) (some<|.int lid) (some<|.int kind)<|some<|.d<|pL wh,Bh g r.2<|s++[.list<|l++[.tup [.int kind,.int (if w/5%2=0 then 0 else lid:Nat),pL wh,r.1.dv]]]):=by
 intro w lid kind wh r
 obtain⟨w5,h5,h5l⟩:=d8 w 5 (by decide)
 obtain⟨w3,h3,h3l⟩:=d8 (w/10) 3 (by decide)
 have e5:([.int 7,.int 8,.int 9,.int 10,.int 11]:List D)[w5]? =some (.int lid):=by
  show _=some (D.int (([7,8,9,10,11].getD (w%5).toNat 0:Nat):Int))
  rw[show w%5=(w5:Int) from h5]
  exact getM (l:=[7,8,9,10,11]) (f:=λ(n:Nat)=>D.int n) h5l
 have hlid:lid<=13:=by
  show [7,8,9,10,11].getD (w%5).toNat 0<=13
  rw[show w%5=(w5:Int) from h5]
  exact(by decide: ∀w,w<5->[7,8,9,10,11].getD w 0<=13) w5 h5l
 have e3:([.none,.int 2,.int 12]:List D)[w3]? =some (TU wh)/\∀w,wh=some w->w<=13:=by
  show _=some (TU<|[none,some 2,some 12].getD (w/10%3).toNat none)/\∀w',[none,some 2,some 12].getD (w/10%3).toNat none=some w'->w'<=13
  rw[show w/10%3=(w3:Int) from h3]
  exact⟨getM (l:=[none,some 2,some 12]) (f:=TU) h3l,λw' e=>((by decide: ∀k,k<3->(([none,some 2,some 12]:List (Option Nat)).getD k none=none∨([none,some 2,some 12]:List (Option Nat)).getD k none=some 2∨([none,some 2,some 12]:List (Option Nat)).getD k none=some 12)) w3 h3l).elim (λh=>Ϝ<|h.symm.trans e) λh=>h.elim (λh=>ξ (h.symm.trans e)▸by decide) λh=>ξ (h.symm.trans e)▸by decide⟩
 have hr:r=sb scope (bars.1,1) b.tl:=rfl
 have hw:w=b.hd:=rfl
 have hk:kind=if lid=7 then -1 else kd lid:=rfl
 clear_value w lid kind wh r
 subst hr hw hk
 have i5:b.hd%5=(w5:Int):=h5
 have i3:b.hd/10%3=(w3:Int):=h3
 obtain⟨e3,e3w⟩:=e3
 have i7:((lid:Int)==7)=decide (lid=7):=by rw[fD];simp;omega
 have p1 (body:E):wX ⟨Μ,Β Μ (n+1) false,false⟩ (y1 body) (yE k0 t0 deep (.lst<|scope.map .int) bars bd (s.length+14) x a1 a2 a3 a4) (Bh g b<|s++[.list l]) rt=wX ⟨Μ,Β Μ (n+1) false,false⟩ body (yE k0 t0 deep (.lst<|scope.map .int) bars bd (s.length+14) x (some<|.int b.hd) (some<|.int lid) (some<|.int (if lid=7 then -1 else kd lid)) a4) (Bh g b.tl<|s++[.list l]) rt:=by
  by_cases c1:lid=7<;>simp[rS,d5,i5,e5,i7,c1,oU hlid]
 have p2 (body:E) (v:V):wX ⟨Μ,Β Μ (n+1) false,false⟩ (y2 body) (yE k0 t0 deep (.lst<|scope.map .int) bars bd (s.length+14) x (some<|.int b.hd) (some<|.int lid) (some v) a4) (Bh g b.tl<|s++[.list l]) rt=wX ⟨Μ,Β Μ (n+1) false,false⟩ body (yE k0 t0 deep (.lst<|scope.map .int) bars bd (s.length+14) x (some<|.int b.hd) (some<|.int lid) (some v)<|some<|.d<|pL wh) (Bh g b.tl<|s++[.list l]) rt:=by
  induction wh with
  |none=>simp[d4,d5,i3,e3,pL,TU]
  |some w=>simp[d4,d5,i3,e3,pL,TU,w6<|e3w w rfl]
 refine(p1 _).trans<|(p2 _ _).trans ?_
 have ap {b:BS} {x:D} {K:KV (Fl×Env×Hp)}:runC false (Bh g b<|s++[.list l]) (s.length+14) 1 [.d x] K=K .none (Bh g b<|s++[.list<|l++[x]]):=by rw[gp e_,bJ hl,bput_t]
 have i2:(b.hd/5%2 !=0)= !decide (b.hd/5%2=0):=by rw[fD];simp
 have hh {K:KV (Fl×Env×Hp)}:un (Β Μ (n+1) false 84 [.obj 13,.int<|deep+1,.lst<|scope.map .int,.tup [.int bars.1,.int 1]]<|Bh g b.tl<|s++[.list l]) K=_:=h scope (bars.1,1) b.tl _ hs
 by_cases c2:b.hd/5%2=0<;>simp[d4,d5,c2,i2,fZ e_,hh,ap]
structure TS where
 (x a1 a2 a3 a4:Option V)
 acc:List D
 b:BS
noncomputable abbrev ZD(k0 t0 deep:Int)(sc:D)(bars:Int×Int)(bd:D)(j:Nat)(s:TS):Env:=yE k0 t0 deep sc bars bd j s.x s.a1 s.a2 s.a3 s.a4
inductive TI(sb:Sub)(scope:List Int)(bars:Int×Int)(res:Tr×BS)(l:List Nat)(s:TS):Prop
 |mk (e:res.1.fW=s.acc++(gM sb scope bars l.length s.b).1.fW) (b:res.2=(gM sb scope bars l.length s.b).2) (n:s.acc.length+l.length<10)
theorem oA{k0 t0 deep:Int}{bd:D}{f m:Nat}{sb:Sub}{k1:KS R}{r:Option R}(h:Sb Μ g (n+1) (deep+1) f sb)(hs:scope.length+f<1000)(hm:m<10)
 (hd: ∀x a b' c d,k1 .next (yE k0 t0 deep (.lst<|scope.map .int) bars bd (s.length+14) x a b' c d) (Bh g (gM sb scope bars m b).2<|s++[.list (gM sb scope bars m b).1.fW])=r):
 lq (L 8) (wX ⟨Μ,Β Μ (n+1) false,false⟩ yB) (yE k0 t0 deep (.lst<|scope.map .int) bars bd (s.length+14) none none none none none) k1 (Ϫ 0 m) none (Bh g b<|s++[.list []])=r:=by
 rw[aa]
 refine(gy (st:=none) (t:=L 8) (body:=wX ⟨Μ,Β Μ (n+1) false,false⟩ yB) (k0:=k1) (en:=ZD k0 t0 deep (.lst<|scope.map .int) bars bd<|s.length+14) (hp:=λz=>Bh g z.b<|s++[.list z.acc]) (f:=λk:Nat=>D.int (k:Int)) (TI sb scope bars<|gM sb scope bars m b) (λ_ _ _ _=>rfl) (λi l z h1=>?_) (ϗ m) ⟨none,none,none,none,none,[],b⟩ ⟨by rw[ϲ];rfl,by rw[ϲ],by rw[ϲ];exact Τ (cC<|aP m) hm⟩).casesOn λz h1 e=>e.trans (?_:_=r)
 ·exact⟨.next,⟨_,_,_,_,_,_,_⟩,⟨h1.1.trans<|gZ ..,h1.2,by rw[θ];exact Τ (cC<|bN _ _) h1.3⟩,.inl rfl,bT.trans<|Gf h hs<|mP (Τ (Ρ _ _) h1.3) (by decide)⟩
 ·have e1:=h1.1.trans<|Ν _
  have:=hd z.x z.a1 z.a2 z.a3 z.a4
  rw[e1,h1.2] at this
  exact this
theorem u_{sb:Sub}: ∀{m:Nat}{b:BS},(gM sb scope bars m b).1.fW.length=m
 |0,_=>rfl
 |_+1,_=>congrArg (· +1) u_
theorem PZ{k0 t0 deep:Int}{f:Nat}{sb:Sub}(h:Sb Μ g (n+1) (deep+1) f sb)(hs:scope.length+f<1000)(hk:k0=7∨k0=8∨k0=9∨k0=10):
 un (Β Μ (n+2) false 86 [.obj 13,.int k0,.int t0,.int deep,.lst<|scope.map .int,bV bars]<|Bh g b s) K=K (.d (rG sb k0 t0 scope bars b).1.dv) (Bh g (rG sb k0 t0 scope bars b).2 s):=by
 refine go rfl rfl ?_
 have h1 {b:BS} {s:List PO} {K:KV (V×Hp)}:un (Β Μ (n+1) false 84 [.obj 13,.int<|deep+1,.lst<|scope.map .int,.tup [.int bars.1,.int bars.2]]<|Bh g b s) K=_:=h scope bars b _ hs
 have h2 {b:BS} {s:List PO} {K:KV (V×Hp)}:un (Β Μ (n+1) false 84 [.obj 13,.int<|deep+1,.lst [],.tup [.int 1,.int 0]]<|Bh g b s) K=_:=h [] (1,0) b _<|Τ (bM (ϋ _) _) hs
 obtain⟨m,hm,hm2⟩: ∃m:Nat,1+t0%2=m/\m<=2:=⟨(1+t0%2).toNat,by have:=pM t0 (show(2:Int)≠0 by decide);omega,by have:=lJ t0 (show(0:Int)<2 by decide);omega⟩
 have sm:jK 0/\jK (m:Int):=⟨by decide,by unfold jK;omega⟩
 unfold rG
 rw[hm,ϡ]
 have rw{b:BS}:(gM sb scope bars m b).1.fW.length<=big:=by rw[u_];show m<=1000000;omega
 rcases hk with rfl|rfl|rfl|rfl
 ·simp[h1,h2,d5,hm,JL sm]
  refine oA h hs (Τ hm2 (by decide)) λx a b' c d=>?_
  simp[ng e_,num,bJ rw]
  rfl
 ·simp[h1,h2,d5,hm,JL sm]
  refine oA h hs (Τ hm2 (by decide)) λx a b' c d=>?_
  simp[ng e_,num,bJ rw,h2]
  rfl
 ·by_cases ht:t0%2=0
  ·simp[h1,h2,d5,ht,ng e_,num,bJ (p:=True) trivial]
   rfl
  ·have h3:(t0%2 !=0)=true:=bne_iff_ne.mpr ht
   simp[h1,h2,d5,ht,h3]
   rfl
 ·simp[h1,h2,d5,hm,JL sm]
  refine oA h hs (Τ hm2 (by decide)) λx a b' c d=>?_
  simp[ng e_,num,bJ rw]
  rfl
theorem F5{scope:List Int}(h:scope≠[])(i:Int):at? (scope.map D.int) (i%scope.length)=some (.int<|pick scope i):=by
 refine(d8 i scope.length (jS.mpr h:0<scope.length)).elim λk q_=>q_.elim λe hk=>?_
 unfold pick
 rw[e,cP,ϡ,ϒ,ϊ hk,bh,ϊ hk];rfl
theorem nC{scope:List Int}(h:scope≠[])(i:Int):ϩ H (.lst<|scope.map D.int) (.int<|i%scope.length)=some (.int<|pick scope i):=congrArg (vV V.d)<|F5 h i
theorem nI{scope:List Int}{f:Nat}(h:scope≠[])(hs:scope.length+f<=1000){a:Int}:bA 5 (.int a) K (.int scope.length) H=K (.int<|a%scope.length) H:=Kz (by have:=jS.mpr h;exact Int.natCast_pos.mpr this) (by unfold jK;omega)
theorem IY{ff:D->Hp->Option (Option D×Hp)}{gq:D->D}{K:List D->Hp->Option R}: ∀{l:List D},(∀x∈l,ff x H=some (some<|gq x,H))->gw none ff K l H=K (l.map gq) H
 |[],_=>rfl
 |x::l,h=>by
  show(match ff x H with
   |some (o,h)=>gw none ff (λq h=>K (jb o q) h) l h
   |none=>none)=_
  rw[h x<|.head _]
  exact IY (K:=λq h=>K (jb (some<|gq x) q) h) λy m=>h y<|.tail _ m
theorem C0{f:Env->Run (Option D×Hp) (KV<|Option D×Hp)}{gg:Env->Hp->(Bool->Hp->Option (Option D×Hp))->Option (Option D×Hp)}{n m:Nat}{env:Env}{l:List D}{gq:D->D}(h: ∀x∈l,(ob (rY n m env x) λe=>gg e H<|qt<|f e)=some (some<|gq x,H))(hl:l.length<=big):
 CZ f gg n m env K l none H=K (.lst<|l.map gq) H:=by
 refine(ϥ _).trans<|(IY h).trans ?_
 show K _ (H.ϴ<|(l.map gq).length<=big)=_
 rw[ς,bJ hl]
noncomputable def gP(scope:List Int)(a:Int):D->D
 | .int j=>.int<|pick scope<|a+j
 |_=>.none
theorem Wh{a j:Int}:gP scope a (.int j)= .int (pick scope<|a+j):=rfl
theorem VD{i:Int}(l:Nat)(e:i=l)(h:l<=13):un (Β Μ (n+1) false 83 [.obj 13,.int i]<|Bh g b s) K=K (.d<|jy l) (Bh g b s):=by subst e;exact w6 h
theorem Q2{α:Type}{l:List α}(h:l≠[]):l.isEmpty=false:=by cases l;exact absurd rfl h;rfl
section
variable{X:Cx}{k0:KS R}{c e rest body:E}{env:Env}{H':Hp}{w:V}
theorem QW(hc: ∀{f g:Run R (KS R)}{K:KS R},wE X c env H (iH f g K)=iH f g K (.bool false) H):wX X (k (ifs c body z) rest) env H k0=wX X rest env H k0:=
 (hc (f:=wX X body env)).trans rfl
theorem Wr(hc: ∀{f g:Run R (KS R)}{K:KS R},wE X c env H (iH f g K)=iH f g K (.bool true) H)(he: ∀{K:KV R},wE X e env H K=K w H'):wX X (k (ifs c (k (ret e) z) z) rest) env H k0=k0 (.ret w) env H':=
 (hc (f:=wX X (k (ret e) z) env)).trans (he)
end
noncomputable abbrev Df(deep:Int)(scope:List Int)(bars:Int×Int)(v kk t:Int):Env:=[some<|.obj 13,some<|.int deep,some<|.lst<|scope.map .int,some<|bV bars,some<|.int v,some<|.int kk,some<|.int t]
noncomputable abbrev YG:E:=k (ifs (O 1<|k (P.C 0 (L 5)<|I 2)<|k (P.C 1 (L 2)<|Li 0 z) z) (k (ret<|Tu<|k (I 21)<|k (P.X (L 2)<|B 5 (L 6)<|Bu 0<|L 2) z) z) z)<|k (ifs (O 1<|k (P.C 0 (L 5)<|I 3)<|k (P.C 1 (L 2)<|Li 0 z) z) (k (ret<|Tu<|k (I 22)<|k (Fn 83<|k (L 0)<|k (P.X (Tu<|k (I 2)<|k (I 12) z)<|B 5 (B 4 (L 6)<|I 2)<|I 2) z)<|k (B 5 (L 6)<|I 2)<|k (P.X (L 2)<|B 5 (B 4 (L 6)<|I 4)<|Bu 0<|L 2) z) z) z)<|k (ifs (O 1<|k (P.C 0 (L 5)<|I 4)<|k (P.C 1 (L 2)<|Li 0 z) z) (k (ret<|Tu<|k (I 23)<|k (Fn 83<|k (L 0)<|k (I 3) z)<|k (Bu 3<|Co 1 0 (P.X (L 2)<|B 5 (B 0 (B 4 (L 6)<|I 3)<|L 7)<|Bu 0<|L 2) (Ra z<|B 5 (L 6)<|I 3) z) z) z) z)<|k (ifs (O 1<|k (P.C 0 (L 5)<|I 5)<|k (P.C 0 (P.X (L 3)<|I 0)<|I 0) z) (k (ret<|Tu<|k (I 12)<|k (If (P.X (L 0)<|Z 76) (Fn 83<|k (L 0)<|k (I 4) z) N) z) z) z)<|k (ifs (O 1<|k (P.C 0 (L 5)<|I 6)<|k (P.X (L 3)<|I 1)<|k (P.C 0 (B 5 (L 6)<|I 4)<|I 3) z) (k (ret<|Tu<|k (I 13)<|k N z) z) z)<|k (ifs (P.C 0 (L 5)<|I 6) (k (ret<|Tu<|k (I 13)<|k (Fn 83<|k (L 0)<|k (P.X (Tu<|k (I 5)<|k (I 6)<|k (I 13) z)<|B 5 (L 6)<|I 3) z) z) z) z)<|k (ifs (P.C 0 (L 5)<|I 1) (k (ret<|Tu<|k (I 18) z) z) z)<|k (ret<|Tu<|k (I 1)<|k (Fn 83<|k (L 0)<|k (I 1) z) z) z
section
variable{X:Cx}{k0:KS R}{deep v kk t:Int}{f g':Run R (KS R)}{K2:KS R}{sc:List Int}
theorem Si{m:Nat}{p:Bool}(h:((kk==(m:Int))&& !scope.isEmpty)=p):wE X (O 1<|k (P.C 0 (L 5)<|I m)<|k (P.C 1 (L 2)<|Li 0 z) z) (Df deep scope bars v kk t) H (iH f g' K2)=iH f g' K2 (.bool p) H:=by
 subst h
 cases h:kk==m<;>simp[h,Qy]
theorem WZ{m:Nat}(h: ¬(kk=m/\scope≠[])):((kk==(m:Int))&& !scope.isEmpty)=false:=by
 induction scope with
 |nil=>exact jA _
 |cons a l=>exact(ri _).trans<|beq_eq_false_iff_ne.mpr λe=>h ⟨e,λe=>nomatch e⟩
theorem Zr{m:Nat}{p:Bool}(h:(kk==(m:Int))=p):wE X (P.C 0 (L 5)<|I m) (Df deep scope bars v kk t) H (iH f g' K2)=iH f g' K2 (.bool p) H:=by
 subst h;rfl
theorem LO{cE e rest:E}{env:Env}{c:Prop}[Decidable c]{x y:Tr}(hc: ∀{f g:Run R (KS R)}{K:KS R},wE X cE env H (iH f g K)=iH f g K (.bool<|decide c) H)(he:c->∀{K:KV R},wE X e env H K=K (.d x.dv) H)(hr:wX X rest env H k0=k0 (.ret<|.d y.dv) env H):wX X (k (ifs cE (k (ret e) z) z) rest) env H k0=k0 (.ret<|.d (if c then x else y).dv) env H:=by
 by_cases h:c
 ·rw[if_pos h]
  exact Wr (λ{f g K}=>hc.trans (by rw[decide_eq_true h]))<|he h
 ·rw[if_neg h]
  exact(QW<|λ{f g K}=>hc.trans (by rw[decide_eq_false h])).trans hr
theorem K9{m:Nat}:wE X (O 1<|k (P.C 0 (L 5)<|I m)<|k (P.C 1 (L 2)<|Li 0 z) z) (Df deep scope bars v kk t) H (iH f g' K2)=iH f g' K2 (.bool<|decide<|kk=(m:Int)/\scope≠[]) H:=by
 by_cases h:kk=m/\scope≠[]
 ·rw[decide_eq_true h]
  exact Si (by rw[h.1,Q2 h.2,beq_self_eq_true];rfl)
 ·rw[decide_eq_false h]
  exact Si<|WZ h
theorem Yn{m:Nat}:wE X (P.C 0 (L 5) (I m)) (Df deep scope bars v kk t) H (iH f g' K2)=iH f g' K2 (.bool (decide (kk=(m:Int)))) H:=Zr (by
 by_cases h:kk=m
 ·rw[decide_eq_true h,h,beq_self_eq_true]
 ·rw[decide_eq_false h,beq_eq_false_iff_ne.mpr h])
theorem KH(hs:scope.length+n<=1000){N:Nat}:wX ⟨Μ,Β Μ (N+1) false,false⟩ YG (Df deep scope bars v kk t) (Bh g b s) k0=k0 (.ret<|.d (qJ g kk t scope bars).dv) (Df deep scope bars v kk t) (Bh g b s):=by
 have rd (l:Nat) (i:Int) (e:i=l) (h:l<=13) {K:KV R}:un (Β Μ (N+1) false 83 [.obj 13,.int i]<|Bh g b s) K=_:=VD l e h
 refine LO (K9) (λh {K}=>?_)<|LO (K9) (λh {K}=>?_)<|LO (K9) (λh {K}=>?_)<|LO (λ{f g K}=>?_) (λh {K}=>?_)<|LO (λ{f g K}=>?_) (λh {K}=>?_)<|LO (Yn) (λh {K}=>?_)<|LO (Yn (m:=1)) (λh {K}=>?_) ?_
 ·simp[nI h.2 hs,nC h.2,Tr.dv]
 ·obtain⟨w,hw,hl⟩:=d8 (t/2) 2 (by decide)
  have hw:t/2%2=(w:Int):=hw
  rw[hw]
  cases w with
  |zero=>simp[d4,d5,nI h.2 hs,nC h.2,hw,rd 2 2 rfl (by decide),Tr.dv]
  |succ w=>
   cases O2.mp (mK<|vF hl)
   simp[d4,d5,nI h.2 hs,nC h.2,hw,rd 12 12 rfl (by decide),Tr.dv]
 ·obtain⟨w,hw,hl⟩:=d8 t 3 (by decide)
  have hw:t%3=(w:Int):=hw
  have sm:jK 0/\jK (w:Int):=⟨by decide,by unfold jK;omega⟩
  have hr:(Ϫ 0 (w:Int)).length<=big:=by rw[aa,ς,ϲ];exact η (aV hl) (by decide)
  rw[hw]
  simp[d4,d5,hw,rd 3 3 rfl (by decide),JL sm]
  refine(C0 (gq:=gP scope<|t/3) (λx m=>?_) hr).trans ?_
  ·rw[aa] at m
   obtain⟨j,hj,rfl⟩:=Ϗ.mp m
   rw[show rY 1 0 (Df deep scope bars v kk t) (D.int (j:Int))=some [some<|.obj 13,some<|.int deep,some<|.lst<|scope.map .int,some<|bV bars,some<|.int v,some<|.int kk,some<|.int t,some<|.int (j:Int)] from rfl]
   simp[d4,nI h.2 hs,nC h.2,Wh]
  ·refine dg (b:=K (.tup [.int 23,jy 3,.tup<|(Ϫ 0 (w:Int)).map<|gP scope<|t/3])<|(Bh g b s).ϴ<|((Ϫ 0 (w:Int)).map<|gP scope<|t/3).length<=big) rfl ?_
   rw[ς,bJ hr,aa,Ϲ]
   show _=K (.tup [.int 23,jy 3,.tup<|((ϗ w).map λ(j:Nat)=>pick scope<|t/3+j).map .int]) _
   rw[Ϲ];rfl
 ·by_cases h:kk=5
  ·by_cases hb:bars.1=0
   ·simp[h,hb]
   ·rw[decide_eq_false λe=>hb e.2]
    simp[h,beq_eq_false_iff_ne.mpr hb]
  ·rw[decide_eq_false λe=>h e.1]
   simp[beq_eq_false_iff_ne.mpr h]
 ·cases g<;>simp[rd 4 4 rfl (by decide),Tr.dv]
 ·by_cases h:kk=6
  ·by_cases hb:bars.2=0
   ·have h3:(bars.2 !=0)=false:=by rw[hb];rfl
    rw[decide_eq_false λe=>e.2.1 hb]
    simp[BN h3,h3,h]
   ·by_cases h4:t%4=3
    ·rw[decide_eq_true ⟨h,hb,h4⟩]
     simp[uz<|bne_iff_ne.mpr hb,d5,h,h4]
    ·rw[decide_eq_false λe=>h4 e.2.2]
     simp[uz<|bne_iff_ne.mpr hb,d5,h,beq_eq_false_iff_ne.mpr h4]
  ·rw[decide_eq_false λe=>h e.1]
   simp[beq_eq_false_iff_ne.mpr h]
 ·simp[Tr.dv,pL]
 ·obtain⟨w,hw,hl⟩:=d8 t 3 (by decide)
  have hw:t%3=(w:Int):=hw
  have e3:([.int 5,.int 6,.int 13]:List D)[w]? =some (.int (([5,6,13].getD w 0:Nat):Int)):=getM (l:=[5,6,13]) (f:=λ(n:Nat)=>D.int n) hl
  have e4:=(by decide: ∀w,w<3->[5,6,13].getD w 0<=13) w hl
  rw[hw,ϡ]
  generalize [5,6,13].getD w 0=l at e3 e4⊢
  simp[d5,hw,e3,w6 e4,Tr.dv,pL]
 ·simp[Tr.dv]
 ·simp[rd 1 1 rfl (by decide),Tr.dv]
end
section
variable{X:Cx}{deep v kk t:Int}{f g':Run R (KS R)}{K2:KS R}{p:Bool}
theorem MH(h:((7==kk||(8==kk||(9==kk||(10==kk||false))))&&decide (deep<2))=p):wE X (O 1<|k (P.C 6 (L 5)<|Tu<|k (I 7)<|k (I 8)<|k (I 9)<|k (I 10) z)<|k (P.C 2 (L 1)<|I 2) z) (Df deep scope bars v kk t) H (iH f g' K2)=iH f g' K2 (.bool p) H:=by
 subst h
 have e {H:Hp}:isIn H (.int kk) (.tup [.int 7,.int 8,.int 9,.int 10])=some (7==kk||(8==kk||(9==kk||(10==kk||false)))):=in4
 cases h:(7==kk||(8==kk||(9==kk||(10==kk||false))))<;>rw[h] at e<;>simp[-in4,e]
theorem MG(h:((kk==11)&&decide (deep<2))=p):wE X (O 1<|k (P.C 0 (L 5)<|I 11)<|k (P.C 2 (L 1)<|I 2) z) (Df deep scope bars v kk t) H (iH f g' K2)=iH f g' K2 (.bool p) H:=by
 subst h
 cases h:kk==11<;>simp[h]
theorem Wu(h:kk=7∨kk=8∨kk=9∨kk=10):((7:Int)==kk||(8==kk||(9==kk||(10==kk||false))))=true:=by
 rcases h with rfl|rfl|rfl|rfl<;>rfl
theorem QY(h: ¬(kk=7∨kk=8∨kk=9∨kk=10)):((7:Int)==kk||(8==kk||(9==kk||(10==kk||false))))=false:=by
 rw[beq_eq_false_iff_ne.mpr λe=>h<|.inl e.symm,beq_eq_false_iff_ne.mpr λe=>h<|.inr<|.inl e.symm,beq_eq_false_iff_ne.mpr λe=>h<|.inr<|.inr<|.inl e.symm,beq_eq_false_iff_ne.mpr λe=>h<|.inr<|.inr<|.inr e.symm];rfl
end
theorem B4{deep:Int}{f:Nat}{sub:Option Sub}(hd:sub.isSome=decide (deep<2))(h: ∀sb,sub=some sb->∃f',f=f'+1/\∀N,n+1<=N->Sb Μ g N (deep+1) f' sb): ∀scope bars,scope.length+f<=1000->Sx Μ g (n+3) deep sub scope bars:=λscope bars hs R K b s=>by
 refine go rfl rfl ?_
 have e0: ∀(rest:E),wX ⟨Μ,Β Μ (n+2) false,false⟩ (k (asg (L 4)<|Fn 82<|k (L 0) z)<|k (asg (L 5)<|B 5 (L 4)<|I 12)<|k (asg (L 6)<|B 4 (L 4)<|I 12) rest) [some<|.obj 13,some<|.int deep,some<|.lst<|scope.map .int,some<|bV bars,none,none,none] (Bh g b s) (dS false<|s.length+14)=wX ⟨Μ,Β Μ (n+2) false,false⟩ rest (Df deep scope bars b.hd (b.hd%12)<|b.hd/12) (Bh g b.tl s) (dS false<|s.length+14):=λrest=>by
  simp[rS,d4,d5]
 refine(e0 _).trans ?_
 have lf:wX ⟨Μ,Β Μ (n+2) false,false⟩ YG (Df deep scope bars b.hd (b.hd%12)<|b.hd/12) (Bh g b.tl s) (dS false<|s.length+14)=some (.d (qJ g (b.hd%12) (b.hd/12) scope bars).dv,Bh g b.tl s):=(KH hs).trans (by simp)
 induction sub with
 |none=>exact(QW<|MH (by rw[<-hd];exact jA _)).trans<|(QW<|MG (by rw[<-hd];exact jA _)).trans lf
 |some sb=>
  obtain⟨f',rfl,h9⟩:=h sb rfl
  have hs:=hs
  unfold gu
  dsimp only
  revert lf
  generalize b.hd%12=kk
  generalize b.hd/12=t
  intro lf
  by_cases h1:kk=7∨kk=8∨kk=9∨kk=10
  ·rw[if_pos h1]
   have ht {K:KV (V×Hp)}:un (Β Μ (n+2) false 86 [.obj 13,.int kk,.int t,.int deep,.lst<|scope.map .int,.tup [.int bars.1,.int bars.2]]<|Bh g b.tl s) K=_:=PZ (h9 _<|ώ _) hs h1
   exact(Wr (w:=.d (rG sb kk t scope bars b.tl).1.dv) (H':=Bh g (rG sb kk t scope bars b.tl).2 s) (MH (by rw[<-hd,Wu h1];rfl))<|λ{K}=>by simp[ht]).trans (by simp)
  ·rw[if_neg h1]
   refine(QW<|MH (by rw[QY h1];rfl)).trans ?_
   by_cases h2:kk=11
   ·rw[if_pos h2]
    have ht {K:KV (V×Hp)}:un (Β Μ (n+2) false 84 [.obj 13,.int<|deep+1,.lst<|scope.map .int,.tup [.int bars.1,.int bars.2]]<|Bh g b.tl s) K=_:=h9 _ (ϰ _) scope bars b.tl s hs
    exact(Wr (w:=.d (sb scope bars b.tl).1.dv) (H':=Bh g (sb scope bars b.tl).2 s) (MG (by rw[<-hd,h2];rfl))<|λ{K}=>by simp[ht]).trans (by simp)
   ·rw[if_neg h2]
    exact(QW<|MG (by rw[beq_eq_false_iff_ne.mpr h2];rfl)).trans lf
theorem PU: ∀(f N:Nat),8*f+8<=N->Sb Μ g N (2-f) f (bL g f)
 |0,N,h=>by
  obtain⟨n,rfl⟩:=vH<|η (show 4<=8*0+8 by decide) h
  exact BV λscope bars hs=>B4 rfl (λsb e=>by cases e) scope bars hs
 |f+1,N,h=>by
  obtain⟨n,rfl⟩:=vH<|η (show 4<=8*(f+1)+8 by omega) h
  refine BV λscope bars hs=>B4 (sub:=some<|bL g f) (decide_eq_true (by omega)).symm (λsb e=>⟨f,rfl,λN hN=>?_⟩) scope bars hs
  cases e
  rw[show 2-((f+1:Nat))+1=2-(f:Int) by omega]
  exact PU f N (by omega)
end
section
variable{q:Fx}{st:St}{s t:List PO}{R:Type}{K:KV R}{u g:Bool}{X:Cx}{n j:Nat}{Μ:List Int}{H:Hp}{l:List D}{x:D}{env:Env}{k0:KS R}
noncomputable def Wl(q:Fx)(st:St)(s:List PO)(l:List D):Hp:=W q (st.ϴ<|l.length<=big)<|s++[.list l]
theorem Yc:(W q st s).new (.list [])=Wl q st s []:=congrArg (λx=>W q x<|s++[PO.list []]) (zE (st:=st)<|ϋ _).symm
theorem yM:(Wl q st s l).get (s.length+65)= .list l:=get_t
theorem IF:runC u (Wl q st s l) (s.length+65) 1 [.d x] K=K .none (Wl q st s<|l++[x]):=by
 rw[gp yM]
 show K .none ((W q ((st.ϴ<|l.length<=big).ϴ<|l.length<big)<|s++[.list l]).put _ _)=_
 rw[put_t,rU]
 unfold Wl
 rw[show(l.length<=big/\l.length<big)=((l++[x]).length<=big) by rw[θ];exact propext ⟨λh=>h.2,λh=>⟨Ϩ h,h⟩⟩]
theorem Ja:fin false (s.length+65) (.obj<|s.length+65) (Wl q st s l)=some (.lst l,W q (st.ϴ<|l.length<=big) s):=(Jb (ώ _) yM).trans<|congrArg (λx=>some (V.lst l,x)) cut_t
theorem Wq{c:E}{b:Bool}{p m:Nat}(hc: ∀{K:KV R},wE X c env (Wl q st s l) K=K (.bool b) (Wl q st s l))(h2:env[2]? =some (some<|.obj<|s.length+65))(h3:env[3]? =some (some<|.int p)):
 wX X (ifs c (P.k (ex<|M 1 (L 2)<|P.k (Tu<|P.k (L 3)<|P.k (I m) z) z) z) z) env (Wl q st s l) k0=k0 .next env (Wl q st s (l++if b then [.tup [.int p,.int m]] else [])):=by
 rw[x_ifs,hc]
 cases b
 ·rw[if0,if_neg ϟ,Ν];rfl
 ·simp[h2,h3,fZ yM,IF]
theorem KU{a b c:Nat}{x y z:Int}(ha:env[a]? =some (some<|.int x))(hb:env[b]? =some (some<|.int y))(hc:env[c]? =some (some<|.int z)):wE X (Cc 3 2 (L a) (L b)<|L c) env H K=K (.bool<|decide (x<=y)&&decide (y<z)) H:=by
 simp[ha,hb]
 cases decide (x<=y)<;>simp[hc]
theorem Vk{a:Nat}{x:Int}{c:E}{b:Bool}(ha:env[a]? =some (some<|.int x))(hc: ∀{K:KV R},wE X c env H K=K (.bool b) H):wE X (O 1<|k (P.C 0 (L a)<|I 1)<|k c z) env H K=K (.bool<|(x==1)&&b) H:=by
 simp[ha]
 cases x==1<;>simp[hc]
noncomputable def bB(p:Nat)(c:Cl)(i:Int):List (Nat×Nat):=(if c.t0<=i/\i<c.t1 then [(p,0)] else [])++(if c.h0<=i/\i<c.h1 then [(p,1)] else [])++(if c.sort=1/\c.ex<=i/\i<c.h0 then [(p,2)] else [])
noncomputable def partsFrom(p:Nat)(i:Int):List Cl->List (Nat×Nat)
 |[]=>[]
 |c::cs=>bB p c i++partsFrom (p+1) i cs
noncomputable def iI(x:Nat×Nat):D:=.tup [.int x.1,.int x.2]
noncomputable abbrev pE(i:Int)(s:List PO)(a b c d e f g:Option V):Env:=[some<|.obj 46,some<|.int i,some<|.obj<|s.length+65,a,b,c,d,e,f,g]
theorem W4{z:KI R}:C4 z (.obj 46) (Wl q st s l)=z (Ϫ 0 st.clauses.length) none (Wl q st s l):=by
 show z (Ϫ 0 ((st.clauses.map Cl.dv).length:Nat)) none _=_
 rw[ς]
@[simp high] theorem gw46:(Wl q st s l).get 46= .list (st.clauses.map Cl.dv):=rfl
theorem DB{i:Int}{p:Nat}{c:Cl}{a2 a3 a4 a5 a6 a7:Option V}(hc:st.clauses[p]? =some c):wX X (asg (Tu<|k (L 4)<|k (L 5)<|k (L 6)<|k (L 7)<|k (L 8)<|k (L 9) z)<|P.X (L 0)<|L 3) (pE i s (some<|.int p) a2 a3 a4 a5 a6 a7) (Wl q st s l) k0=
 k0 .next (pE i s (some<|.int p) (some<|.int c.sort) (some<|.int c.t0) (some<|.int c.t1) (some<|.int c.h0) (some<|.int c.h1)<|some<|.int c.ex) (Wl q st s l):=by
 have e {K:KV R}:gE (st.clauses.map Cl.dv) p K (Wl q st s l)=K (.d c.dv) (Wl q st s l):=l_ (by rw[cP,ϒ,hc];rfl)
 simp[e,Cl.dv]
theorem yF{a b:Prop}[Decidable a][Decidable b]{α:Type}{x y:α}:(if(decide a&&decide b)=true then x else y)=if a/\b then x else y:=by
 by_cases a<;>by_cases b<;>simp[*]
theorem AK{i:Int}{p:Nat}{c:Cl}{a2 a3 a4 a5 a6 a7:Option V}{l:List (Nat×Nat)}(hc:st.clauses[p]? =some c):
 wX X (k (asg (Tu<|k (L 4)<|k (L 5)<|k (L 6)<|k (L 7)<|k (L 8)<|k (L 9) z)<|P.X (L 0)<|L 3)<|k (ifs (Cc 3 2 (L 5) (L 1)<|L 6) (k (ex<|M 1 (L 2)<|k (Tu<|k (L 3)<|k (I 0) z) z) z) z)<|k (ifs (Cc 3 2 (L 7) (L 1)<|L 8) (k (ex<|M 1 (L 2)<|k (Tu<|k (L 3)<|k (I 1) z) z) z) z)<|k (ifs (O 1<|k (P.C 0 (L 4)<|I 1)<|k (Cc 3 2 (L 9) (L 1)<|L 7) z) (k (ex<|M 1 (L 2)<|k (Tu<|k (L 3)<|k (I 2) z) z) z) z) z)
  (pE i s (some<|.int p) a2 a3 a4 a5 a6 a7) (Wl q st s<|l.map iI) k0=k0 .next (pE i s (some<|.int p) (some<|.int c.sort) (some<|.int c.t0) (some<|.int c.t1) (some<|.int c.h0) (some<|.int c.h1)<|some<|.int c.ex) (Wl q st s<|(l++bB p c i).map iI):=by
 refine x_1.trans<|(DB hc).trans<|sq_.trans<|x_1.trans ?_
 refine(Wq (b:=decide (c.t0<=i)&&decide (i<c.t1)) (p:=p) (λ{K}=>KU rfl rfl rfl) rfl rfl).trans<|sq_.trans<|x_1.trans ?_
 refine(Wq (b:=decide (c.h0<=i)&&decide (i<c.h1)) (p:=p) (λ{K}=>KU rfl rfl rfl) rfl rfl).trans<|sq_.trans<|x_1.trans ?_
 refine(Wq (b:=(c.sort==1)&&(decide (c.ex<=i)&&decide (i<c.h0))) (p:=p) (λ{K}=>?_) rfl rfl).trans<|sq_.trans<|x_0.trans ?_
 ·exact Vk rfl λ{K}=>KU rfl rfl rfl
 ·have z {P:Prop} [Decidable P] {m:Nat}:(if P then [D.tup [.int p,.int m]] else [])=(if P then [(p,m)] else []).map iI:=by split<;>rfl
  have z2:(if((c.sort==1)&&(decide (c.ex<=i)&&decide (i<c.h0)))=true then [D.tup [.int p,.int ((2:Nat):Int)]] else [])=if c.sort=1/\c.ex<=i/\i<c.h0 then [D.tup [.int p,.int ((2:Nat):Int)]] else []:=by
   by_cases h:c.sort=1<;>simp[h]
  rw[yF,yF,z2,z,z,z,<-Ξ,<-Ξ,<-Ξ,Α,Α]
  unfold bB
  rw[Α]
theorem qQ{i:Int}{c:Cl}: ∀{l:List Cl}{m:Nat},partsFrom m i (l++[c])=partsFrom m i l++bB (m+l.length) c i
 |[],m=>Ν _
 |a::l,m=>by
  show bB m a i++partsFrom (m+1) i (l++[c])=bB m a i++partsFrom (m+1) i l++bB (m+(l.length+1)) c i
  rw[qQ,Α,cz,aZ]
structure X5 where
 (a1 a2 a3 a4 a5 a6 a7:Option V)
 p:Nat
theorem Gd{i:Int}:un (Β Μ (n+1) false 88 [.obj 46,.int i]<|W q st s) K=K (.lst<|(partsFrom 0 i st.clauses).map iI) (W q (st.ϴ<|((partsFrom 0 i st.clauses).map iI).length<=big) s):=by
 refine go rfl rfl ?_
 dsimp
 rw[<-new_t,Yc,W4,aa]
 refine(gy (st:=none) (t:=L 3) (en:=λz:X5=>pE i s z.a1 z.a2 z.a3 z.a4 z.a5 z.a6 z.a7) (hp:=λz:X5=>Wl q st s<|(partsFrom 0 i<|st.clauses.take z.p).map iI) (f:=λk:Nat=>D.int (k:Int)) (λl z=>∃m,l=nv z.p m/\z.p+m=st.clauses.length) (λ_ _ _ _=>rfl) (λp l z h=>?_) (ϗ st.clauses.length) ⟨none,none,none,none,none,none,none,0⟩ ⟨_,jF,aP _⟩).casesOn λz h e=>e.trans ?_
 ·obtain⟨m,e,hm⟩:=h
  cases m with
  |zero=>exact nomatch e
  |succ m=>
   rw[g8] at e
   refine(bC e).elim λe_0 e_1=>?_
   subst e_0
   subst e_1
   have lt:z.p<st.clauses.length:=hm▸dB (cT _)
   have hc:=ϊ lt
   revert hc
   generalize st.clauses[z.p]=c
   intro hc
   refine⟨.next,⟨some<|.int z.p,some<|.int c.sort,some<|.int c.t0,some<|.int c.t1,some<|.int c.h0,some<|.int c.h1,some<|.int c.ex,z.p+1⟩,⟨m,rfl,by rw[<-hm];exact bN _ _⟩,.inl rfl,bT.trans<|(AK hc).trans ?_⟩
   rw[dR,hc]
   show _=some (_,_,Wl q st s<|(partsFrom 0 i<|st.clauses.take z.p++[c]).map iI)
   rw[qQ,cN,FD<|aV lt,aP]
 ·refine h.elim λm q_=>q_.elim λe hm=>?_
  induction m with
  |zero=>
   rw[show z.p=st.clauses.length from hm,aY]
   simp[Ja]
  |succ m=>rw[g8] at e;cases e
end
noncomputable def YV(t:Tr):List (Option Row)×List (Option Row):=@Tr.rec (λ_=>List (Option Row)×List (Option Row)) ([],[]) (λ_ _ a b=>(a.1++b.1,[])) (λk l w x _ a b=>(a.1++b.1,some ⟨k,l,w,x.dv⟩::b.2)) ([],[]) ([],[]) (λ_=>([],[])) (λ_=>([],[])) (λ_ _ _=>([],[])) (λ_=>([],[])) (λ_=>([],[])) (λ_=>([],[]))
 (λ_ a=>(a.1,[])) (λ_ _ a b=>(a.1++b.1++b.2,[])) (λ_ _ _ a b c=>(a.1++b.1++b.2++c.1++[none],[])) t
noncomputable def Tr.want(t:Tr):List (Option Row):=(YV t).1
noncomputable def Tr.rows(t:Tr):List (Option Row):=(YV t).2
noncomputable def qx:Option Row->D
 |none=>.none
 |some r=>.tup [.int r.kind,.int r.lid,pL r.wh,r.b]
noncomputable def fL(t:Tr):List D:=t.want.map qx
theorem EK{t ts:Tr}:fL (.cons t ts)=fL t++fL ts:=Ξ
theorem Im{k:Int}{l:Nat}{w:Option Nat}{b r:Tr}:fL (.row k l w b r)=fL b++fL r:=Ξ
theorem u9{P:Int->Nat->Option Nat->Tr->Prop}{r:Tr}(h:Rws P r):r.rows.map qx=r.fW:=by
 induction h with
 |nil=>rfl
 |row _ _ ih=>exact congrArg (_:: ·) ih
theorem Io{P:Int->Nat->Option Nat->Tr->Prop}{b r:Tr}(h:Rws P r):fL (.qz b r)=fL b++fL r++r.fW:=by
 refine(show fL (.qz b r)=(b.want++r.want++r.rows).map qx from rfl).trans ?_
 rw[Ξ,Ξ,u9 h];rfl
theorem EL{P:Int->Nat->Option Nat->Tr->Prop}{b r t:Tr}(h:Rws P r):fL (.iD b r t)=fL b++fL r++r.fW++fL t++[.none]:=by
 refine(show fL (.iD b r t)=(b.want++r.want++r.rows++t.want++[none]).map qx from rfl).trans ?_
 rw[Ξ,Ξ,Ξ,Ξ,u9 h];rfl
section
variable{R:Type}{K:KV R}{u g:Bool}{X:Cx}{n j:Nat}{Μ:List Int}{H:Hp}{l m:List D}{x:D}{env:Env}{k0:KS R}{v:V}{o:PO}
noncomputable abbrev Hp.le(H:Hp)(l:List D):Hp:=H.ϴ<|l.length<=big
theorem Kp:FU H K v (.lst m)=rE 0 H K (sq H v) (some (false,m)):=by
 induction v with
 |d x=>cases x<;>rfl
 |_=>rfl
theorem YE:H.le []=H:=bJ<|ϋ _
inductive Ho(H H':Hp)(v:V)(l:List D):Prop
 |mk (at':v= .lst l∨∃i,v= .obj i/\H.c.length<=i/\i<H'.c.length/\H'.get i= .list l) (ok:H'.ok=(H.ok/\l.length<=big)) (old:H'.c.take H.c.length=H.c)
theorem gN:(H.new o).get H.c.length=o:=congrArg (·.getD .dead)<|h_
variable{H':Hp}
theorem Ho.new:Ho H (H.new<|.list []) (.obj H.c.length) []:=⟨.inr ⟨_,rfl,ώ _,by show _<(H.c++[_]).length;rw[θ];exact ϝ _,gN⟩,(propext<|and_iff_left<|ϋ _).symm,jG⟩
theorem Ho.sq(h:Ho H H' v l):sq H' v=some (false,l):=by
 rcases h.1 with rfl|⟨i,rfl,_,_,h⟩
 ·rfl
 ·exact congrArg (E8<|pP false) h
theorem Ho.fin(h:Ho H H' v l):fin false H.c.length v H'=some (.lst l,H.le l):=by
 have e:H'.cut H.c.length=H.le l:=by
  show(⟨H'.ok,H'.c.take H.c.length⟩:Hp)=⟨_,H.c⟩
  rw[h.2,h.3]
 rcases h.1 with rfl|⟨i,rfl,h1,_,h⟩
 ·exact congrArg (λx=>some (V.lst l,x)) e
 ·exact(Jb h1 h).trans<|congrArg (λx=>some (V.lst l,x)) e
theorem le_app:((H.ok/\l.length<=big)/\m.length<=big)/\(l++m).length<=big↔H.ok/\(l++m).length<=big:=by
 rw[θ]
 exact⟨λh=>⟨h.1.1.1,h.2⟩,λh=>⟨⟨⟨h.1,η (Ρ _ _) h.2⟩,η (ϣ _ _) h.2⟩,h.2⟩⟩
theorem Ho.add(h:Ho H H' v l)(m:List D):Ho H ((H'.le m).le<|l++m) (.lst<|l++m) (l++m):=⟨.inl rfl,by show((H'.ok/\_)/\_)=_;rw[h.2];exact propext le_app,h.3⟩
theorem Ho.snoc(h:Ho H H' v l)(m:List D):Ho H (H'.le<|l++m) (.lst<|l++m) (l++m):=⟨.inl rfl,by show(H'.ok/\_)=_;rw[h.2,θ];exact propext ⟨λh=>⟨h.1.1,h.2⟩,λh=>⟨⟨h.1,η (Ρ _ _) h.2⟩,h.2⟩⟩,h.3⟩
theorem Ho.Vh(h:Ho H H' v l)(m:List D):Ho H (((H'.le m).le<|l++m).new<|.list<|l++m) (.obj H'.c.length) (l++m):=by
 have hl:H.c.length<=H'.c.length:=by
  have:=congrArg au h.3
  rw[cN] at this
  omega
 refine⟨.inr ⟨_,rfl,hl,by show _<(H'.c++[_]).length;rw[θ];exact ϝ _,gN⟩,by show((H'.ok/\_)/\_)=_;rw[h.2];exact propext le_app,?_⟩
 show(H'.c++[_]).take _=_
 rw[List.take_append_of_le_length hl,h.3]
abbrev Wn(Μ:List Int)(N:Nat)(t:Tr):Prop:=∀{R:Type}{K:KV R}(H:Hp),un (Β Μ N false 87 [.d t.dv] H) K=K (.lst<|fL t) (H.le<|fL t)
theorem IE(hs:Ho H H' v l):bA 0 v K (.lst m) (H'.le m)=K (.lst<|l++m) ((H'.le m).le<|l++m):=by
 rw[Y5]
 show FU (H'.le m) K v (.lst m)=_
 rw[Kp]
 show rE 0 _ K (Internal.sq H' v) _=_
 rw[hs.sq];rfl
theorem w_add{t:Tr}{e:E}(h:Wn Μ n t)(hv:env[1]? =some (some v))(hs:Ho H H' v l)(he: ∀{K:KV R}{H:Hp},wE ⟨Μ,Β Μ n false,false⟩ e env H K=K (.d t.dv) H):
 wE ⟨Μ,Β Μ n false,false⟩ (B 0 (L 1)<|Fn 87<|k e z) env H' K=K (.lst<|l++fL t) ((H'.le<|fL t).le<|l++fL t):=by
 simp[hv,he,h H',IE hs]
theorem NU{t:Tr}{e:E}(h:Wn Μ n t)(hv:env[1]? =some (some v))(hs:Ho H H' v l)(he: ∀{K:KV R}{H:Hp},wE ⟨Μ,Β Μ n false,false⟩ e env H K=K (.d t.dv) H):
 wE ⟨Μ,Β Μ n false,false⟩ (B 1 (L 1)<|Fn 87<|k e z) env H' K=K (.obj H'.c.length) (((H'.le<|fL t).le<|l++fL t).new<|.list<|l++fL t):=by
 simp[hv,he,h H']
 rw[Y3]
 show rE 1 _ K (Internal.sq H' v) _=_
 rw[hs.sq];rfl
theorem NV{key:Int}{r:List D}(h1:(key==3)=false)(h2:(key==14)=false):un (Β Μ (n+1) false 87 [.tup<|.int key::r] H) K=K (.lst []) H:=by
 refine go rfl rfl ?_
 simp[h1,h2]
 rw[Ho.new.fin,YE]
structure Km where
 w:Option V
 v:V
 ts:Tr
 l:List D
 H:Hp
inductive Yb(P:Tr->Prop)(H:Hp)(res:List D)(l:List D)(z:Km):Prop
 |mk (l:l=z.ts.fW) (h:P z.ts) (e:res=z.l++fL z.ts) (o:Ho H z.H z.v z.l)
inductive Pc(P:Tr->Prop)(x:D)(l:List D)(ts:Tr):Prop
 |mk {t r:Tr}:ts= .cons t r->x=t.dv->l=r.fW->P t->Seq P r->Pc P x l ts
theorem S4{P:Tr->Prop}{x:D}{l:List D}{ts:Tr}(h:Seq P ts)(e:x::l=ts.fW):Pc P x l ts:=by
 induction h with
 |nil=>exact absurd e<|aq _ _
 |cons a b _=>exact .mk rfl (bC e).1 (bC e).2 a b
theorem S3{P:Tr->Prop}{ts:Tr}(h:Seq P ts)(e:[]=ts.fW):ts= .nil:=by
 induction h with
 |nil=>rfl
 |cons a b _=>exact absurd e.symm<|aq _ _
inductive O_(P:Int->Nat->Option Nat->Tr->Prop)(x:D)(l:List D)(ts:Tr):Prop
 |mk {k:Int} {i:Nat} {w:Option Nat} {b r:Tr}:ts= .row k i w b r->x=pG k i w b->l=r.fW->P k i w b->Rws P r->O_ P x l ts
theorem SA{P:Int->Nat->Option Nat->Tr->Prop}{x:D}{l:List D}{ts:Tr}(h:Rws P ts)(e:x::l=ts.fW):O_ P x l ts:=by
 induction h with
 |nil=>exact absurd e<|aq _ _
 |row a b _=>exact .mk rfl (bC e).1 (bC e).2 a b
theorem Sz{P:Int->Nat->Option Nat->Tr->Prop}{ts:Tr}(h:Rws P ts)(e:[]=ts.fW):ts= .nil:=by
 induction h with
 |nil=>rfl
 |row a b _=>exact absurd e.symm<|aq _ _
theorem TJ{ts:Tr}(h:Seq (Wn Μ n) ts):Wn Μ (n+1) (.qL ts):=λ{R K} H=>by
 refine go rfl rfl ?_
 dsimp
 refine(Cz (en:=λz:Km=>[some<|.tup [.int 3,.tup ts.fW,.int 0],some z.v,z.w,none]) (hp:=Km.H) (Yb (Seq<|Wn Μ n) H<|fL ts) (λ_ _ _ _=>rfl) (λx l z i=>?_) ts.fW ⟨none,_,ts,[],_⟩ ⟨rfl,h,rfl,Ho.new⟩).casesOn λz i e=>e.trans ?_
 ·induction S4 i.2 i.1 with
  | @mk t ts2 et ex el a b=>
   rw[ex]
   have hw {K:KV (Fl×Env×Hp)}:=w_add (K:=K) (env:=[some<|.tup [.int 3,.tup ts.fW,.int 0],some z.v,some<|.d t.dv,none]) (e:=L 2) a rfl i.4<|λ{K H}=>rfl
   exact⟨.next,⟨some<|.d t.dv,.lst<|z.l++fL t,ts2,z.l++fL t,_⟩,⟨el,b,i.3.trans (by rw[et,EK,Α]),i.4.add _⟩,.inl rfl,bT.trans<|x_1.trans<|x_asg.trans<|hw.trans rfl⟩
 ·have e3:fL ts=z.l:=i.3.trans (by rw[S3 i.2 i.1];exact Ν _)
  show pX _ _ .next _ _=some (V.lst<|fL ts,H.le<|fL ts)
  rw[e3]
  exact i.4.fin
theorem EB{rows:Tr}{c:D}{k0:KS R}{r:Option R}(h:Rws (λ_ _ _=>Wn Μ n) rows)(hh:Ho H H' v l)(hd: ∀v w H',Ho H H' v (l++fL rows)->(rows.fW=[]∨∃i,v= .obj i)->k0 .next [some<|.d c,some v,none,w] H'=r):
 lq (L 3) (wX ⟨Μ,Β Μ n false,false⟩<|k (asg (L 1)<|B 1 (L 1)<|Fn 87<|k (P.X (L 3)<|I 3) z) z) [some<|.d c,some v,none,none] k0 rows.fW none H'=r:=by
 refine(Cz (en:=λz:Km=>[some<|.d c,some z.v,none,z.w]) (hp:=Km.H) (λm z=>Yb (Rws λ_ _ _=>Wn Μ n) H (l++fL rows) m z/\(z.ts=rows∨∃i,z.v= .obj i)) (λ_ _ _ _=>rfl) (λx l z i=>?_) rows.fW ⟨none,v,rows,l,H'⟩ ⟨⟨rfl,h,rfl,hh⟩,.inl rfl⟩).casesOn λz i e=>e.trans ?_
 ·induction SA i.1.2 i.1.1 with
  | @mk kind lid wh b r2 et ex el a d=>
   rw[ex]
   have hw {K:KV (Fl×Env×Hp)}:=NU (K:=K) (env:=[some<|.d c,some z.v,none,some<|.d<|pG kind lid wh b]) (e:=P.X (L 3)<|I 3) a rfl i.1.4<|λ{K H}=>rfl
   exact⟨.next,⟨some<|.d<|pG kind lid wh b,.obj z.H.c.length,r2,z.l++fL b,_⟩,⟨⟨el,d,i.1.3.trans (by rw[et,Im,Α]),i.1.4.Vh _⟩,.inr ⟨_,rfl⟩⟩,.inl rfl,bT.trans<|x_1.trans<|x_asg.trans<|hw.trans rfl⟩
 ·have z0:=Sz i.1.2 i.1.1
  exact hd z.v z.w z.H ((i.1.3.trans (by rw[z0];exact Ν _):l++fL rows=z.l)▸i.1.4)<|i.2.imp_left λe=>(congrArg Tr.fW<|z0.symm.trans e).symm
theorem Ho.app{i:Nat}(h:Ho H H' (.obj i) l)(x:D):Ho H ((H'.ϴ<|l.length<big).put i<|.list<|l++[x]) (.obj i) (l++[x])/\H'.get i= .list l:=by
 rcases h.1 with h0|⟨j,h0,h1,h2,h3⟩
 ·cases h0
 ·cases h0
  refine⟨⟨.inr ⟨i,rfl,h1,by show i<(H'.c.set i _).length;rw[bG];exact h2,?_⟩,?_,?_⟩,h3⟩
  ·show((H'.c.set i _)[i]?).getD _=_
   rw[iK h2];rfl
  ·show(H'.ok/\_)=_
   rw[h.2,θ]
   exact propext ⟨λh=>⟨h.1.1,h.2⟩,λh=>⟨⟨h.1,Ϩ h.2⟩,h.2⟩⟩
  ·show(H'.c.set i _).take _=_
   rw[List.take_set_of_le h1,h.3]
theorem JY{rows:List D}{c:D}{k0:KS R}{r:Option R}{w0:Option V}(hh:Ho H H' v l)(hv:rows=[]∨∃i,v= .obj i)(hd: ∀w H',Ho H H' v (l++rows)->k0 .next [some<|.d c,some v,none,w] H'=r):
 lq (L 3) (wX ⟨Μ,Β Μ n false,false⟩<|k (ex<|M 1 (L 1)<|k (L 3) z) z) [some<|.d c,some v,none,w0] k0 rows none H'=r:=by
 rcases hv with rfl|⟨i,rfl⟩
 ·exact(ϥ _).trans<|hd w0 H'<|(Ν l).symm▸hh
 ·refine(Cz (en:=λz:Km=>[some<|.d c,some<|.obj i,none,z.w]) (hp:=Km.H) (λm z=>l++rows=z.l++m/\Ho H z.H (.obj i) z.l) (λ_ _ _ _=>rfl) (λx m z h=>?_) rows ⟨w0,.obj i,.nil,l,H'⟩ ⟨rfl,hh⟩).casesOn λz h e=>e.trans ?_
  ·obtain⟨a1,a2⟩:=h.2.app x
   exact⟨.next,⟨some<|.d x,.obj i,.nil,z.l++[x],_⟩,⟨by rw[h.1,Α];rfl,a1⟩,.inl rfl,bT.trans (by simp[fZ a2,gp a2];rfl)⟩
  ·exact hd z.w z.H<|(h.1.trans<|Ν _)▸h.2
theorem Ho.first(h:Ho H H' v [])(m:List D):Ho H (H'.le m) (.lst m) m:=⟨.inl rfl,by show(H'.ok/\_)=_;rw[h.2];exact propext ⟨λh=>⟨h.1.1,h.2⟩,λh=>⟨⟨h.1,ϋ _⟩,h.2⟩⟩,h.3⟩
theorem TL{b rows:Tr}(hb:Wn Μ n b)(hr:Rws (λ_ _ _=>Wn Μ n) rows):Wn Μ (n+1) (.qz b rows):=λ{R K} H=>by
 show un (Β Μ (n+1) false 87 [.tup [.int 14,b.dv,.tup rows.fW,.none]] H) K=_
 refine go rfl rfl ?_
 simp[hb]
 refine EB hr (Ho.new.first _) λv w H' hh hv=>?_
 dsimp
 refine JY hh hv λw H' hh=>?_
 dsimp
 rw[Io hr]
 exact hh.fin
theorem NW{b t rows:Tr}(hb:Wn Μ n b)(hr:Rws (λ_ _ _=>Wn Μ n) rows)(ht:Wn Μ n t)(h0:Eh t.dv≠0):Wn Μ (n+1) (.iD b rows t):=λ{R K} H=>by
 show un (Β Μ (n+1) false 87 [.tup [.int 14,b.dv,.tup rows.fW,t.dv]] H) K=_
 refine go rfl rfl ?_
 simp[hb]
 refine EB hr (Ho.new.first _) λv w H' hh hv=>?_
 dsimp
 refine JY hh hv λw H' hh=>?_
 rw[EL hr]
 generalize fL b++fL rows++rows.fW=l at*
 simp[uO h0,ht H',IE hh]
 rw[Vl,<-Α]
 dsimp
 exact((hh.add _).snoc [.none]).fin
theorem T5{g:Bool}{md:Md}{S:List Int}{a y:Int}{d m:Nat}{t:Tr}(w:Ws g md S a y d m t): ∀N,d<=N->md.on (Wn Μ N t) (Seq (Wn Μ N) t) (Rws (λ_ _ _=>Wn Μ N) t):=by
 have leaf {N:Nat} {t:Tr} {key:Int} {r:List D} (hN:8<=N) (e:t.dv= .tup (.int key::r)) (e2:fL t=[]) (h1:(key==3)=false) (h2:(key==14)=false):Wn Μ N t:=λ{R K} H=>by
  obtain⟨n,rfl⟩:=vH<|η (show 1<=8 by decide) hN
  rw[e,e2,YE];exact NV h1 h2
 induction w with
 |leaf h hd _=>
  intro N hN
  have hN:=η hd hN
  induction h<;>exact λ{R K}=>leaf hN rfl rfl rfl rfl
 |nil=>exact λN _=>.nil
 |sV=>exact λN _=>.nil
 |cons _ _ h1 h2=>exact λN hN=>.cons (h1 N hN)<|h2 N hN
 |dw _ hd h2=>exact λN hN=>.cons (leaf (η hd hN) rfl rfl rfl rfl)<|h2 N hN
 |qL _ hd _ h=>
  intro N hN
  obtain⟨n,rfl⟩:=vH<|η (ϣ 3 _)<|η hd hN
  exact λ{R K}=>TJ<|h _<|ϔ<|ϫ<|η hd hN
 |row hr _ _ h1 h2=>exact λN hN=>.row (h1 N hN)<|h2 N hN
 |tL _ h1=>exact λN hN=>.row (h1 N hN) .nil
 |qz _ _ hd _ h1 h2=>
  intro N hN
  obtain⟨n,rfl⟩:=vH<|η (ϣ 14 _)<|η hd hN
  have:=ϔ (k:=13)<|ϫ<|η hd hN
  exact λ{R K}=>TL (h1 _ this)<|h2 _ this
 |iD _ _ w3 hd _ h1 h2 h3=>
  intro N hN
  obtain⟨n,rfl⟩:=vH<|η (ϣ 14 _)<|η hd hN
  have:=ϔ (k:=13)<|ϫ<|η hd hN
  exact λ{R K}=>NW (h1 _ this) (h2 _ this) (h3 _ this)<|yi w3
end
noncomputable def Slot.dv:Slot->D
 | .v k=>.tup [.str 82,.int k]
 | .x key k=>.tup [.str 79,.int key,.int k]
 | .u key k=>.tup [.str 78,.int key,.int k]
 | .g k=>.tup [.str 86,.int k]
 | .c n=>.tup [.str 84,.int n]
 | .b=>.tup [.str 85]
 | .z=>.tup [.str 87]
abbrev SC:=List<|Int×Od
noncomputable def f_(c:SC):List D:=c.map λx=>.tup [.int x.1,x.2.dv]
structure WD where
 c:SC
 cls:List Cl
 loc:List Int
 jO:Nat->List (Nat×Nat)
 back:List Slot
 kp:Nat->Int
mutual
theorem Cu: ∀{x:D}(y:D),r5 x y=true->x=y
 | .none,y=>y.casesOn (motive_1:=λy=>r5 .none y=true->D.none=y) (λ_=>rfl) (λ_=>ff) (λ_=>ff) (λ_=>ff) (λ_=>ff)<|λ_=>ff
 | .bool a,y=>y.casesOn (motive_1:=λy=>r5 (.bool a) y=true->D.bool a=y) ff (λ_=>ff) (λ_=>ff) (λ_=>ff) (λ_=>ff)<|λ_=>ff
 | .int a,y=>y.casesOn (motive_1:=λy=>r5 (.int a) y=true->D.int a=y) ff (λ_=>ff) (λb h=>congrArg _<|eq_of_beq h) (λ_=>ff) (λ_=>ff)<|λ_=>ff
 | .str a,y=>y.casesOn (motive_1:=λy=>r5 (.str a) y=true->D.str a=y) ff (λ_=>ff) (λ_=>ff) (λb h=>congrArg _<|eq_of_beq h) (λ_=>ff)<|λ_=>ff
 | .tup l,y=>y.casesOn (motive_1:=λy=>r5 (.tup l) y=true->D.tup l=y) ff (λ_=>ff) (λ_=>ff) (λ_=>ff) (λm h=>congrArg _<|r6 m h)<|λ_=>ff
 | .lst l,y=>y.casesOn (motive_1:=λy=>r5 (.lst l) y=true->D.lst l=y) ff (λ_=>ff) (λ_=>ff) (λ_=>ff) (λ_=>ff)<|λm h=>congrArg _<|r6 m h
theorem r6: ∀{l:List D}(m:List D),kU l m=true->l=m
 |[],[],_=>rfl
 |[],_::_,h=>ff h
 |_::_,[],h=>ff h
 |x::l,y::m,h=>by
  have h:(r5 x y&&kU l m)=true:=h
  rw[m5] at h
  rw[Cu y h.1,r6 m h.2]
end
mutual
theorem yI: ∀{x:D}{n:Nat},fK n x=true->r5 x x=true
 | .none,_,_=>rfl
 | .bool a,0,h=>ff h
 | .bool a,n+1,h=>ff h
 | .int a,_,_=>beq_self_eq_true a
 | .str a,_,_=>beq_self_eq_true a
 | .tup l,0,h=>ff h
 | .tup l,n+1,h=>kW (n:=n) h
 | .lst l,0,h=>ff h
 | .lst l,n+1,h=>kW (n:=n) h
theorem kW: ∀{l:List D}{n:Nat},kF n l=true->kU l l=true
 |[],_,_=>rfl
 |x::l,n,h=>by
  have h:(fK n x&&kF n l)=true:=h
  rw[m5] at h
  show(r5 x x&&kU l l)=true
  rw[yI h.1,kW h.2];rfl
end
open Classical in
theorem yH{x y:D}{n:Nat}(h:fK n x=true):r5 x y=decide (x=y):=by
 by_cases e:x=y
 ·subst e;rw[yI h];simp
 ·have:r5 x y=false:=Bool.eq_false_iff.mpr λh=>e<|Cu _ h
  rw[this];simp[e]
open Classical in
theorem yG{x y:D}(h:fK 6 x=true)(h2:fK 6 y=true)(hb:iL x y=if fK 6 x&&fK 6 y then some (r5 x y) else none):iL x y=some (decide<|x=y):=by
 rw[hb,h,h2,yH h];rfl
open Classical in
theorem Aq{x:D}{n:Nat}(l:List D):kF n l=true->fC x l=decide (x∈l):=by
 induction l with
 |nil=>exact λ_=>(decide_eq_false ϑ).symm
 |cons y l ih=>
  intro h
  have h:(fK n y&&kF n l)=true:=h
  rw[m5] at h
  show(r5 y x||fC x l)=_
  rw[yH h.1,ih h.2,fD,ES,decide_eq_true_eq,decide_eq_true_eq,decide_eq_true_eq,Θ]
  exact or_congr_left eq_comm
noncomputable def ht:List D->List D
 |_::l=>l
 |[]=>[]
noncomputable def hi:List D->Int
 | .int k::_=>k
 |_=>0
noncomputable def hs:List D->Nat
 | .str k::_=>k
 |_=>0
noncomputable def tl:D->List D
 | .tup l=>l
 |_=>[]
noncomputable def YI(l:List D):Slot:=if hs l=82 then .v (hi<|ht l) else if hs l=79 then .x (hi<|ht l).toNat (hi<|ht<|ht l) else if hs l=78 then .u (hi<|ht l).toNat (hi<|ht<|ht l) else if hs l=86 then .g (hi<|ht l) else if hs l=84 then .c (hi<|ht l) else if hs l=85 then .b else .z
theorem Dq(a:Slot):YI (tl a.dv)=a:=a.casesOn (λ_=>rfl) (λ_ _=>rfl) (λ_ _=>rfl) (λ_=>rfl) (λ_=>rfl) rfl rfl
theorem Ld{a b:Slot}(h:a.dv=b.dv):a=b:=(Dq a).symm.trans<|(congrArg (λd=>YI<|tl d) h).trans<|Dq b
theorem DH{a b:Nat×Nat}(h:iI a=iI b):a=b:=Prod.ext (aO.mp<|congrArg (λd=>hi<|tl d) h)<|aO.mp<|congrArg (λd=>hi<|ht<|tl d) h
theorem jj{α:Type}{f:α->D}{n:Nat}(h: ∀a,fK n (f a)=true)(b:List α):kF n (b.map f)=true:=by
 induction b with
 |nil=>rfl
 |cons y b ih=>exact dg (b:=(fK n (f y)&&kF n (b.map f))) rfl (by rw[h,ih];rfl)
theorem pH(n:Nat)(a:Nat×Nat):fK (n+1) (iI a)=true:=rfl
theorem mE(n:Nat)(a:Slot):fK (n+1) a.dv=true:=a.casesOn (λ_=>rfl) (λ_ _=>rfl) (λ_ _=>rfl) (λ_=>rfl) (λ_=>rfl) rfl rfl
noncomputable def wD(v:WD):List (Nat×V):=[(55,.lst<|f_ v.c),(48,.obj 46),(83,.obj 42),(81,.lst [.int 17,.int 18]),(88,.int 16),(77,.lst<|(ϗ v.c.length).map λi=>.lst<|(v.jO i).map iI),(80,.obj 66),(40,.obj 43),(89,.lst<|v.back.map Slot.dv)]
noncomputable def Wk(q:Fx)(st:St)(v:WD)(es sn:List (Int×V))(td:List D)(r:List PO):Hp:=W q st<|.ds (wD v):: .di es:: .di sn:: .list td::r
section
variable{q:Fx}{st:St}{v:WD}{es sn:List (Int×V)}{td:List D}{r r2:List PO}{R:Type}{K:KV R}{u:Bool}{n j:Nat}{s Μ:List Int}{o o':PO}{H H':Hp}{env:Env}
theorem cu{f:Nat}(h:bf f=false): ∀{n:Nat}{args:List V},Β s n true f args H=Β s n false f args H
 |0,_=>rfl
 |n+1,args=>by
  show(match jJ f with
   |some (ar,l,b)=>if args.length=ar then wX ⟨s,Β s n<|true&&bf f,true&&bf f⟩ b (args.map some++Ω l none) H (dS (true&&bf f) H.c.length) else none
   |none=>none)=match jJ f with
   |some (ar,l,b)=>if args.length=ar then wX ⟨s,Β s n<|false&&bf f,false&&bf f⟩ b (args.map some++Ω l none) H (dS (false&&bf f) H.c.length) else none
   |none=>none
  rw[h];rfl
theorem qR{f ar l:Nat}{b:E}{args:List V}{v:V}(hk:bf f=true)(hf:jJ f=some (ar,l,b))(hl:args.length=ar)(h:wX ⟨s,Β s n true,true⟩ b (args.map some++Ω l none) H (dS true H.c.length)=some (v,H')):un (Β s (n+1) true f args H) K=K v H':=by
 refine uc<|(yx hf hl).trans ?_
 rw[hk];exact h
@[simp high] theorem k65:(Wk q st v es sn td r).get 65= .ds (wD v):=rfl
@[simp high] theorem k66:(Wk q st v es sn td r).get 66= .di es:=rfl
@[simp high] theorem k67:(Wk q st v es sn td r).get 67= .di sn:=rfl
@[simp high] theorem k68:(Wk q st v es sn td r).get 68= .list td:=rfl
@[simp high] theorem k46:(Wk q st v es sn td r).get 46= .list (st.clauses.map Cl.dv):=rfl
@[simp high] theorem k42:(Wk q st v es sn td r).get 42= .list (st.locals.map .int):=rfl
@[simp high] theorem kCode:ϩ (Wk q st v es sn td r) (.obj 65) (.d<|.str 55)=some (.lst<|f_ v.c):=rfl
@[simp high] theorem kCls:ϩ (Wk q st v es sn td r) (.obj 65) (.d<|.str 48)=some (.obj 46):=rfl
@[simp high] theorem kLoc:ϩ (Wk q st v es sn td r) (.obj 65) (.d<|.str 83)=some (.obj 42):=rfl
@[simp high] theorem kOpn:ϩ (Wk q st v es sn td r) (.obj 65) (.d<|.str 81)=some (.lst [.int 17,.int 18]):=rfl
@[simp high] theorem kClass:ϩ (Wk q st v es sn td r) (.obj 65) (.d<|.str 88)=some (.int 16):=rfl
@[simp high] theorem kPrt:ϩ (Wk q st v es sn td r) (.obj 65) (.d<|.str 77)=some (.lst<|(ϗ v.c.length).map λi=>.lst<|(v.jO i).map iI):=rfl
@[simp high] theorem kKept:ϩ (Wk q st v es sn td r) (.obj 65) (.d<|.str 80)=some (.obj 66):=rfl
@[simp high] theorem kBack:ϩ (Wk q st v es sn td r) (.obj 65) (.d<|.str 89)=some (.lst<|v.back.map Slot.dv):=rfl
@[simp high] theorem kLen:(Wk q st v es sn td r).c.length=r.length+69:=rfl
@[simp high] theorem kNew:(Wk q st v es sn td r).new o=Wk q st v es sn td (r++[o]):=rfl
theorem j8:(Wk q st v es sn td<|r++o::r2).get (r.length+69)=o:=congrArg (·.getD .dead)<|h_
theorem mu:(Wk q st v es sn td<|r++o::r2).put (r.length+69) o'=Wk q st v es sn td (r++o'::r2):=congrArg (λx=>Wk q st v es sn td x)<|ia
theorem RA{j:Nat}(h:r[j]? =some o):(Wk q st v es sn td r).get (j+69)=o:=by
 show((Wk q st v es sn td r).c[j+69]?).getD .dead=o
 have:(Wk q st v es sn td r).c[j+69]? =r[j]? :=rfl
 rw[this,h];rfl
noncomputable def nT(kp:Nat->Int)(ks:List Nat)(es:List (Int×V))(r:List PO):Prop:=
 (∀key:Nat,key∈ks->∃j,look (key:Int) es=some (.obj<|j+69)/\r[j]? =some (.list [.int<|kp key]))/\∀key:Nat,key∉ks->look (key:Int) es=none
noncomputable def dJ:Slot->Option Nat
 | .x key _=>some key
 | .u key _=>some key
 |_=>none
noncomputable def E9(t:Slot)(ks:List Nat):List Nat:=match dJ t with
 |some key=>key::ks
 |none=>ks
theorem HC{key:Int}{x:V}(h:look key es=none)(hb:es.length<big):bF true (Wk q st v es sn td r) (.obj 66) (.int key) x=some (Wk q st v (es++[(key,x)]) sn td r):=by
 have:bF true (Wk q st v es sn td r) (.obj 66) (.int key) x=some (((Wk q st v es sn td r).ϴ<|es.length<big/\look key es=none).put 66<|.di<|es++[(key,x)]):=by
  induction x<;>exact ϥ _
 rw[this,bJ ⟨hb,h⟩];rfl
@[simp high] theorem kIn66{i:Int}:isIn (Wk q st v es sn td r) (.int i) (.obj 66)=some (look i es).isSome:=rfl
@[simp high] theorem kIx66{i:Int}:ϩ (Wk q st v es sn td r) (.obj 66) (.int i)=look i es:=rfl
theorem xD{i:Int}{l:List D}(h:H.get j= .list l)(h2:kF 6 l=true):isIn H (.int i) (.obj j)=some (fC (.int i) l):=by
 refine(congrArg (CQ<|.int i) h).trans ?_
 show(if(true&&kF 6 l)=true then some (fC (.int i) l) else none)=_
 rw[h2];rfl
theorem gS{α:Type}[DecidableEq α]{k a:α}{x:V}: ∀{es:List (α×V)},look a (es++[(k,x)])=(look a es).or (if k=a then some x else none)
 |[]=>rfl
 |(b,u)::es=>by
  show(if b=a then some u else look a (es++[(k,x)]))=(if b=a then some u else look a es).or _
  split
  ·rfl
  ·exact gS
theorem nT.app{kp:Nat->Int}{ks:List Nat}(h:nT kp ks es r)(m:List PO):nT kp ks es (r++m):=⟨λkey hm=>by
 refine(h.1 key hm).elim λj q_=>q_.elim λa b=>?_
 exact⟨j,a,by rw[Ϥ (Δ.mp b).1];exact b⟩,h.2⟩
theorem BX{kp:Nat->Int}{ks:List Nat}{t:Slot}{pl:Int}(h:nT kp ks es r)(hb:es.length<big)(hp: ∀key,dJ t=some key->kp key=pl):
 ∃es' r',nT kp (E9 t ks) es' (r++r')/\es'.length<=es.length+1/\∀{R:Type}{K:KV R},un (Β Μ (n+1) true 90 [.obj 65,.d t.dv,.int pl]<|Wk q st v es sn td r) K=K .none (Wk q st v es' sn td<|r++r'):=by
 have main: ∀(key:Nat)(rest:List D)(s0:Nat),dJ t=some key->t.dv= .tup (.str s0:: .int key::rest)->(s0=79∨s0=78)->∃es' r',nT kp (E9 t ks) es' (r++r')/\es'.length<=es.length+1/\∀{R:Type}{K:KV R},un (Β Μ (n+1) true 90 [.obj 65,.d t.dv,.int pl]<|Wk q st v es sn td r) K=K .none (Wk q st v es' sn td<|r++r'):=by
  intro key rest s0 e1 e2 e3
  have hk:=hp key e1
  have hn:E9 t ks=key::ks:=by unfold E9;rw[e1]
  rw[e2,hn]
  refine(eN<|key∈ks).elim (λm=>?_) λm=>?_
  ·obtain⟨j,a,b⟩:=h.1 key m
   refine⟨es,[],?_,ϰ _,λ{R K}=>?_⟩
   ·rw[Ν]
    exact⟨λk' m'=>by rcases Θ.mp m' with rfl|m';exact⟨j,a,b⟩;exact h.1 k' m',λk' m'=>h.2 k' λz=>m'<|.tail _ z⟩
   ·rw[Ν]
    have e:isIn (Wk q st v es sn td r) (.int pl) (.obj<|j+69)=some true:=(xD (RA b) rfl).trans (by rw[hk];exact congrArg some (show((pl==pl)||false)=true by rw[beq_self_eq_true];rfl))
    refine qR rfl rfl rfl ?_
    rcases e3 with rfl|rfl<;>simp[a,e]
  ·have a:=h.2 key m
   refine⟨es++[((key:Int),.obj<|r.length+69)],[.list [.int pl]],⟨λk' m'=>?_,λk' m'=>?_⟩,by rw[θ];exact ώ _,λ{R K}=>?_⟩
   ·rcases Θ.mp m' with rfl|m'
    ·exact⟨r.length,by rw[gS,a,if_pos rfl];rfl,by rw[hk];exact h_⟩
    ·refine((h.app [.list [.int pl]]).1 k' m').elim λj q_=>q_.elim λx y=>?_
     exact⟨j,by rw[gS,x];rfl,y⟩
   ·rw[gS,h.2 k' λz=>m'<|.tail _ z,if_neg (by intro z;exact m'<|(aO.mp z)▸(.head _))];rfl
   ·have e1 {es:List (Int×V)} {o:PO}:(Wk q st v es sn td<|r++[o]).get (r.length+69)=o:=j8
    have a2:look (key:Int) (es++[((key:Int),V.obj<|r.length+69)])=some (.obj<|r.length+69):=by rw[gS,a,if_pos rfl];rfl
    have e:isIn (Wk q st v (es++[((key:Int),.obj<|r.length+69)]) sn td<|r++[.list []]) (.int pl) (.obj<|r.length+69)=some false:=xD e1 rfl
    have ap {K:KV (V×Hp)}:runC true (Wk q st v (es++[((key:Int),.obj<|r.length+69)]) sn td<|r++[.list []]) (r.length+69) 1 [.int pl] K=K .none (Wk q st v (es++[((key:Int),.obj<|r.length+69)]) sn td<|r++[.list [.int pl]]):=by
     rw[gp e1,bJ<|show([]).length<big by decide,mu];rfl
    refine qR rfl rfl rfl ?_
    rcases e3 with rfl|rfl<;>simp[a,a2,e,ap,HC a hb,fZ e1]
 induction t with
 |x key k=>exact main key _ 79 rfl rfl<|.inl rfl
 |u key k=>exact main key _ 78 rfl rfl<|.inr rfl
 |_=>exact⟨es,[],by rw[Ν];exact h,ϰ _,λ{R K}=>by rw[Ν];exact qR rfl rfl rfl (by simp[Slot.dv])⟩
noncomputable def storeOk(k:Int):Slot->Prop
 | .v k'=>k'=k
 | .x _ k'=>k'=k/\k≠17/\k≠18
 | .u _ k'=>k'=k
 |_=>False
theorem Ge{kp:Nat->Int}{ks:List Nat}{t:Slot}{x:Nat}{k:Int}(h:nT kp ks es r)(hb:es.length<big)(hp: ∀key,dJ t=some key->kp key=x)(hx:st.locals[x]? =some k)(ht:storeOk k t):
 ∃es' r',nT kp (E9 t ks) es' (r++r')/\es'.length<=es.length+1/\∀{R:Type}{K:KV R},un (Β Μ (n+2) true 91 [.obj 65,.d t.dv,.int x]<|Wk q st v es sn td r) K=K (.bool true) (Wk q st v es' sn td<|r++r'):=by
 obtain⟨es',r',h1,h2,h3⟩:=BX (Μ:=Μ) (n:=n) (q:=q) (st:=st) (v:=v) (sn:=sn) (td:=td) h hb hp
 refine⟨es',r',h1,h2,λ{R K}=>qR rfl rfl rfl ?_⟩
 have e {K:KV (V×Hp)}:gE (st.locals.map .int) x K (Wk q st v es sn td r)=K (.int k) (Wk q st v es sn td r):=l_ (by rw[cP,ϒ,hx];rfl)
 induction t with
 |v k'=>cases ht;simp only[Slot.dv] at h3;simp[Slot.dv,e,h3]
 |x key k'=>
  obtain⟨rfl,a,b⟩:=ht
  simp only[Slot.dv] at h3
  have i2:isIn (Wk q st v es' sn td<|r++r') (.int k') (.lst [.int 17,.int 18])=some false:=by
   show some (((17:Int)==k')||(((18:Int)==k')||false))=_
   rw[beq_eq_false_iff_ne.mpr<|E1 a,beq_eq_false_iff_ne.mpr<|E1 b];rfl
  simp[Slot.dv,e,h3,i2]
 |u key k'=>cases ht;simp only[Slot.dv] at h3;simp[Slot.dv,e,h3]
 |g k'=>exact ht.elim
 |c k'=>exact ht.elim
 |b=>exact ht.elim
 |z=>exact ht.elim
noncomputable def jX(v:WD)(i:Nat)(op:Int):Prop:=if op=220 then∃p r c,v.jO i=(p,1)::r/\v.cls[p]? =some c/\1<c.sort else∃p r c,(v.jO i).filter (λx=>decide<|x.2≠0)=(p,1)::r/\v.cls[p]? =some c/\c.sort<=1
theorem IX{ff:D->Hp->Option (Option D×Hp)}{α:Type}{f:α->D}{P:α->Bool}{K:List D->Hp->Option R}: ∀{l:List α},(∀x∈l,ff (f x) H=some (if P x then some (f x) else none,H))->gw none ff K (l.map f) H=K ((l.filter P).map f) H
 |[],_=>rfl
 |x::l,h=>by
  show(match ff (f x) H with
   |some (o,h)=>gw none ff (λq h=>K (jb o q) h) (l.map f) h
   |none=>none)=_
  rw[h x<|.head _]
  refine(IX (K:=λq h=>K (jb (if P x then some (f x) else none) q) h) λy m=>h y<|.tail _ m).trans ?_
  rw[Bj]
  cases P x<;>rfl
theorem WC{f:Env->Run (Option D×Hp) (KV<|Option D×Hp)}{gg:Env->Hp->(Bool->Hp->Option (Option D×Hp))->Option (Option D×Hp)}{n m:Nat}{env:Env}{α:Type}{l:List α}{f0:α->D}(P:α->Bool)(h: ∀x∈l,(ob (rY n m env<|f0 x) λe=>gg e H<|qt<|f e)=some (if P x then some (f0 x) else none,H))(hl:l.length<=big):
 CZ f gg n m env K (l.map f0) none H=K (.lst<|(l.filter P).map f0) H:=by
 refine(ϥ _).trans<|(IX h).trans ?_
 show K _ (H.ϴ<|((l.filter P).map f0).length<=big)=_
 rw[ς,bJ<|η (List.length_filter_le ..) hl]
@[simp high] theorem itL{l:List D}:iy H (.lst l)=some (l,none):=rfl
@[simp high] theorem kCut:(Wk q st v es sn td r).cut (r.length+69)=Wk q st v es sn td r:=by
 rw[<-kLen (q:=q) (st:=st) (v:=v) (es:=es) (sn:=sn) (td:=td),cutH]
theorem mD{i:Nat}(hi:i<v.c.length):ϩ H (.lst<|(ϗ v.c.length).map λi=>.lst<|(v.jO i).map iI) (.int i)=some (.lst<|(v.jO i).map iI):=by
 show(at? ((ϗ v.c.length).map λi=>D.lst<|(v.jO i).map iI) i).map V.d=_
 rw[cP,ϒ,jR hi];rfl
@[simp high] theorem eqDb{a b:Bool}:iL (.bool a) (.bool b)=some (a==b):=rfl
@[simp high] theorem ixP0{a:Nat×Nat}:ϩ H (.d<|iI a) (.int 0)=some (.int a.1):=rfl
@[simp high] theorem ixP1{a:Nat×Nat}:ϩ H (.d<|iI a) (.int 1)=some (.int a.2):=rfl
@[simp high] theorem eqDp{a:Nat×Nat}{l:List (Nat×Nat)}:iL (.lst<|iI a::l.map iI) (.lst [])=some false:=by
 show(if fK 6 (.lst<|(a::l).map iI)&&fK 6 (.lst []) then some (kU ((a::l).map iI) []) else none)=_
 have:fK 6 (.lst<|(a::l).map iI)=true:=jj (pH 4) _
 rw[this];rfl
theorem B3{i:Nat}{op:Int}(hi:i<v.c.length)(hc:v.cls=st.clauses)(hz:(v.jO i).length<=big)(h:jX v i op)(ho:op=220∨op=65050):un (Β Μ (n+1) false 93 [.obj 65,.int i,.int op]<|Wk q st v es sn td r) K=K (.bool true) (Wk q st v es sn td r):=by
 refine go rfl rfl ?_
 have e {p:Nat} {c:Cl} (h:v.cls[p]? =some c) {K:KV (V×Hp)}:gE (st.clauses.map Cl.dv) p K (Wk q st v es sn td r)=K (.d c.dv) (Wk q st v es sn td r):=l_ (by rw[cP,ϒ,<-hc,h];rfl)
 rcases ho with rfl|rfl
 ·obtain⟨p,r2,c,h1,h2,h3⟩:=h
  simp[mD hi,h1,e h2,Cl.dv,h3]
 ·obtain⟨p,r2,c,h1,h2,h3⟩:=h
  simp[mD hi]
  refine(WC (λx:Nat×Nat=>decide<|x.2≠0) (λx m=>?_) hz).trans ?_
  ·have b:((x.2:Int)==0)=decide (x.2=0):=by rw[fD];simp
   by_cases hx:x.2=0<;>simp[Cr,b,hx]
  ·rw[h1]
   simp[e h2,Cl.dv,(Ϭ.mpr h3: ¬1<c.sort)]
end
inductive kK(v:WD):Int->Od->List Slot->List Slot->Slot->Prop
 |ld {x:Nat} {k:Int}:v.loc[x]? =some k->kK v 65036 (.i x) [] [] (.v k)
 |arg:kK v 65033 (.i 0) [] [] (.v 1)
 |nul {n:Int}:kK v 20 (.i n) [] [] (.v 14)
 |Qd {n:Int}:kK v 32 (.i n) [] [] (.c n)
 |Qe {n:Int}:kK v 32 (.i n) [.v 1] [.v 1] (.c n)
 |GO {key:Nat} {n:Int}:kK v 117 (.i n) [.x key 12] [] (.x key n)
 |Ez {key:Nat} {n:Int}:(n=17∨n=18)->kK v 165 (.i n) [.x key n] [] (.u key n)
 |box {n:Int}:(n=17∨n=18)->kK v 140 (.i n) [.v n] [] (.g n)
 |gt {n:Int}:kK v 65027 (.i n) [.v 1,.c 0] [] .b
section
variable{q:Fx}{st:St}{v:WD}{es sn:List (Int×V)}{td:List D}{r r2:List PO}{R:Type}{K:KV R}{u:Bool}{n j:Nat}{s Μ:List Int}{o o':PO}{H H':Hp}{env:Env}
@[simp high] theorem kCut2:(Wk q st v es sn td r).cut (r.length+69)=Wk q st v es sn td r:=kCut
theorem lC{l:List D}{x:D}(h:H.get j= .list (l++[x])):runC u H j 67 [] K=K (.d x) (H.put j<|.list l):=by
 refine(congrArg (DK u H j 67 [] K) h).trans<|(ϥ _).trans ?_
 show K (.d<|(l++[x]).getLast?.getD .none) ((H.ϴ<|l++[x]≠[]).put j<|.list (l++[x]).dropLast)=_
 rw[bJ (by simp),jB,vP];rfl
theorem mW{l:List D}(h:H.get j= .list l):resolve H 67 (.obj j)=some (.cell j):=congrArg (Fb j 67) h
@[simp high] theorem kCut3:(Wk q st v es sn td<|r++[o]).cut (r.length+70)=Wk q st v es sn td (r++[o]):=by
 have:r.length+70=(r++[o]).length+69:=by rw[θ];rfl
 rw[this];exact kCut
theorem Zj{s:List Int}{f ar l:Nat}{b:E}{args:List V}{x:V}(hf:jJ f=some (ar,l,b))(hl:args.length=ar)(h:wX ⟨s,Β s n false,false⟩ b (args.map some++Ω l none) (Wk q st v es sn td (r++[o])) (dS false (r.length+70))=some (x,H')):un (Β s (n+1) false f args (Wk q st v es sn td (r++[o]))) K=K x H':=go hf hl (by
 rw[kLen,θ];exact h)
theorem kX{l:List D}{y:D}(h:H.get j= .list l):eqv H (.obj j) (.d y)=iL (.lst l) y:=by
 exact congrArg (λo=>(E8 D.lst o).bind λx=>(some y).bind λy=>iL x y) h
theorem B0{op:Int}{od:Od}{s s':List Slot}{t:Slot}(p:kK v op od s s' t)(hl:v.loc=st.locals):un (Β Μ (n+1) false 92 [.obj 65,.int op,.d od.dv,.obj<|r.length+69]<|Wk q st v es sn td<|r++[.list<|s.map Slot.dv]) K=K (.d t.dv) (Wk q st v es sn td<|r++[.list<|s'.map Slot.dv]):=by
 refine Zj rfl rfl ?_
 have g {o:PO}:(Wk q st v es sn td<|r++[o]).get (r.length+69)=o:=j8
 have pt {o o':PO}:(Wk q st v es sn td<|r++[o]).put (r.length+69) o'=Wk q st v es sn td (r++[o']):=mu
 induction p with
 |ld h=>
  have e {R:Type} {K:KV R} {x:Nat} {k:Int} (h:v.loc[x]? =some k) {H:Hp}:gE (st.locals.map .int) x K H=K (.int k) H:=l_ (by rw[cP,ϒ,<-hl,h];rfl)
  simp[Od.dv,e h,Slot.dv]
 |arg=>simp[Od.dv,Slot.dv]
 |nul=>simp[Od.dv,Slot.dv]
 |Qd=>simp[Od.dv,Slot.dv]
 |Qe=>simp[Od.dv,Slot.dv]
 | @GO key n=>
  have e2:=mW (H:=Wk q st v es sn td<|r++[.list [(Slot.x key 12).dv]]) g
  have e3 {K:KV (V×Hp)}:=lC (K:=K) (u:=false) (l:=[]) (x:=(Slot.x key 12).dv) (H:=Wk q st v es sn td<|r++[.list [(Slot.x key 12).dv]]) g
  have e4:iL (.lst [(Slot.x key 12).dv]) (.lst [])=some false:=rfl
  simp only[Slot.dv] at e2 e3 e4
  simp[Od.dv,Slot.dv,kX g,e2,e3,e4,pt]
 | @Ez key n h=>
  have e2:=mW (H:=Wk q st v es sn td<|r++[.list [(Slot.x key n).dv]]) g
  have e3 {K:KV (V×Hp)}:=lC (K:=K) (u:=false) (l:=[]) (x:=(Slot.x key n).dv) (H:=Wk q st v es sn td<|r++[.list [(Slot.x key n).dv]]) g
  have e4:iL (.lst [(Slot.x key n).dv]) (.lst [])=some false:=rfl
  have e5 {H:Hp}:isIn H (.int n) (.lst [.int 17,.int 18])=some true:=by rcases h with rfl|rfl<;>rfl
  simp only[Slot.dv] at e2 e3 e4
  simp[Od.dv,Slot.dv,kX g,e2,e3,e4,e5,pt]
 | @box n h=>
  have e2:=mW (H:=Wk q st v es sn td<|r++[.list [(Slot.v n).dv]]) g
  have e3 {K:KV (V×Hp)}:=lC (K:=K) (u:=false) (l:=[]) (x:=(Slot.v n).dv) (H:=Wk q st v es sn td<|r++[.list [(Slot.v n).dv]]) g
  have e4:iL (.lst [(Slot.v n).dv]) (.lst [])=some false:=rfl
  have e5 {H:Hp}:isIn H (.int n) (.lst [.int 17,.int 18])=some true:=by rcases h with rfl|rfl<;>rfl
  have e6:iL (.tup [.str 82,.int n]) (.tup [.str 82,.int n])=some true:=by rcases h with rfl|rfl<;>rfl
  simp only[Slot.dv] at e2 e3 e4
  simp[Od.dv,Slot.dv,kX g,e2,e3,e4,e5,e6,pt]
 |gt=>
  have e2:=mW (H:=Wk q st v es sn td<|r++[.list [(Slot.v 1).dv,(Slot.c 0).dv]]) g
  have e3 {K:KV (V×Hp)}:=lC (K:=K) (u:=false) (l:=[(Slot.v 1).dv]) (x:=(Slot.c 0).dv) (H:=Wk q st v es sn td<|r++[.list [(Slot.v 1).dv,(Slot.c 0).dv]]) g
  have e4:iL (.lst [(Slot.v 1).dv,(Slot.c 0).dv]) (.lst [])=some false:=rfl
  have f2:=mW (H:=Wk q st v es sn td<|r++[.list [(Slot.v 1).dv]]) g
  have f3 {K:KV (V×Hp)}:=lC (K:=K) (u:=false) (l:=[]) (x:=(Slot.v 1).dv) (H:=Wk q st v es sn td<|r++[.list [(Slot.v 1).dv]]) g
  have f4:iL (.lst [(Slot.v 1).dv]) (.lst [])=some false:=rfl
  have e5:iL (.tup [.str 84,.int 0]) (.tup [.str 84,.int 0])=some true:=rfl
  have e6:iL (.tup [.str 82,.int 1]) (.tup [.str 82,.int 1])=some true:=rfl
  simp only[Slot.dv] at e2 e3 e4 f2 f3 f4
  simp[Od.dv,Slot.dv,kX g,e2,e3,e4,f2,f3,f4,e5,e6,pt]
abbrev Way:=Int×List Slot×Int
noncomputable def nj(w:Way):D:=.tup [.int w.1,.lst<|w.2.1.map Slot.dv,.int w.2.2]
end
inductive Step(v:WD)(i:Nat):Int->Od->List Slot->List Way->Option Slot->Prop
 |push {op:Int} {od:Od} {s s':List Slot} {t:Slot}:kK v op od s s' t->Step v i op od s [((i:Int)+1,s'++[t],0)] none
 |Dy {n:Int}:Step v i 0 (.i n) [] [((i:Int)+1,[],0)] none
 |br {g:Int} {s:List Slot}:Step v i 56 (.i g) s [(g,s,56)] none
 |leave {g:Int}:Step v i 221 (.i g) [] [(g,[],221)] none
 |stands {op n:Int}:(op=220∨op=65050)->jX v i op->Step v i op (.i n) [] [] none
 |ret {n:Int}:v.jO i=[]->Step v i 42 (.i n) v.back [] none
 |dup {n:Int} {t:Slot}:Step v i 37 (.i n) [t] [((i:Int)+1,[t,t],0)] none
 |st {x:Nat} {t:Slot} {k:Int}:v.loc[x]? =some k->storeOk k t->(∀key,dJ t=some key->v.kp key=x)->Step v i 65038 (.i x) [t] [((i:Int)+1,[],0)] (some t)
 |pop {n:Int} {t:Slot}:(∀key,dJ t=some key->v.kp key= -1)->Step v i 38 (.i n) [t] [((i:Int)+1,[],0)] (some t)
 |lO {n:Int} {t:Slot}:(t= .v 14∨t= .v 16∨∃k,t= .g k)->Step v i 122 (.i n) [t] [] none
 |Ao {n:Int} {t:Slot} {p:Nat} {r:List (Nat×Nat)}:(t= .b∨t= .c 0∨t= .c 1)->v.jO i=(p,2)::r->Step v i 65041 (.i n) [t] [] none
 |sw {ls:List Int}:Step v i 69 (.ts ls) [.v 7] (ls.map (λg=>(g,[],69))++[((i:Int)+1,[],0)]) none
 |Y4 {g:Int} {key:Nat} {k:Int}:Step v i 58 (.i g) [.x key k,.x key k] [(g,[.x key k],58),((i:Int)+1,[.z],0)] none
 |Ye {op g:Int}:(op=57∨op=58)->Step v i op (.i g) [.v 1] [(g,[],op),((i:Int)+1,[],0)] none
noncomputable def AI(t:Option Slot)(ks:List Nat):List Nat:=match t with
 |some t=>E9 t ks
 |none=>ks
section
variable{q:Fx}{st:St}{v:WD}{es sn:List (Int×V)}{td:List D}{r r2:List PO}{R:Type}{K:KV R}{k0:KS R}{u:Bool}{n j i:Nat}{s Μ:List Int}{o o':PO}{H H':Hp}{env:Env}{X:Cx}
theorem QI{m:Nat}{l:List D}(h:env[m]? =some (some<|.obj j))(h2:H.get j= .list l):mT m env H k0=k0 .next (env.set m<|some<|.lst l) (H.put j .dead):=by
 unfold mT
 rw[h]
 dsimp only
 rw[h2];rfl
noncomputable abbrev Wj(q:Fx)(st:St)(v:WD)(es sn:List (Int×V))(td:List D)(r:List PO)(s:List Slot):Hp:=Wk q st v es sn td<|r++[.list<|s.map Slot.dv]
noncomputable abbrev sE(r:List PO)(i:Nat)(x:D)(op:Int)(od:Od)(a b c:Option V):Env:=[some<|.obj 65,some<|.int i,some<|.d x,some<|.int op,some<|.d od.dv,some<|.obj<|r.length+69,a,b,c]
theorem kZ{s:List Slot}{x:D}{op:Int}{od:Od}{a b c:Option V}:mT 5 (sE r i x op od a b c) (Wj q st v es sn td r s) k0=k0 .next [some<|.obj 65,some<|.int i,some<|.d x,some<|.int op,some<|.d od.dv,some<|.lst<|s.map Slot.dv,a,b,c] (Wk q st v es sn td<|r++[.dead]):=
 (QI rfl j8).trans (congrArg (k0 .next _) mu)
theorem Y6{l:List D}:builtin 2 (.lst l) H K=K (.obj H.c.length) ((H.ϴ<|l.length<=big).new<|.list l):=rfl
theorem step0{s:List Slot}{op:Int}{od:Od}{a b c:Option V}{body:E}(hx:v.c[i]? =some (op,od))(hs:s.length<=big):
 wX X (k (asg (Tu<|k (L 3)<|k (L 4) z)<|P.X (P.X (L 0)<|Z 55)<|L 1)<|k (asg (L 5)<|Bu 2<|L 2) body) [some<|.obj 65,some<|.int i,some<|.lst<|s.map Slot.dv,none,none,none,a,b,c] (Wk q st v es sn td r) k0=wX X body (sE r i (.lst<|s.map Slot.dv) op od a b c) (Wj q st v es sn td r s) k0:=by
 have e {H:Hp}:ϩ H (.lst<|f_ v.c) (.int i)=some (.d<|.tup [.int op,od.dv]):=by
  show(at? (f_ v.c) i).map V.d=_
  rw[cP,f_,ϒ,hx];rfl
 simp[e]
 rw[Y6,bJ (by rw[ς];exact hs)]
 simp
theorem Hf{op:Int}{od:Od}{s s':List Slot}{t:Slot}(p:kK v op od s s' t):isIn H (.int op) (.tup [.int 65036,.int 65033,.int 20,.int 32,.int 117,.int 165,.int 140,.int 65027])=some true:=
 p.casesOn (motive:=λop _ _ _ _ _=>isIn H (.int op) (.tup [.int 65036,.int 65033,.int 20,.int 32,.int 117,.int 165,.int 140,.int 65027])=some true) (λ_=>rfl) rfl rfl rfl rfl rfl (λ_=>rfl) (λ_=>rfl) rfl
theorem DI{op:Int}{od:Od}{s s':List Slot}{t:Slot}(p:kK v op od s s' t):s'.length<=1:=
 p.casesOn (motive:=λ_ _ _ s' _ _=>s'.length<=1) (λ_=>ϋ _) (ϋ _) (ϋ _) (ϋ _) (ώ _) (ϋ _) (λ_=>ϋ _) (λ_=>ϋ _) (ϋ _)
@[simp high] theorem isN1s{t:Slot}:iw 1 (.d t.dv)=false:=by induction t<;>rfl
theorem BA{a b:List D}(h:(a++b).length<=big):bA 0 (.lst a) K (.lst b) H=K (.lst<|a++b) H:=by rw[Vl,bJ h]
abbrev SG(Μ:List Int)(n:Nat)(q:Fx)(st:St)(v:WD)(es sn:List (Int×V))(td:List D)(r:List PO)(ks:List Nat)(i:Nat)(s:List Slot)(ws:List Way)(t:Option Slot):Prop:=
 ∃es' r',nT v.kp (AI t ks) es' (r++r')/\es'.length<=es.length+1/\∀{R:Type}{K:KV R},un (Β Μ (n+4) true 94 [.obj 65,.int i,.lst<|s.map Slot.dv]<|Wk q st v es sn td r) K=K (.lst<|ws.map nj) (Wk q st v es' sn td<|r++r')
theorem N4{ks:List Nat}{s s':List Slot}{op:Int}{od:Od}{t:Slot}(h:nT v.kp ks es r)(hl:v.loc=st.locals)(hx:v.c[i]? =some (op,od))(hs:s.length<=big)(p:kK v op od s s' t):SG Μ n q st v es sn td r ks i s [((i:Int)+1,s'++[t],0)] none:=by
 refine⟨es,[.dead],h.app _,ϰ _,λ{R K}=>qR rfl rfl rfl<|(step0 hx hs).trans ?_⟩
 have l:(s'.map Slot.dv++[t.dv]).length<=big:=by
  rw[θ,ς];exact η (bM (DI p) 1) (by decide)
 simp[Hf p,cu (f:=92) rfl,B0 p hl,kZ]
 rw[BA l]
 simp[nj]
@[simp high] theorem in8{i a b c d e f g h:Int}:isIn H (.int i) (.tup [.int a,.int b,.int c,.int d,.int e,.int f,.int g,.int h])=some (a==i||(b==i||(c==i||(d==i||(e==i||(f==i||(g==i||(h==i||false)))))))):=rfl
section
variable{ks:List Nat}(h:nT v.kp ks es r)
theorem Ba{s:List Slot}{ws:List Way}(h:nT v.kp ks es r)(e: ∀{R:Type}{K:KV R},un (Β Μ (n+4) true 94 [.obj 65,.int i,.lst<|s.map Slot.dv]<|Wk q st v es sn td r) K=K (.lst<|ws.map nj) (Wk q st v es sn td<|r++[.dead])):SG Μ n q st v es sn td r ks i s ws none:=⟨es,[.dead],h.app _,ϰ _,e⟩
include h
theorem Ui{n':Int}(hx:v.c[i]? =some (0,.i n')):SG Μ n q st v es sn td r ks i [] [((i:Int)+1,[],0)] none:=
 Ba h (qR rfl rfl rfl<|(step0 (s:=[]) hx<|ϋ _).trans (by simp[kZ];rfl))
theorem XN{g:Int}{s:List Slot}(hx:v.c[i]? =some (56,.i g))(hs:s.length<=big):SG Μ n q st v es sn td r ks i s [(g,s,56)] none:=
 Ba h (qR rfl rfl rfl<|(step0 hx hs).trans (by simp[kZ];rfl))
theorem Ir{g:Int}(hx:v.c[i]? =some (221,.i g)):SG Μ n q st v es sn td r ks i [] [(g,[],221)] none:=
 Ba h (qR rfl rfl rfl<|(step0 (s:=[]) hx<|ϋ _).trans (by simp[kZ];rfl))
end
theorem Cs{s0:List Slot}{t:Slot}:iL (.lst<|(s0++[t]).map Slot.dv) (.lst [])=some false:=by
 show(if fK 6 (.lst<|(s0++[t]).map Slot.dv)&&fK 6 (.lst []) then some (kU ((s0++[t]).map Slot.dv) []) else none)=_
 have:fK 6 (.lst<|(s0++[t]).map Slot.dv)=true:=jj (mE 4) _
 rw[this]
 induction s0<;>rfl
theorem L5{s:List Slot}:(Wj q st v es sn td r s).get (r.length+69)= .list (s.map Slot.dv):=j8
theorem WA{s0:List Slot}{t:Slot}:runC u (Wj q st v es sn td r<|s0++[t]) (r.length+69) 67 [] K=K (.d t.dv) (Wj q st v es sn td r s0):=by
 rw[lC<|j8.trans (by rw[Ξ];rfl)]
 exact congrArg (K _) mu
inductive Top(op:Int):Prop
 |mk (e8: ∀{H:Hp},isIn H (.int op) (.tup [.int 65036,.int 65033,.int 20,.int 32,.int 117,.int 165,.int 140,.int 65027])=some false) (a:(op==0)=false) (b:(op==56)=false) (c:(op==221)=false) (e2: ∀{H:Hp},isIn H (.int op) (.tup [.int 220,.int 65050])=some false) (d:(op==42)=false) (e:(op==37)=false)
theorem NG{x y w:D}{l:List D}{op:Int}{a b c a0 a1:Option V}{b1 b2 b3 b4 b5 b6 b7 body:E}(ho:Top op)(g:H.get j= .list l)(e:iL (.lst l) (.lst [])=some false)(p: ∀{K:KV R},runC X.k H j 67 [] K=K (.d y) H'):
 wX X (k (ifs (P.C 6 (L 3)<|Tu<|k (I 65036)<|k (I 65033)<|k (I 20)<|k (I 32)<|k (I 117)<|k (I 165)<|k (I 140)<|k (I 65027) z) b1 z)<|k (ifs (P.C 0 (L 3)<|I 0) b2 z)<|k (ifs (P.C 0 (L 3)<|I 56) b3 z)<|k (ifs (P.C 0 (L 3)<|I 221) b4 z)<|k (ifs (P.C 6 (L 3)<|Tu<|k (I 220)<|k (I 65050) z) b5 z)<|k (ifs (P.C 0 (L 3)<|I 42) b6 z)<|k (ifs (P.C 0 (L 5)<|Li 0 z) (k (ret N) z) z)<|k (ifs (P.C 0 (L 3)<|I 37) b7 z)<|k (asg (L 7)<|M 67 (L 5) z) body)
  [a0,a1,some<|.d x,some<|.int op,some<|.d w,some<|.obj j,a,b,c] H k0=wX X body [a0,a1,some<|.d x,some<|.int op,some<|.d w,some<|.obj j,a,some<|.d y,c] H' k0:=by
 dsimp[-in8]
 rw[ho.1]
 dsimp
 rw[ho.2]
 dsimp
 rw[ho.3]
 dsimp
 rw[ho.4]
 dsimp[-in2]
 rw[ho.5]
 dsimp
 rw[ho.6]
 dsimp
 rw[kX g,e]
 dsimp
 rw[ho.7]
 dsimp
 rw[mW g]
 dsimp
 rw[p]
 rfl
theorem mZ{s0:List Slot}{t:Slot}{op:Int}{od:Od}{b1 b2 b3 b4 b5 b6 b7 body:E}(hx:v.c[i]? =some (op,od))(hs:(s0++[t]).length<=big)(ho:Top op):
 wX X (k (asg (Tu<|k (L 3)<|k (L 4) z)<|P.X (P.X (L 0)<|Z 55)<|L 1)<|k (asg (L 5)<|Bu 2<|L 2)<|k (ifs (P.C 6 (L 3)<|Tu<|k (I 65036)<|k (I 65033)<|k (I 20)<|k (I 32)<|k (I 117)<|k (I 165)<|k (I 140)<|k (I 65027) z) b1 z)<|k (ifs (P.C 0 (L 3)<|I 0) b2 z)<|k (ifs (P.C 0 (L 3)<|I 56) b3 z)<|k (ifs (P.C 0 (L 3)<|I 221) b4 z)<|k (ifs (P.C 6 (L 3)<|Tu<|k (I 220)<|k (I 65050) z) b5 z)<|k (ifs (P.C 0 (L 3)<|I 42) b6 z)<|k (ifs (P.C 0 (L 5)<|Li 0 z) (k (ret N) z) z)<|k (ifs (P.C 0 (L 3)<|I 37) b7 z)<|k (asg (L 7)<|M 67 (L 5) z) body)
  [some<|.obj 65,some<|.int i,some<|.lst<|(s0++[t]).map Slot.dv,none,none,none,none,none,none] (Wk q st v es sn td r) k0=wX X body (sE r i (.lst<|(s0++[t]).map Slot.dv) op od none (some<|.d t.dv) none) (Wj q st v es sn td r s0) k0:=
 (step0 hx hs).trans (NG ho L5 Cs WA)
section
variable{ks:List Nat}(h:nT v.kp ks es r)
include h
omit h in
theorem nT.kill{o:PO}{r2:List PO}(h:nT v.kp ks es (r++([o]++r2)))(ho: ∀x,o≠.list [.int x]):nT v.kp ks es (r++([.dead]++r2)):=⟨λkey m=>by
 refine(h.1 key m).elim λj q_=>q_.elim λa b=>?_
 refine⟨j,a,?_⟩
 refine(eN<|j<r.length).elim (λc=>?_) λc=>?_
 ·rw[Ϥ c] at b⊢;exact b
 ·have c:=ϯ.mp c
  rw[aA c] at b⊢
  induction e:j-r.length with
  |zero=>rw[e] at b;exact absurd (ξ b)<|ho _
  |succ m=>rw[e] at b;exact b,h.2⟩
omit h in
theorem uy:1<=big:=by decide
omit h in
theorem PK:2<=big:=by decide
theorem ER{op n':Int}(hx:v.c[i]? =some (op,.i n'))(hc:v.cls=st.clauses)(hz:(v.jO i).length<=big)(ho:op=220∨op=65050)(hs:jX v i op):SG Μ n q st v es sn td r ks i [] [] none:=by
 have hi:=(Δ.mp hx).1
 refine Ba h<|qR rfl rfl rfl<|(step0 hx<|ϋ _).trans ?_
 rcases ho with rfl|rfl<;>simp[kZ,cu (f:=93) rfl,B3 hi hc hz hs]
omit h in
theorem rZ(s:List Slot):iL (.lst<|s.map Slot.dv) (.lst<|s.map Slot.dv)=some true:=by
 have h1:fK 6 (.lst<|s.map Slot.dv)=true:=jj (mE 4) _
 show(if fK 6 (.lst<|s.map Slot.dv)&&fK 6 (.lst<|s.map Slot.dv) then some (kU (s.map Slot.dv)<|s.map Slot.dv) else none)=_
 rw[h1,kW<|jj (mE 4) _];rfl
theorem y_ret{n':Int}(hx:v.c[i]? =some (42,.i n'))(hb:v.back.length<=big)(hp:v.jO i=[]):SG Μ n q st v es sn td r ks i v.back [] none:=by
 have hi:=(Δ.mp hx).1
 refine Ba h<|qR rfl rfl rfl<|(step0 hx hb).trans ?_
 simp[kZ,rZ,mD hi,hp]
theorem Ud{n':Int}{t:Slot}(hx:v.c[i]? =some (37,.i n')):SG Μ n q st v es sn td r ks i [t] [((i:Int)+1,[t,t],0)] none:=by
 refine Ba h<|qR rfl rfl rfl<|(step0 (s:=[t]) hx uy).trans ?_
 have e:iL (.lst [t.dv]) (.lst [])=some false:=Cs (s0:=[])
 have e1 {H:Hp}:ϩ H (.lst [t.dv]) (.int<|-1)=some (.d t.dv):=rfl
 simp[kX L5,e,kZ,e1]
 rw[BA (a:=[t.dv]) (b:=[t.dv]) PK]
 rfl
theorem XR{x:Nat}{t:Slot}{k:Int}(hb:es.length<big)(hl:v.loc=st.locals)(hx:v.c[i]? =some (65038,.i x))(h1:v.loc[x]? =some k)(h2:storeOk k t)(h3: ∀key,dJ t=some key->v.kp key=x):SG Μ n q st v es sn td r ks i [t] [((i:Int)+1,[],0)] (some t):=by
 refine(Ge (Μ:=Μ) (n:=n+1) (q:=q) (v:=v) (sn:=sn) (td:=td) (h.app [.dead]) hb h3 (hl▸h1) h2).elim λes' q_=>q_.elim λr' q_=>q_.elim λa q_=>q_.elim λb c=>?_
 replace a:=Α r _ r'▸a
 refine⟨es',PO.dead::r',a,b,λ{R K}=>qR rfl rfl rfl<|(mZ (s0:=[]) hx uy ⟨rfl,rfl,rfl,rfl,rfl,rfl,rfl⟩).trans ?_⟩
 simp[kZ,Od.dv,c]
 rfl
theorem Uj{n':Int}{t:Slot}(hb:es.length<big)(hx:v.c[i]? =some (38,.i n'))(h3: ∀key,dJ t=some key->v.kp key= -1):SG Μ n q st v es sn td r ks i [t] [((i:Int)+1,[],0)] (some t):=by
 refine(BX (Μ:=Μ) (n:=n+2) (q:=q) (st:=st) (v:=v) (sn:=sn) (td:=td) (h.app [.list []]) hb h3).elim λes' q_=>q_.elim λr' q_=>q_.elim λa q_=>q_.elim λb c=>?_
 replace a:=Α r _ r'▸a
 refine⟨es',PO.dead::r',?_,b,λ{R K}=>qR rfl rfl rfl<|(mZ (s0:=[]) hx uy ⟨rfl,rfl,rfl,rfl,rfl,rfl,rfl⟩).trans ?_⟩
 ·exact a.kill λx e=>by cases e
 have f {k1:KS (V×Hp)}:mT 5 (sE r i (.lst [t.dv]) 38 (.i n') none (some<|.d t.dv) none) (Wk q st v es' sn td<|r++ .list []::r') k1=k1 .next [some<|.obj 65,some<|.int i,some<|.lst [t.dv],some<|.int 38,some<|.int n',some<|.lst [],none,some<|.d t.dv,none] (Wk q st v es' sn td<|r++ .dead::r'):=
  (QI rfl j8).trans (congrArg (k1 .next _) mu)
 have c' {R:Type} {K:KV R}:un (Β Μ (n+3) true 90 [.obj 65,.d t.dv,.int<|-1]<|Wj q st v es sn td r []) K=K .none (Wk q st v es' sn td<|r++ .list []::r'):=c.trans (by rw[Α];rfl)
 simp[c',f]
 rfl
theorem Uk{n':Int}{t:Slot}(hx:v.c[i]? =some (122,.i n'))(ht:t= .v 14∨t= .v 16∨∃k,t= .g k):SG Μ n q st v es sn td r ks i [t] [] none:=by
 refine Ba h<|qR rfl rfl rfl<|(mZ (s0:=[]) hx uy ⟨rfl,rfl,rfl,rfl,rfl,rfl,rfl⟩).trans ?_
 have e1 {H:Hp}:isIn H (.tup [.str 82,.int 14]) (.tup [.tup [.str 82,.int 14],.tup [.str 82,.int 16]])=some true:=rfl
 have e2 {H:Hp}:isIn H (.tup [.str 82,.int 16]) (.tup [.tup [.str 82,.int 14],.tup [.str 82,.int 16]])=some true:=rfl
 rcases ht with rfl|rfl|⟨k',rfl⟩<;>simp[Slot.dv,e1,e2,kZ]
theorem N3{n':Int}{t:Slot}{p:Nat}{r2:List (Nat×Nat)}(hx:v.c[i]? =some (65041,.i n'))(ht:t= .b∨t= .c 0∨t= .c 1)(hp:v.jO i=(p,2)::r2):SG Μ n q st v es sn td r ks i [t] [] none:=by
 have hi:=(Δ.mp hx).1
 refine Ba h<|qR rfl rfl rfl<|(mZ (s0:=[]) hx uy ⟨rfl,rfl,rfl,rfl,rfl,rfl,rfl⟩).trans ?_
 have e1 {H:Hp}:isIn H (.tup [.str 85]) (.tup [.tup [.str 85],.tup [.str 84,.int 0],.tup [.str 84,.int 1]])=some true:=rfl
 have e2 {H:Hp}:isIn H (.tup [.str 84,.int 0]) (.tup [.tup [.str 85],.tup [.str 84,.int 0],.tup [.str 84,.int 1]])=some true:=rfl
 have e3 {H:Hp}:isIn H (.tup [.str 84,.int 1]) (.tup [.tup [.str 85],.tup [.str 84,.int 0],.tup [.str 84,.int 1]])=some true:=rfl
 rcases ht with rfl|rfl|rfl<;>simp[Slot.dv,e1,e2,e3,kZ,mD hi,hp]
theorem XS{ls:List Int}(hx:v.c[i]? =some (69,.ts ls))(hl:ls.length<big):SG Μ n q st v es sn td r ks i [.v 7] (ls.map (λg=>(g,[],69))++[((i:Int)+1,[],0)]) none:=by
 refine Ba h<|qR rfl rfl rfl<|(mZ (s0:=[]) hx uy ⟨rfl,rfl,rfl,rfl,rfl,rfl,rfl⟩).trans ?_
 simp[Slot.dv,Od.dv,kZ,(rfl:iL (.tup [.str 82,.int 7]) (.tup [.str 82,.int 7])=some true)]
 refine(C0 (gq:=λx=>.tup [x,.lst [],.int 69]) (λx m=>?_) (by rw[ς];exact aV hl)).trans ?_
 ·obtain⟨g,_,rfl⟩:=Ϗ.mp m
  simp[Cr]
 simp
 rw[BA (by simp;exact hl)]
 simp[nj]
 rfl
theorem Ub{g k':Int}{key:Nat}(hx:v.c[i]? =some (58,.i g)):SG Μ n q st v es sn td r ks i [.x key k',.x key k'] [(g,[.x key k'],58),((i:Int)+1,[.z],0)] none:=by
 refine Ba h<|qR rfl rfl rfl<|(mZ (s0:=[.x key k']) hx PK ⟨rfl,rfl,rfl,rfl,rfl,rfl,rfl⟩).trans ?_
 have e1:iL (.lst [.tup [.str 79,.int key,.int k']]) (.lst [.tup [.str 79,.int key,.int k']])=some true:=rZ [.x key k']
 simp[Slot.dv,kX L5,e1,kZ]
 rfl
omit h in
@[simp high] theorem bb57:((57:Int)==57)=true:=rfl
omit h in
@[simp high] theorem bb58:((58:Int)==58)=true:=rfl
omit h in
@[simp high] theorem eqD_v:iL (.tup [.str 82,.int 1]) (.tup [.str 82,.int 1])=some true:=rfl
theorem T_{op g:Int}(hx:v.c[i]? =some (op,.i g))(ho:op=57∨op=58):SG Μ n q st v es sn td r ks i [.v 1] [(g,[],op),((i:Int)+1,[],0)] none:=by
 rcases ho with rfl|rfl
 ·refine Ba h<|qR rfl rfl rfl<|(mZ (s0:=[]) hx uy ⟨rfl,rfl,rfl,rfl,rfl,rfl,rfl⟩).trans ?_
  simp[Slot.dv,kZ]
  rfl
 ·refine Ba h<|qR rfl rfl rfl<|(mZ (s0:=[]) hx uy ⟨rfl,rfl,rfl,rfl,rfl,rfl,rfl⟩).trans ?_
  simp[Slot.dv,kZ]
  rfl
noncomputable def Od.len:Od->Nat
 | .i _=>0
 | .ts l=>l.length
theorem KP{op:Int}{od:Od}{s:List Slot}{ws:List Way}{t:Option Slot}(hb:es.length<big)(hl:v.loc=st.locals)(hc:v.cls=st.clauses)(hx:v.c[i]? =some (op,od))(hs:s.length<=big)(hz:(v.jO i).length<=big)(ho:od.len<big)(p:Step v i op od s ws t):SG Μ n q st v es sn td r ks i s ws t:=
 p.casesOn (motive:=λop od s ws t _=>v.c[i]? =some (op,od)->s.length<=big->od.len<big->SG Μ n q st v es sn td r ks i s ws t) (λp hx hs _=>N4 h hl hx hs p) (λhx _ _=>Ui h hx) (λhx hs _=>XN h hx hs) (λhx _ _=>Ir h hx) (λa b hx _ _=>ER h hx hc hz a b) (λa hx hs _=>y_ret h hx hs a) (λhx _ _=>Ud h hx) (λa b c hx _ _=>XR h hb hl hx a b c) (λa hx _ _=>Uj h hb hx a) (λa hx _ _=>Uk h hx a) (λa b hx _ _=>N3 h hx a b) (λhx _ ho=>XS h hx ho) (λhx _ _=>Ub h hx) (λa hx _ _=>T_ h hx a) hx hs ho
end
end
noncomputable def zp(v:WD)(i goal:Nat)(op:Int):Prop:=goal<v.c.length/\(v.jO i=v.jO goal∨
 ((∀r∈v.jO i,r∈v.jO goal∨(op=221/\r.2≠2/\(r.2=1->∀c,v.cls[r.1]? =some c->c.sort<=1)))/\
  (∀r∈v.jO goal,r∈v.jO i∨(op<=0/\r.2=0/\∀c,v.cls[r.1]? =some c->c.t0=goal))))
section
variable{q:Fx}{st:St}{v:WD}{es sn:List (Int×V)}{td:List D}{r r2:List PO}{R:Type}{K:KV R}{k0:KS R}{u:Bool}{n j i:Nat}{s Μ:List Int}{o o':PO}{H H':Hp}{env:Env}{X:Cx}
theorem map_inj{a b:List (Nat×Nat)}(h:a.map iI=b.map iI):a=b:=(List.map_inj_right<|λ_ _=>DH).mp h
theorem Gm{a b:List (Nat×Nat)}:iL (.lst<|a.map iI) (.lst<|b.map iI)=some (decide<|a=b):=by
 have h (a:List (Nat×Nat)):fK 6 (.lst<|a.map iI)=true:=jj (pH 4) _
 rw[yG (h a) (h b) rfl]
 classical
 refine congrArg some<|decide_eq_decide.mpr ⟨λe=>map_inj (by injection e),λe=>by rw[e]⟩
theorem zh{a:Nat×Nat}{b:List (Nat×Nat)}:isIn H (.d<|iI a) (.lst<|b.map iI)=some (decide<|a∈b):=by
 show(if fK 6 (iI a)&&kF 6 (b.map iI) then some (fC (iI a)<|b.map iI) else none)=_
 rw[pH 5,jj<|pH 5,Aq _<|jj (pH 5) b]
 classical
 refine congrArg some<|decide_eq_decide.mpr ?_
 rw[Ϗ]
 exact⟨λ⟨x,m,e⟩=>DH e▸m,λm=>⟨a,m,rfl⟩⟩
noncomputable abbrev oE(a b:List (Nat×Nat))(i goal:Nat)(op:Int)(x:Option V):Env:=[some<|.obj 65,some<|.int i,some<|.int goal,some<|.int op,some<|.lst<|a.map iI,some<|.lst<|b.map iI,x]
theorem rV{p:Nat}{c:Cl}(hc:v.cls=st.clauses)(h:v.cls[p]? =some c){K:KV R}:gE (st.clauses.map Cl.dv) p K (Wk q st v es sn td r)=K (.d c.dv) (Wk q st v es sn td r):=l_ (by rw[cP,ϒ,<-hc,h];rfl)
theorem Je{t:E}{body:Body}{k:KS R}{r:Option R}{α:Type}{l:List α}{f:α->D}{e0:Option V->Env}{w:Option V}(ht: ∀x w,nZ t (f x) (e0 w)=some (e0<|some<|.d<|f x))(hs: ∀x∈l,body (e0<|some<|.d<|f x) H rt=some (.next,e0<|some<|.d<|f x,H))(hd: ∀w,k .next (e0 w) H=r):lq t body (e0 w) k (l.map f) none H=r:=
 yJ (en:=e0) (λy my w=>(Ϗ.mp my).elim λx h=>⟨some (.d (f x)),by
  rw[<-h.2]
  unfold turn
  rw[ht]
  exact hs x h.1⟩) hd w
theorem KN{i goal:Nat}{op:Int}(hc:v.cls=st.clauses)(hp: ∀i r,r∈v.jO i->r.1<v.cls.length)(hi:i<v.c.length)(ho:zp v i goal op):un (Β Μ (n+1) false 89 [.obj 65,.int i,.int goal,.int op]<|Wk q st v es sn td r) K=K (.bool true) (Wk q st v es sn td r):=by
 obtain⟨hg,ho⟩:=ho
 refine go rfl rfl ?_
 have z0:decide ((f_ v.c).length<=goal)=false:=by
  rw[f_,ς];exact decide_eq_false<|Ux.mpr hg
 simp[z0,mD hi,mD hg,Gm]
 by_cases heq:v.jO i=v.jO goal
 ·simp[heq]
 simp[heq]
 rcases ho with ho|⟨o1,o2⟩
 ·exact absurd ho heq
 refine Je (e0:=oE (v.jO i) (v.jO goal) i goal op) (λx w=>rfl) (λx mx=>?_) λw=>?_
 ·obtain⟨c,hcl⟩: ∃c,v.cls[x.1]? =some c:=⟨_,ϊ<|hp i x mx⟩
  simp[zh]
  by_cases mg:x∈v.jO goal
  ·simp[mg]
  ·refine((o1 x mx).resolve_left mg).elim λh1 q_=>q_.elim λh2 h3=>?_
   subst h1
   have b2:((x.2:Int)==2)=false:=by rw[beq_eq_false_iff_ne];omega
   simp[mg,b2]
   by_cases OB:x.2=1
   ·have b1:((x.2:Int)==1)=true:=by rw[beq_iff_eq];omega
    simp[b1,rV hc hcl,Cl.dv,(decide_eq_false (Ϭ.mpr<|h3 OB c hcl):decide (1<c.sort)=false)]
   ·have b1:((x.2:Int)==1)=false:=by rw[beq_eq_false_iff_ne];omega
    simp[b1]
 simp
 refine Je (e0:=oE (v.jO i) (v.jO goal) i goal op) (λx w=>rfl) (λx mx=>?_) λw=>?_
 ·obtain⟨c,hcl⟩: ∃c,v.cls[x.1]? =some c:=⟨_,ϊ<|hp goal x mx⟩
  simp[zh]
  by_cases mg:x∈v.jO i
  ·simp[mg]
  ·refine((o2 x mx).resolve_left mg).elim λh1 q_=>q_.elim λh2 h3=>?_
   have b2:((x.2:Int)==0)=true:=by rw[beq_iff_eq];omega
   have b3:decide (0<op)=false:=decide_eq_false (by omega)
   simp[mg,b2,b3,rV hc hcl,Cl.dv,h3 c hcl]
 simp
end
section
variable{R σ α:Type}{test:Env->Hp->KV (V×Hp)->Option (V×Hp)}{body:Body}{k0:KS R}{t:E}{st:Option (Nat×PO)}
abbrev pr:KV (V×Hp):=λv h=>some (v,h)
variable{en:σ->Env}{hp:σ->Hp}
theorem H_{K:KV R}:un none K=none:=ϥ _
noncomputable def XJ(test:Env->Hp->KV (V×Hp)->Option (V×Hp))(body:Body)(rec:Env->Hp->Option (Fl×Env×Hp))(e:Env)(H:Hp):Option (Fl×Env×Hp):=un (test e H pr) λv h=>ob (truth v) λb=>match b with
 |false=>some (.next,e,h)
 |true=>match body e h rt with
  |some (.next,e,h)=>rec e h
  |some (.cont,e,h)=>rec e h
  |some (.brk,e,h)=>some (.next,e,h)
  |some (.ret v,e,h)=>some (.ret v,e,h)
  |none=>none
theorem Ij{f g:Env->Hp->Option (Fl×Env×Hp)}(hfg: ∀e H r,f e H=some r->g e H=some r){e:Env}{H:Hp}{r:Fl×Env×Hp}:XJ test body f e H=some r->XJ test body g e H=some r:=by
 unfold XJ
 cases test e H pr with
 |none=>exact λh=>absurd (H_.symm.trans h)<|λh=>Ϝ h
 |some x=>
  rw[un_,un_]
  cases truth x.1 with
  |none=>exact id
  |some b=>
   induction b with
   |false=>exact id
   |true=>
    dsimp only[ob_]
    cases body e x.2 rt with
    |none=>exact id
    |some y=>
     obtain⟨fl,e2,h2⟩:=y
     induction fl with
     |next=>exact hfg e2 h2 r
     |cont=>exact hfg e2 h2 r
     |brk=>exact id
     |ret v=>exact id
theorem J1{n m:Nat}{e:Env}{H:Hp}{r:Fl×Env×Hp}(h:tN test body n e H=some r)(l:n<=m):tN test body m e H=some r:=by
 have one: ∀n e H r,tN test body n e H=some r->tN test body (n+1) e H=some r:=by
  intro n
  induction n with
  |zero=>exact λe H r h=>Ϝ h
  |succ n ih=>exact λe H r h=>Ij ih h
 induction l with
 |refl=>exact h
 |step _ ih=>exact one _ _ _ _ ih
theorem TV{n:Nat}{e e2:Env}{H H2:Hp}{f:Fl}(h:tN test body n e H=some (f,e2,H2)):Ii test body e H k0=k0 f e2 H2:=by
 have hx: ∃n r,tN test body n e H=some r:=⟨n,_,h⟩
 unfold Ii
 rw[dif_pos hx,(ξ ((J1 hx.choose_spec.choose_spec<|Nat.le_max_left _ n).symm.trans<|J1 h<|Nat.le_max_right _ n):hx.choose_spec.choose=(f,e2,H2))]
inductive Vb(test:Env->Hp->KV (V×Hp)->Option (V×Hp))(body:Body)(en:σ->Env)(hp:σ->Hp)(I Q:σ->Prop)(μ:σ->Nat)(s:σ):Prop
 |dn:test (en s) (hp s) pr=some (.bool false,hp s)->Q s->Vb test body en hp I Q μ s
 |go:test (en s) (hp s) pr=some (.bool true,hp s)->FH en hp (λs'=>I s'/\μ s'<μ s) (body (en s) (hp s) rt)->Vb test body en hp I Q μ s
theorem J2(I Q:σ->Prop)(μ:σ->Nat)(hs: ∀s,I s->Vb test body en hp I Q μ s)(s:σ)(h:I s):Ends en hp Q k0 (Ii test body (en s) (hp s) k0):=by
 have main: ∀N s,μ s<N->I s->∃s2,Q s2/\tN test body N (en s) (hp s)=some (.next,en s2,hp s2):=by
  intro N
  induction N with
  |zero=>exact λs h=>absurd h<|FF _
  |succ N ih=>
   exact λs hm h=>(hs s h).casesOn (λa b=>⟨s,b,by
    show un (test (en s) (hp s) pr) _=_
    rw[a,un_];rfl⟩) λa n=>n.casesOn λf s1 h1 hf e=>(ih s1 (bw h1.2 (mK hm)) h1.1).imp λs2 h2=>⟨h2.1,by
    show un (test (en s) (hp s) pr) _=_
    rw[a,un_]
    show(match body (en s) (hp s) rt with
     |some (.next,e,h)=>tN test body N e h|some (.cont,e,h)=>tN test body N e h|some (.brk,e,h)=>some (.next,e,h)|some (.ret v,e,h)=>some (.ret v,e,h)|none=>none)=_
    rw[e]
    rcases hf with rfl|rfl<;>exact h2.2⟩
 exact(main (μ s+1) s (ϝ _) h).elim λs2 h2=>⟨s2,h2.1,TV h2.2⟩
end
noncomputable def Cl.oB(c:Cl):List Int:=c.t0::c.t1::c.h0::c.h1::if c.sort=1 then [c.ex] else []
noncomputable def Af(op:Int):Bool:=op==56||(op==57||(op==58||op==221))
noncomputable def tgt(op:Int):Od->List Int
 | .i x=>if Af op then [x] else []
 | .ts l=>l
noncomputable def kT:List (Int×Int×Int×Int):=[(0,0,0,0),(20,0,0,1),(32,1,0,1),(37,0,1,2),(38,0,1,0),(42,0,0,0),(56,5,0,0),(57,5,1,0),(58,5,1,0),(69,6,1,0),(117,7,1,1),(122,0,1,0),(140,7,1,1),(165,7,1,1),(220,0,0,0),(221,5,0,0),(65027,0,2,1),(65033,3,0,1),(65036,4,0,1),(65038,4,1,0),(65041,0,1,0),(65050,0,0,0)]
noncomputable def dI:List Int:=kT.map (·.1)
noncomputable def WG(op:Int):Int×Int×Int:=(lk op kT).getD (0,0,0)
noncomputable def vU(op:Int):Od->Prop
 | .i _=>op≠69
 | .ts _=>op=69
noncomputable def pp(g:Int)(op:Int):Int×Int:=if op=42 then(g,0) else(WG op).2
noncomputable def eF(g:Int)(op d:Int):Int:=if op=221 then 0 else d-(pp g op).1+(pp g op).2
noncomputable def Bc(out:List Int)(g:Int):List Int:=if out.contains g then out else out++[g]
noncomputable def cV(c:SC)(i:Nat)(x:Int×Od):List Int:=(tgt x.1 x.2).foldl Bc (if !bK x.1&&decide (i+1<c.length) then [(i:Int)+1] else [])
section
variable{R:Type}{K:KV R}{k0:KS R}{u:Bool}{n j i:Nat}{Μ:List Int}{o o':PO}{H H':Hp}{env:Env}{X:Cx}{t:List PO}
@[simp high] theorem ixT4{a b c d x:D}{l:List D}:ϩ H (.tup<|a::b::c::d::x::l) (.int 4)=some (.d x):=rfl
@[simp high] theorem ixT5{a b c d e x:D}{l:List D}:ϩ H (.tup<|a::b::c::d::e::x::l) (.int 5)=some (.d x):=rfl
theorem yv{c:Cl}:un (Β Μ (n+1) false 74 [.d c.dv] H) K=K (.tup<|c.oB.map .int) H:=by
 refine go rfl rfl ?_
 unfold Cl.oB
 by_cases h:c.sort=1
 ·simp[Cl.dv,h]
 ·simp[Cl.dv,h,beq_eq_false_iff_ne.mpr h]
noncomputable def X3(r:Int×Int×Int×Int):Prop:=look r.1 QM=some (.int r.2.1)/\(r.2.1==5)=Af r.1/\decide (r.2.1<0)=false/\(r.1==65046)=false/\(r.1==65054)=false/\look r.1 OA=(match r.1==42 with|true=>none|false=>some<|.tup [.int r.2.2.1,.int r.2.2.2])/\lk r.1 kT=some r.2
noncomputable def AllP{α:Type}(P:α->Prop)(l:List α):Prop:=l.foldr (λa q=>P a/\q) True
theorem Py{α:Type}{P:α->Prop}: ∀{l:List α},AllP P l->∀x∈l,P x:=λ{l}=>by
 induction l with
 |nil=>exact λ_ _ m=>ay m
 |cons a l ih=>exact λh x m=>(Θ.mp m).elim (λe=>e▸h.1)<|ih h.2 x
theorem Mb:AllP X3 kT:=by
 repeat' first|exact trivial|apply cH|rfl
theorem kn{op:Int}(h:op∈dI):X3 (op,WG op):=by
 obtain⟨r,m,rfl⟩:=Ϗ.mp h
 have:=Py Mb r m
 unfold WG
 rw[this.2.2.2.2.2.2]
 exact this
@[simp high] theorem rGd{k:Nat}:resolve H 6 (.gd k)=some (.gd k):=rfl
@[simp high] theorem gGd{es:List (Int×V)}{i:Int}{d:V}:vh es H [.int i,d] K=K ((look i es).getD d) H:=rfl
@[simp high] theorem gv1:qs 1= .gd 1:=rfl
@[simp high] theorem gv2:qs 2= .gd 2:=rfl
@[simp high] theorem gdT1:Av 1=QM:=rfl
@[simp high] theorem gdT2:Av 2=OA:=rfl
theorem qN{op s:Int}(hs:look op QM=some (.int s)):un (Β Μ (n+1) false 15 [.int op] H) K=K (.int s) H:=go rfl rfl (by simp[hs])
theorem uD{op s:Int}(hs:look op QM=some (.int s)):un (Β Μ (n+1) false 17 [.int op] H) K=K (.bool<|s==5) H:=go rfl rfl (by simp[hs])
theorem BZ{op:Int}(h:(op==65046)=false)(h2:(op==65054)=false):un (Β Μ (n+1) false 19 [.int op] H) K=K (.int<|-1) H:=go rfl rfl (by simp[h,h2])
theorem lZ{op:Int}{od:Od}(h:op∈dI)(ho:vU op od):un (Β Μ (n+2) false 18 [.d<|.tup [.int op,od.dv]] H) K=K (.tup<|(tgt op od).map .int) H:=by
 refine go rfl rfl ?_
 induction od with
 |ts l=>
  subst ho
  simp[Od.dv,tgt]
 |i x=>
  have k:=kn h
  unfold tgt
  cases h5:Af op<;>simp[Od.dv,(beq_eq_false_iff_ne.mpr ho),uD k.1,k.2.1.trans h5]
theorem BY{op g:Int}{w:D}{tl:Nat}(h:op∈dI)(ht:ϸ H 9 (.ins 1 tl)=some (.int g))(hm:resolve H 11 (.ins 1 tl)=some (.fn 14<|.ins 1 tl)):un (Β Μ (n+2) false 20 [.tup [.int op,w],.ins 1 tl] H) K=K (.tup [.int (pp g op).1,.int (pp g op).2]) H:=by
 refine go rfl rfl ?_
 have i2:isIn H (.int op) (.gd 2)=some (look op OA).isSome:=rfl
 have x2:ϩ H (.gd 2) (.int op)=look op OA:=rfl
 have k:=(kn h).2.2.2.2.2.1
 refine(eN<|op=42).elim (λh42=>?_) λh42=>?_
 ·have e {K:KV (V×Hp)}:un (Β Μ (n+1) false 14 [.ins 1 tl] H) K=K (.int g) H:=go rfl rfl (by simp[ht])
  subst h42
  simp[i2,show look 42 OA=none from rfl,hm,e,pp]
 ·have hb:=beq_eq_false_iff_ne.mpr h42
  dsimp only at k
  rw[hb] at k
  simp[i2,x2,k,pp,h42]
theorem code_at{c:SC}{x:Int×Od}(hx:c[i]? =some x):ϩ H (.lst<|f_ c) (.int i)=some (.d<|.tup [.int x.1,x.2.dv]):=by
 show(at? (f_ c) i).map V.d=_
 rw[cP,f_,ϒ,hx];rfl
theorem qq{c:SC}{tl:Nat}{x:Int×Od}{g d:Int}(hx:c[i]? =some x)(hk:x.1∈dI)(ht:ϸ H 9 (.ins 1 tl)=some (.int g))(hm:resolve H 11 (.ins 1 tl)=some (.fn 14<|.ins 1 tl))(hd:(pp g x.1).1<=d):un (Β Μ (n+3) false 79 [.lst<|f_ c,.int i,.int d,.ins 1 tl] H) K=K (.int<|eF g x.1 d) H:=by
 refine go rfl rfl ?_
 have k:=kn hk
 unfold eF
 by_cases h:x.1=221
 ·rw[if_pos h]
  simp[code_at hx,qN k.1,k.2.2.1,BY hk ht hm,Ϭ.mpr hd,beq_iff_eq.mpr h]
 ·rw[if_neg h]
  simp[code_at hx,qN k.1,k.2.2.1,BY hk ht hm,Ϭ.mpr hd,beq_eq_false_iff_ne.mpr h]
noncomputable def Hx(H:Hp)(t:List PO):Hp:=⟨H.ok,H.c++t⟩
variable{o2:PO}
theorem LK:H.new o=Hx H [o]:=rfl
theorem LJ:(Hx H<|o::t).get H.c.length=o:=congrArg (·.getD .dead)<|h_
theorem hp0:(Hx H<|o::t).put H.c.length o2=Hx H (o2::t):=congrArg (λx=>(⟨H.ok,x⟩:Hp)) ia
theorem xr:(Hx H t).cut H.c.length=H:=congrArg (Hp.mk H.ok) jG
theorem xj(g:Int)(out:List Int):fC (.int g) (out.map .int)=out.contains g:=by
 induction out with
 |nil=>rfl
 |cons a out ih=>
  show((a==g)||fC (.int g) (out.map .int))=_
  rw[ih,List.contains_cons,Bool.beq_comm]
theorem Az{g:Int}{out:List Int}(h:H.get j= .list (out.map .int)):isIn H (.int g) (.obj j)=some (out.contains g):=(xD h<|S8 _ _).trans (by rw[xj])
theorem yr{out:List Int}{g:Int}:(Bc out g).length<=out.length+1:=by
 unfold Bc
 split
 ·exact ϰ _
 ·exact cC θ
theorem QF(l:List Int): ∀out:List Int,(l.foldl Bc out).length<=out.length+l.length:=by
 induction l with
 |nil=>exact λout=>ώ _
 |cons a l ih=>exact λout=>η (ih _)<|η (bM yr _)<|cC<|cz ..
noncomputable abbrev YT(c:SC)(i:Nat)(H:Hp)(s:Option V×List Int):Env:=[some<|.lst<|f_ c,some<|.int i,some<|.int (f_ c).length,some<|.obj H.c.length,s.1]
noncomputable abbrev UX(H:Hp)(s:Option V×List Int):Hp:=Hx H [.list<|s.2.map .int]
inductive YZ(c:SC)(ss l:List Int)(s:Option V×List Int):Prop
 |mk (e:l.foldl Bc s.2=ss) (g: ∀g∈l,0<=g/\g<(c.length:Int)) (n:s.2.length+l.length<=1000)
theorem Ef{out:List Int}{g:Int}(h:out.length<1000):runC u (UX H (none,out)) H.c.length 1 [.int g] K=K .none (UX H (none,out++[g])):=by
 rw[gp LJ,bJ (by rw[ς];exact mP h (by decide)),hp0,sJ]
theorem rR{c:SC}{x:Int×Od}(hx:c[i]? =some x)(hk:x.1∈dI)(ho:vU x.1 x.2)(hg: ∀g∈tgt x.1 x.2,0<=g/\g<(c.length:Int))(hl:(tgt x.1 x.2).length<=100):un (Β Μ (n+3) false 76 [.lst<|f_ c,.int i] H) K=K (.tup<|(cV c i x).map .int) H:=by
 refine go rfl rfl ?_
 have zz:decide ((i:Int)+1<((f_ c).length))=decide (i+1<c.length):=by
  rw[f_,ς];exact decide_eq_decide.mpr (by omega)
 have st {out:List Int} (lo:out.length<=1):lq (L 4) (wX ⟨Μ,Β Μ (n+2) false,false⟩<|k (n5<|O 0<|k (P.C 2 (L 4)<|I 0)<|k (P.C 5 (L 4)<|L 2) z)<|k (ifs (P.C 7 (L 4)<|L 3) (k (ex<|M 1 (L 3)<|k (L 4) z) z) z) z) (YT c i H (none,out)) (pX (wX ⟨Μ,Β Μ (n+2) false,false⟩<|k (ret<|Bu 3<|L 3) P.z)<|dS false H.c.length) ((tgt x.1 x.2).map .int) none (UX H (none,out))=some (.tup<|((tgt x.1 x.2).foldl Bc out).map .int,H):=by
  refine(gy (YZ c<|(tgt x.1 x.2).foldl Bc out) (λ_ _ _ _=>rfl) (λg l s h=>?_) _ (none,out) ⟨rfl,hg,η (cL lo hl) (by decide)⟩).casesOn λs h e=>e.trans ?_
  ·obtain⟨w,out⟩:=s
   have lt:=bw (dB<|cT _) h.3
   refine⟨.next,(some<|.int g,Bc out g),⟨h.1,λy m=>h.2 y<|.tail _ m,η (bM yr _)<|η (cC<|bN _ _) h.3⟩,.inl rfl,?_⟩
   have g0:=h.2 g<|.head _
   have z1:decide (((f_ c).length)<=g)=false:=decide_eq_false (by rw[f_,ς];exact cy.mpr g0.2)
   have e0:=Az (g:=g) (H:=UX H (none,out)) LJ
   show wX _ _ (YT c i H (some<|.int g,out)) _ rt=_
   unfold Bc
   induction hc:out.contains g with
   |true=>
    rw[hc] at e0
    simp[Ϭ.mpr g0.1,z1,show isIn (Hx H [.list<|out.map .int]) (.int g) (.obj H.c.length)=some true from e0]
   |false=>
    rw[hc] at e0
    simp[Ϭ.mpr g0.1,z1,show isIn (Hx H [.list<|out.map .int]) (.int g) (.obj H.c.length)=some false from e0,fZ LJ,Ef lt]
  ·rw[show(tgt x.1 x.2).foldl Bc out=s.2 from h.1.symm]
   have lb:(s.2.map D.int).length<=big:=by
    rw[ς]
    exact η (η (Ρ _ _) h.3) (by decide)
   simp[ng LJ]
   rw[ς] at lb
   rw[bJ lb,xr]
 simp[LK,code_at hx,wY,zz]
 unfold cV
 induction he:bK x.1 with
 |true=>
  simp[code_at hx,lZ hk ho]
  exact st (out:=[])<|ϋ _
 |false=>
  induction h1:decide (i+1<c.length) with
  |true=>
   have e2 {K:KV (V×Hp)}:runC false (Hx H [.list []]) H.c.length 1 [.int<|i+1] K=K .none (Hx H [.list [.int<|i+1]]):=Ef (out:=[]) (by decide)
   simp[zz.trans h1,fZ LJ,e2,code_at hx,lZ hk ho]
   exact st (out:=[(i:Int)+1])<|ώ _
  |false=>
   simp[zz.trans h1,code_at hx,lZ hk ho]
   exact st (out:=[])<|ϋ _
end
class inductive eS(c:SC)(roots:List Nat):Nat->Prop
 |root {i:Nat}:i∈roots->eS c roots i
 |step {i g:Nat} {x:Int×Od}:eS c roots i->c[i]? =some x->(g:Int)∈cV c i x->eS c roots g
inductive At(c:SC)(roots:List Nat)(gv:Int)(dep:Nat->Int)(m:Int):Prop
 |z:m=0->At c roots gv dep m
 |d {i:Nat} {x:Int×Od}:eS c roots i->c[i]? =some x->(m=dep i∨m=eF gv x.1 (dep i))->At c roots gv dep m
inductive fS(c:SC)(roots:List Nat)(gv:Int)(dep:Nat->Int)(m:Int):Prop
 |mk (ub: ∀i x,eS c roots i->c[i]? =some x->dep i<=m/\eF gv x.1 (dep i)<=m) (nn:0<=m) (at_:At c roots gv dep m)
section
variable{c:SC}{roots:List Nat}{gv:Int}{dep:Nat->Int}{m m':Int}{S T T':List Nat}{x g:Nat}{o:Int×Od}
theorem fS.le(a:fS c roots gv dep m)(b:fS c roots gv dep m'):m<=m':=
 a.3.casesOn (λh=>h▸b.2) λhr hx h=>h.elim (λh=>h▸(b.1 _ _ hr hx).1) λh=>h▸(b.1 _ _ hr hx).2
theorem fS.eq(a:fS c roots gv dep m)(b:fS c roots gv dep m'):m=m':=Fq (a.le b)<|b.le a
inductive WI(c:SC)(roots:List Nat)(gv:Int)(dep:Nat->Int)(m:Int)(S T:List Nat):Prop
 |mk (rd: ∀i∈S++T,i<c.length/\eS c roots i) (dn: ∀i∈S,∀o,c[i]? =some o->(dep i<=m/\eF gv o.1 (dep i)<=m)/\∀g:Nat,(g:Int)∈cV c i o->g∈S++T) (rt: ∀r∈roots,r∈S++T) (nn:0<=m) (at_:At c roots gv dep m)
theorem cJ{y:Nat}:y∈T++[x]↔y∈T∨y=x:=by rw[Ζ,υ]
theorem WI.step(w:WI c roots gv dep m S (T++[x]))(ho:c[x]? =some o)(lt: ∀g:Nat,(g:Int)∈cV c x o->g<c.length)(h1: ∀g∈T',g∈T∨(g:Int)∈cV c x o)(h2: ∀g∈T,g∈T')(h3: ∀g:Nat,(g:Int)∈cV c x o->g∈(S++[x])++T')(m1:m<=m')(m2:dep x<=m')(m3:eF gv o.1 (dep x)<=m')(ma:m'=m∨m'=dep x∨m'=eF gv o.1 (dep x)):WI c roots gv dep m' (S++[x]) T':=by
 have hx:=w.1 x<|Ε _<|Ε _<|.head _
 have mv: ∀i∈S++(T++[x]),i∈(S++[x])++T':=λi h=>by
  rw[Ζ,cJ] at h⊢
  exact h.elim (λh=>.inl<|.inl h) λh=>h.elim (λh=>.inr<|h2 i h) λh=>.inl<|.inr h
 refine⟨λi h=>?_,λi h o' ho'=>?_,λr h=>mv r<|w.3 r h,Ϯ w.4 m1,ma.elim (λe=>e▸w.5)<|.d hx.2 ho⟩
 ·rw[Ζ,cJ] at h
  refine h.elim (λh=>h.elim (λh=>w.1 i<|Κ _ h) λh=>h▸hx) λh=>(h1 i h).elim (λh=>w.1 i<|Ε _<|Κ _ h) λh=>⟨lt i h,.step hx.2 ho h⟩
 ·rw[cJ] at h
  by_cases e:i=x
  ·subst e
   cases ξ (ho.symm.trans ho')
   exact⟨⟨m2,m3⟩,h3⟩
  ·have d:=w.2 i (h.resolve_right e) o' ho'
   exact⟨⟨Ϯ d.1.1 m1,Ϯ d.1.2 m1⟩,λg hg=>mv g<|d.2 g hg⟩
theorem WI.old(w:WI c roots gv dep m S (T++[x]))(h:x∈S):WI c roots gv dep m S T:=by
 have mv: ∀i∈S++(T++[x]),i∈S++T:=λi h'=>by
  rw[Ζ,cJ] at h'
  exact Ζ.mpr<|h'.elim .inl λh'=>h'.elim .inr λe=>.inl<|e▸h
 exact⟨λi h=>w.1 i (by rw[<-Α];exact Κ _ h),λi h o ho=>⟨(w.2 i h o ho).1,λg hg=>mv g<|(w.2 i h o ho).2 g hg⟩,λr h=>mv r<|w.3 r h,w.4,w.5⟩
theorem WI.all(w:WI c roots gv dep m S [])(i:Nat)(h:eS c roots i):i∈S:=by
 have e: ∀i∈S++[],i∈S:=λi h=>Ν S▸h
 induction h with
 |root mr=>exact e _<|w.3 _ mr
 |step hr hx hg ih=>exact e _<|(w.2 _ ih _ hx).2 _ hg
theorem WI.JG(w:WI c roots gv dep m S []):fS c roots gv dep m:=⟨λi x hr hx=>(w.2 i (w.all i hr) x hx).1,w.4,w.5⟩
theorem o9: ∀(n:Nat)(l:List Nat),l.Nodup->(∀x∈l,x<n)->l.length<=n:=by
 intro n
 induction n with
 |zero=>
  intro l _ h
  induction l with
  |nil=>exact ώ _
  |cons b l=>exact absurd (h b<|.head _)<|FF _
 |succ n ih=>
  intro l hn h
  have ih:=ih (l.erase n) (hn.erase n) λx m=>
   Nat.lt_of_le_of_ne (mK<|h x ((hn.mem_erase_iff).mp m).2) ((hn.mem_erase_iff).mp m).1
  refine(eN<|n∈l).elim (λhm=>?_) λhm=>?_
  ·rw[List.length_erase_of_mem hm] at ih
   exact Nat.le_succ_of_pred_le ih
  ·rw[List.erase_of_not_mem hm] at ih;exact Ι ih
theorem zg(h:S.Nodup)(n:x∉S):(S++[x]).Nodup:=dP.mpr ⟨h,cF.mpr ⟨ϑ,dQ⟩,λa ha b hb e=>n<|υ.mp hb▸e▸ha⟩
theorem Dp{g:Int}(l:List Int): ∀out:List Int,g∈l.foldl Bc out↔g∈out∨g∈l:=by
 induction l with
 |nil=>exact λout=>by rw[List.foldl_nil,or_iff_left ϑ]
 |cons a l ih=>
  intro out
  rw[List.foldl_cons,ih,Θ,<-or_assoc]
  refine or_congr_left ?_
  unfold Bc
  split
  ·next h=>exact⟨.inl,λh'=>h'.elim id λe=>e▸iX.mp h⟩
  ·rw[Ζ,υ]
theorem fP{i:Nat}{x:Int×Od}{g:Int}:g∈cV c i x↔(bK x.1=false/\i+1<c.length/\g=(i:Int)+1)∨g∈tgt x.1 x.2:=by
 unfold cV
 rw[Dp]
 refine or_congr_left ?_
 cases bK x.1<;>by_cases h:i+1<c.length<;>simp[h]
end
noncomputable def dL(n:Nat)(dep:Nat->Int)(M:List Nat):List D:=(ϗ n).map λi=>.int (if i∈M then dep i else -1)
noncomputable def Fd(W:List Nat):List D:=W.map λ(i:Nat)=>.int (i:Int)
noncomputable def Hs(H:Hp)(n:Nat)(dep:Nat->Int)(S W:List Nat):Hp:=Hx H [.list<|dL n dep<|S++W,.list<|Fd W]
noncomputable def ent(S W:List Nat)(g:Nat):List Nat:=if g∈S++W then W else W++[g]
inductive Ms(n:Nat)(S W:List Nat):Prop
 |mk (nd:(S++W).Nodup) (lt: ∀g∈S++W,g<n) (sz:n<big)
section
variable{R:Type}{K:KV R}{k0:KS R}{u:Bool}{n N j i g:Nat}{Μ:List Int}{o o' o2:PO}{H H':Hp}{env:Env}{X:Cx}{dep:Nat->Int}{S W M:List Nat}{t:List PO}
theorem CL{α:Type}{p q:Prop}[Decidable p][Decidable q]{a b:α}(h:p↔q):(if p then a else b)=if q then a else b:=by
 by_cases hp:p
 ·rw[if_pos hp,if_pos<|h.mp hp]
 ·rw[if_neg hp,if_neg λhq=>hp<|h.mpr hq]
theorem l8{x:Nat}(h:x∈W):x∈ent S W g:=by
 unfold ent
 split
 ·exact h
 ·exact Κ _ h
theorem xg:g∈S++ent S W g:=by
 unfold ent
 split
 ·assumption
 ·exact Ε _<|Ε _<|.head _
theorem Cp{x:Nat}(h:x∈ent S W g):x∈W∨x=g:=by
 unfold ent at h
 split at h
 ·exact .inl h
 ·exact cJ.mp h
theorem Ms.ent(w:Ms N S W)(h:g<N):Ms N S (ent S W g):=by
 unfold Internal.ent
 split
 ·exact w
 ·next m=>
  refine⟨?_,λx hx=>?_,w.3⟩
  ·rw[<-Α];exact zg w.1 m
  ·rw[<-Α,cJ] at hx
   exact hx.elim (w.2 x) λe=>e▸h
theorem Ms.len(w:Ms N S W):S.length+W.length<=N:=θ▸o9 _ _ w.1 w.2
theorem OB:(Hx H<|o::o'::t).get (H.c.length+1)=o':=by
 have:=congrArg (·.getD PO.dead)<|h_ (a:=H.c++[o]) (o:=o') (c:=t)
 rw[Α,θ] at this
 exact this
theorem hp1:(Hx H<|o::o'::t).put (H.c.length+1) o2=Hx H (o::o2::t):=by
 have:=congrArg (λx=>(⟨H.ok,x⟩:Hp))<|ia (a:=H.c++[o]) (o:=o') (c:=t) (o':=o2)
 rw[Α,Α,θ] at this
 exact this
theorem xu(h:H.c[j]? =some o):(Hx H t).c[j]? =some o:=(Ϥ (Δ.mp h).1).trans h
theorem jd(h:H.c[j]? =some o):H.get j=o:=congrArg (·.getD .dead) h
theorem rW:(dL N dep M).length=N:=ς _|>.trans ϲ
theorem IZ(h:g<N):(dL N dep M)[g]? =some (.int (if g∈M then dep g else -1)):=by unfold dL;rw[ϒ,jR h];rfl
theorem K7{M':List Nat}(h: ∀i,i∈M↔i∈M'):dL N dep M=dL N dep M':=
 congrArg (λf=>(ϗ N).map f) (funext λi=>congrArg D.int<|CL<|h i)
theorem K8(h:g<N):(dL N dep M).set g (.int<|dep g)=dL N dep (M++[g]):=by
 unfold dL
 refine List.ext_getElem? λi=>?_
 rw[A2,ϒ,ϒ,ς,ϲ]
 by_cases e:g=i
 ·subst e
  rw[if_pos rfl,if_pos h,jR h,A8,if_pos<|cJ.mpr<|.inr rfl]
 ·rw[if_neg e]
  induction hi:(ϗ N)[i]? with
  |none=>rfl
  |some j=>
   have:i=j:=(List.getElem_range _).symm.trans (Δ.mp hi).2
   exact congrArg (λx=>some<|D.int x)<|CL (cJ.trans<|or_iff_left λh=>e<|h.symm.trans this.symm).symm
theorem S6{l:List D}{x:D}(h:H.get j= .list l)(hi:i<l.length):bF u H (.obj j) (.int i) (.d x)=some (H.put j<|.list<|l.set i x):=
 (ϥ _).trans ((congrArg (Fc H j (.int i)<|.d x) h).trans<|if_pos ⟨Ϧ _,iQ.mpr hi⟩)
theorem PS{l:List D}(h:H.get j= .list l):builtin 0 (.obj j) H K=K (.int l.length) H:=ng h
theorem hs0:(Hs H N dep S W).get H.c.length= .list (dL N dep<|S++W):=LJ
theorem hs1:(Hs H N dep S W).get (H.c.length+1)= .list (Fd W):=OB
theorem sy(h:H.c[j]? =some o):(Hs H N dep S W).c[j]? =some o:=xu h
theorem sr:(Hs H N dep S W).c.length=H.c.length+2:=θ
theorem LI{S' W':List Nat}:(Hs H N dep S W).cut (Hs H N dep S' W').c.length=Hs H N dep S W:=by
 rw[sr,<-sr (N:=N) (dep:=dep) (S:=S) (W:=W),cutH]
theorem lI:Fd (W++[i])=Fd W++[.int i]:=Ξ
theorem LH(h:g<N)(b:W.length<big):(∀{K:KV R},runC u (Hx H [.list<|dL N dep<|S++(W++[g]),.list<|Fd W]) (H.c.length+1) 1 [.int g] K=K .none (Hs H N dep S<|W++[g]))/\bF u (Hs H N dep S W) (.obj H.c.length) (.int g) (.int<|dep g)=some (Hx H [.list<|dL N dep<|S++(W++[g]),.list<|Fd W]):=by
 refine⟨λ{K}=>?_,(S6 hs0<|rW▸h).trans<|congrArg some<|hp0.trans (by rw[K8 h,Α])⟩
 rw[gp OB,bJ (by unfold Fd;rw[ς];exact b),hp1,<-lI];rfl
theorem yw{d:Int}(w:Ms N S W)(hg:g<N)(hd:dep g=d)(h0:0<=d):un (Β Μ (n+1) false 77 [.obj H.c.length,.obj<|H.c.length+1,.int g,.int d]<|Hs H N dep S W) K=K .none (Hs H N dep S<|ent S W g):=by
 subst hd
 refine go rfl rfl ?_
 have z0:decide ((g:Int)<0)=false:=decide_eq_false<|Ϭ.mpr<|Ϧ _
 have z1:decide ((dL N dep<|S++W).length<=g)=false:=decide_eq_false<|rW▸(Ux.mpr hg)
 have ix {K:KV (V×Hp)}:gE (dL N dep<|S++W) g K (Hs H N dep S W)=K (.int (if g∈S++W then dep g else -1)) (Hs H N dep S W):=l_ (by rw[cP,IZ hg])
 unfold ent
 by_cases m:g∈S++W
 ·rw[if_pos m] at ix⊢
  simp[PS hs0,z0,z1,hs0,ix,Ϭ.mpr h0]
 ·rw[if_neg m] at ix⊢
  have a:=LH (R:=V×Hp) (u:=false) (H:=H) (dep:=dep) (S:=S) hg<|Τ (η (ϣ _ _) w.len) w.3
  simp[PS hs0,z0,z1,hs0,ix,a.2,fZ OB,a.1]
  rw[sr,<-sr (N:=N) (dep:=dep) (S:=S) (W:=W++[g]),cutH]
end
noncomputable def Cl.dep(c:Cl):Int:=if c.sort==0||c.sort==1 then 1 else 0
noncomputable def vM(c:SC)(x:Cl):Prop:=x.t0<c.length/\x.h0<c.length/\(x.sort=1->x.ex<c.length)/\∀e∈x.oB,0<=e/\e<=(c.length:Int)
inductive Oc(c:SC)(cls:List Cl)(roots:List Nat)(dep:Nat->Int)(gv:Int):Prop
 |mk (pos:0<c.length) (sz:c.length<big) (kn: ∀x∈c,(x.1∈dI/\vU x.1 x.2)/\(∀g∈tgt x.1 x.2,0<=g/\g<(c.length:Int))/\(tgt x.1 x.2).length<=100) (nn: ∀i,0<=dep i) (oB: ∀cl∈cls,vM c cl) (d0:dep 0=0/\0∈roots) (root: ∀cl∈cls,(∃h:Nat,cl.h0=h/\h∈roots/\dep h=cl.dep)/\(cl.sort=1->∃h:Nat,cl.ex=h/\h∈roots/\dep h=1)) (vg: ∀r∈roots,r<c.length/\(r=0∨∃cl∈cls,(r:Int)=cl.h0∨(cl.sort=1/\(r:Int)=cl.ex))) (step: ∀(i:Nat)(x:Int×Od),c[i]? =some x->eS c roots i->(pp gv x.1).1<=dep i/\∀g:Nat,(g:Int)∈cV c i x->dep g=eF gv x.1 (dep i))
section
variable{R:Type}{K:KV R}{k0:KS R}{u:Bool}{n j i g tl:Nat}{Μ:List Int}{H H':Hp}{env:Env}{X:Cx}{c:SC}{cls:List Cl}{roots S W T:List Nat}{gv:Int}{dep:Nat->Int}{most:Int}{a b d:Option V}{cl:Cl}
theorem W5{l:List D}{z:KI R}(h:H.get j= .list l):C4 z (.obj j) H=z (Ϫ 0 l.length) none H:=
 congrArg (λo=>match E8 (pP false) o with|some (_,l)=>z (Ϫ 0 l.length) none H|none=>none) h
@[simp high] theorem ixC0{c:Cl}:ϩ H (.d c.dv) (.int 0)=some (.int c.sort):=rfl
@[simp high] theorem ixC1{c:Cl}:ϩ H (.d c.dv) (.int 1)=some (.int c.t0):=rfl
@[simp high] theorem ixC3{c:Cl}:ϩ H (.d c.dv) (.int 3)=some (.int c.h0):=rfl
@[simp high] theorem ixC5{c:Cl}:ϩ H (.d c.dv) (.int 5)=some (.int c.ex):=rfl
theorem iC:(f_ c).length=c.length:=ς _
noncomputable abbrev KW(c:SC)(w:Option V×Option V×Option V):Env:=[some<|.lst<|f_ c,some<|.obj 46,some<|.int (f_ c).length,w.1,w.2.1,w.2.2]
noncomputable abbrev VE:E:=k (n5<|O 0<|k (P.C 2 (L 5)<|I 0)<|k (P.C 4 (L 5)<|L 2)<|k (O 1<|k (P.C 4 (L 5)<|I 0)<|k (P.C 5 (Fn 19<|k (P.X (P.X (L 0)<|B 2 (L 5)<|I 1)<|I 0) z)<|I 0) z) z) z
theorem Am{e:Int}{w:Option V×Option V×Option V}(hk: ∀x∈c,x.1∈dI)(h0:0<=e)(h1:e<=(c.length:Int)):wX ⟨Μ,Β Μ (n+1) false,false⟩ VE (KW c (w.1,w.2.1,some<|.int e)) H k0=k0 .next (KW c (w.1,w.2.1,some<|.int e)) H:=by
 have z1:decide (((f_ c).length:Int)<e)=false:=decide_eq_false<|iC▸(Ϭ.mpr h1)
 by_cases hp:0<e
 ·refine(aS<|Int.sub_nonneg_of_le<|show(1:Int)<=e from hp).elim λm hm=>?_
  have hx:c[m]? =some c[m]:=ϊ (by omega)
  have kk:=(kn<|hk _<|g4 (Δ.mp hx).1).2.2.2
  simp[Ϭ.mpr h0,z1,hp,hm,code_at hx,BZ kk.1 kk.2.1]
 ·simp[Ϭ.mpr h0,z1,hp]
theorem qo(hl:H.c[46]? =some (.list<|cls.map Cl.dv))(hk: ∀x∈c,x.1∈dI)(he: ∀x∈cls,vM c x):un (Β Μ (n+2) false 75 [.lst<|f_ c,.obj 46] H) K=K .none H:=by
 refine go rfl rfl ?_
 simp[W5<|jd hl]
 refine yJ (en:=KW c) (λx mx w=>?_) (λw=>by simp) (none,none,none)
 obtain⟨p,hp,rfl⟩:=mV mx
 have h:=he _<|g4 hp
 have hx:=ϊ hp
 revert h hx
 generalize cls[p]=x
 intro h hx
 have ix {K:KV (Fl×Env×Hp)}:gE (cls.map Cl.dv) p K H=K (.d x.dv) H:=l_ (by rw[cP,ϒ,hx];rfl)
 have w1:decide (((f_ c).length:Int)<=x.t0)=false:=decide_eq_false (by rw[iC];exact cy.mpr h.1)
 have w2:decide (((f_ c).length:Int)<=x.h0)=false:=decide_eq_false (by rw[iC];exact cy.mpr h.2.1)
 have e4 (d:Option V): ∃w',lq (L 5) (wX ⟨Μ,Β Μ (n+1) false,false⟩ VE) (KW c (some<|.int p,some<|.d x.dv,d)) (pX (wX ⟨Μ,Β Μ (n+1) false,false⟩ z) rt) (x.oB.map .int) none H=some (.next,KW c w',H):=
  (gy (st:=none) (t:=L 5) (body:=wX ⟨Μ,Β Μ (n+1) false,false⟩ VE) (k0:=pX (wX ⟨Μ,Β Μ (n+1) false,false⟩ z) rt) (en:=λd=>KW c (some<|.int p,some<|.d x.dv,d)) (hp:=λ_=>H) (f:=D.int) (λl _=>∀y∈l,0<=y/\y<=(c.length:Int)) (λ_ _ _ _=>rfl) (λe l s h=>⟨.next,some<|.int e,λy m=>h y<|.tail _ m,.inl rfl,Am (w:=(some<|.int p,some<|.d x.dv,s)) hk (h e<|.head _).1 (h e<|.head _).2⟩) x.oB d h.2.2.2).casesOn λs _ e=>⟨(some<|.int p,some<|.d x.dv,s),e⟩
 refine(e4 w.2.2).imp λw' e=>?_
 show wX _ _ (KW c (some<|.int p,w.2.1,w.2.2)) H rt=_
 by_cases h1:x.sort=1
 ·have w3:decide (((f_ c).length:Int)<=x.ex)=false:=decide_eq_false (by rw[iC];exact cy.mpr<|h.2.2.1 h1)
  simp[jd hl,ix,w1,w2,w3,beq_iff_eq.mpr h1,yv]
  exact e
 ·simp[jd hl,ix,w1,w2,beq_eq_false_iff_ne.mpr h1,yv]
  exact e
variable{N:Nat}{m:Int}
noncomputable abbrev S0(c:SC)(H:Hp)(s:Option V×Option V×List Nat):Env:=[some<|.lst<|f_ c,some<|.obj 46,some<|.obj H.c.length,some<|.obj<|H.c.length+1,s.1,s.2.1]
inductive E4(N:Nat)(roots:List Nat)(cls l:List Cl)(W:List Nat):Prop
 |mk (ms:Ms N [] W) (rt: ∀g∈W,g∈roots) (z:0∈W) (cv: ∀y∈cls,y∈l∨((∀h:Nat,y.h0=h->h∈W)/\(y.sort=1->∀h:Nat,y.ex=h->h∈W))) (sb: ∀y∈l,y∈cls)
theorem E4.ent{l:List Cl}(w:E4 N roots cls l W)(h:g∈roots)(lt:g<N):E4 N roots cls l (ent [] W g):=
 ⟨w.1.ent lt,λx hx=>(Cp hx).elim (w.2 x) λe=>e▸h,l8 w.3,λy my=>(w.4 y my).imp_right λq=>⟨λh e=>l8<|q.1 h e,λe h e'=>l8<|q.2 e h e'⟩,w.5⟩
theorem E4.tail{l:List Cl}(w:E4 N roots cls (cl::l) W)(h: ∀h:Nat,cl.h0=h->h∈W)(x:cl.sort=1->∀h:Nat,cl.ex=h->h∈W):E4 N roots cls l W:=
 ⟨w.1,w.2,w.3,λy my=>(w.4 y my).elim (λm=>(Θ.mp m).elim (λe=>.inr<|e▸⟨h,x⟩) .inl) .inr,λy m=>w.5 y<|.tail _ m⟩
theorem DX{body:E}:wX X (k (asg (L 5)<|I 0)<|k (ifs (O 0<|k (P.C 0 (P.X (L 4)<|I 0)<|P.G 39 0)<|k (P.C 0 (P.X (L 4)<|I 0)<|P.G 37 1) z) (k (asg (L 5)<|I 1) z) z) body) (S0 c H (some<|.d cl.dv,b,W)) H' k0=wX X body (S0 c H (some<|.d cl.dv,some<|.int cl.dep,W)) H' k0:=by
 unfold Cl.dep
 cases h0:cl.sort==0
 ·cases h1:cl.sort==1<;>simp[h0,h1]
 ·simp[h0]
noncomputable abbrev YR:E:=k (asg (L 5)<|I 0)<|k (ifs (O 0<|k (P.C 0 (P.X (L 4)<|I 0)<|P.G 39 0)<|k (P.C 0 (P.X (L 4)<|I 0)<|P.G 37 1) z) (k (asg (L 5)<|I 1) z) z)<|k (ex<|Fn 77<|k (L 2)<|k (L 3)<|k (P.X (L 4)<|I 3)<|k (L 5) z)<|k (ifs (P.C 0 (P.X (L 4)<|I 0)<|P.G 37 1) (k (ex<|Fn 77<|k (L 2)<|k (L 3)<|k (P.X (L 4)<|I 5)<|k (I 1) z) z) z) z
theorem HA{l:List Cl}(D:Oc c cls roots dep gv)(w:E4 c.length roots cls (cl::l) W):FH (S0 c H) (λs=>Hs H c.length dep [] s.2.2) (λs=>E4 c.length roots cls l s.2.2) (wX ⟨Μ,Β Μ (n+1) false,false⟩ YR (S0 c H (some<|.d cl.dv,b,W)) (Hs H c.length dep [] W) rt):=by
 obtain⟨⟨h,eh,mh,dh⟩,hx⟩:=D.7 cl<|w.5 cl<|.head _
 have w1:=w.ent mh (D.8 h mh).1
 have c1 {K:KV (Fl×Env×Hp)}:=yw (K:=K) (Μ:=Μ) (n:=n) (H:=H) w.1 (D.8 h mh).1 dh<|dh▸D.4 h
 have i1:h∈ent [] W h:=xg (S:=[])
 revert w1 c1 i1
 generalize ent [] W h=W1
 intro w1 c1 i1
 have h1: ∀k:Nat,cl.h0=k->k∈W1:=λk e=>aO.mp (eh.symm.trans e)▸i1
 by_cases s1:cl.sort=1
 ·refine(hx s1).elim λx q_=>q_.elim λex q_=>q_.elim λmx dx=>?_
  have c2 {K:KV (Fl×Env×Hp)}:=yw (K:=K) (Μ:=Μ) (n:=n) (H:=H) w1.1 (D.8 x mx).1 dx (by decide)
  refine⟨.next,(some<|.d cl.dv,some<|.int cl.dep,ent [] W1 x),(w1.ent mx (D.8 x mx).1).tail (λk e=>l8<|h1 k e) λ_ k e=>aO.mp (ex.symm.trans e)▸(xg (S:=[]):x∈ent [] W1 x),.inl rfl,DX.trans ?_⟩
  simp[eh,ex,c1,c2,beq_iff_eq.mpr s1]
 ·refine⟨.next,(some<|.d cl.dv,some<|.int cl.dep,W1),w1.tail h1 λe=>absurd e s1,.inl rfl,DX.trans ?_⟩
  simp[eh,c1,beq_eq_false_iff_ne.mpr s1]
theorem oz(hl:H.c[46]? =some (.list<|cls.map Cl.dv))(D:Oc c cls roots dep gv): ∃W,(WI c roots gv dep 0 [] W/\Ms c.length [] W)/\∀{R:Type}{K:KV R},un (Β Μ (n+2) false 78 [.lst<|f_ c,.obj 46,.obj H.c.length,.obj<|H.c.length+1]<|Hs H c.length dep [] []) K=K .none (Hs H c.length dep [] W):=by
 have m0:Ms c.length [] []:=⟨dQ,(λ_ m=>ay m),D.2⟩
 have e0 {K:KV (V×Hp)}:un (Β Μ (n+1) false 77 [.obj H.c.length,.obj<|H.c.length+1,.int 0,.int 0]<|Hs H c.length dep [] []) K=K .none (Hs H c.length dep [] [0]):=yw m0 D.1 D.6.1 (by decide)
 refine(gy (st:=some (46,.list<|cls.map Cl.dv)) (t:=L 4) (body:=wX ⟨Μ,Β Μ (n+1) false,false⟩ YR) (k0:=pX (wX ⟨Μ,Β Μ (n+1) false,false⟩ z)<|dS false (Hs H c.length dep [] []).c.length) (en:=S0 c H) (hp:=λs=>Hs H c.length dep [] s.2.2) (f:=λcl:Cl=>cl.dv) (λl s=>E4 c.length roots cls l s.2.2) (λl s h x=>if_pos<|sy hl) (λcl l s w=>HA D w) cls (none,none,[0]) (⟨m0.ent D.1,λg m=>υ.mp m▸D.6.2,.head _,λy m=>.inl m,λy m=>m⟩:E4 c.length roots cls cls [0])).casesOn λs w e=>⟨s.2.2,⟨⟨λi m=>D.8 i (w.2 i m)|>.imp_right λ_=>.root<|w.2 i m,(λi m=>ay m),λr m=>?_,ϛ _,.z rfl⟩,w.1⟩,λ{R K}=>go rfl rfl ?_⟩
 ·refine(D.8 r m).2.elim (λe=>e▸w.3) λ⟨y,my,h⟩=>?_
  have q:=(w.4 y my).resolve_left<|λm=>ay m
  exact h.elim (λh=>q.1 r h.symm) λh=>q.2 h.1 r h.2.symm
 ·simp[iC,D.1,e0,LZ<|jd<|sy hl]
  refine e.trans ?_
  simp[LI]
end
structure MS where
 m:Int
 a:Option V
 b:Option V
 d:Option V
 S:List Nat
 W:List Nat
noncomputable abbrev Dr(c:SC)(tl:Nat)(H:Hp)(s:MS):Env:=[some<|.lst<|f_ c,some<|.obj 46,some<|.ins 1 tl,some<|.obj H.c.length,some<|.obj<|H.c.length+1,some<|.int s.m,s.a,s.b,s.d]
noncomputable abbrev WM(H:Hp)(N:Nat)(dep:Nat->Int)(s:MS):Hp:=Hs H N dep s.S s.W
inductive MI(c:SC)(roots:List Nat)(gv:Int)(dep:Nat->Int)(s:MS):Prop
 |mk (wi:WI c roots gv dep s.m s.S s.W) (ms:Ms c.length s.S s.W)
inductive UC(N:Nat)(ss:List Int)(S T:List Nat)(l:List Int)(W:List Nat):Prop
 |mk (ms:Ms N S W) (up: ∀g∈T,g∈W) (dn: ∀g∈W,g∈T∨(g:Int)∈ss) (cv: ∀g:Nat,(g:Int)∈ss->(g:Int)∈l∨g∈S++W) (sb: ∀g∈l,g∈ss)
section
variable{R:Type}{K:KV R}{k0:KS R}{u:Bool}{n j i g tl N:Nat}{Μ:List Int}{H H':Hp}{env:Env}{X:Cx}{c:SC}{cls:List Cl}{roots S W T:List Nat}{gv:Int}{dep:Nat->Int}{most m:Int}{a b d:Option V}{s:MS}{ss:List Int}{o:Int×Od}
theorem UC.ent{l:List Int}(w:UC N ss S T ((g:Int)::l) W)(h:g<N):UC N ss S T l (ent S W g):=
 ⟨w.1.ent h,λx hx=>l8<|w.2 x hx,λx hx=>(Cp hx).elim (w.3 x) λe=>.inr<|e▸w.5 _ (.head _),λx hx=>(w.4 x hx).elim (λm=>(Θ.mp m).elim (λe=>.inr<|aO.mp e▸xg) .inl) λm=>.inr<|Ζ.mpr<|(Ζ.mp m).imp_right l8,λx hx=>w.5 x<|.tail _ hx⟩
noncomputable def mx(m x:Int):Int:=if m<x then x else m
theorem RY{m x:Int}:(m<=mx m x/\x<=mx m x)/\(mx m x=m∨mx m x=x):=by
 unfold mx
 split
 ·exact⟨⟨cQ ‹_›,ϛ _⟩,.inr rfl⟩
 ·exact⟨⟨ϛ _,Ϭ.mp ‹_›⟩,.inl rfl⟩
theorem Jm{e:E}{x:Int}{H0:Hp}(he: ∀{K:KV R},wE X e (Dr c tl H s) H0 K=K (.int x) H0):wX X (ifs (P.C 4 e<|L 5) (k (asg (L 5) e) z) z) (Dr c tl H s) H0 k0=k0 .next (Dr c tl H ⟨mx s.m x,s.a,s.b,s.d,s.S,s.W⟩) H0:=by
 by_cases h:s.m<x<;>simp[mx,he,h]
theorem Mk:runC u (Hs H N dep S<|W++[i]) (H.c.length+1) 67 [] K=K (.int i) (Hs H N dep (S++[i]) W):=by
 rw[lC (hs1.trans (lI▸rfl):(Hs H N dep S<|W++[i]).get (H.c.length+1)= .list (Fd W++[.int i]))]
 refine congrArg (K _)<|hp1.trans ?_
 unfold Hs
 rw[K7 (M':=S++[i]++W) λx=>by rw[Ζ,cJ,Ζ,cJ,or_assoc,or_comm (a:=x∈W)]]
theorem RV{x d0:Int}{a b d:Option V}{body:E}{H1 H2:Hp}{l:List D}(hr:resolve H1 67 (.obj<|H.c.length+1)=some (.cell<|H.c.length+1))(hp: ∀{K:KV R},runC X.k H1 (H.c.length+1) 67 [] K=K (.int i) H2)(h0:H2.get H.c.length= .list l)(h1:at? l i=some (.int d0))(ha: ∀{K:KV R},un (X.C 79 [.lst<|f_ c,.int i,.int d0,.ins 1 tl] H2) K=K (.int x) H2):
 wX X (k (asg (L 6)<|M 67 (L 4) z)<|k (asg (L 7)<|Fn 79<|k (L 0)<|k (L 6)<|k (P.X (L 3)<|L 6)<|k (L 2) z)<|k (ifs (P.C 4 (P.X (L 3)<|L 6)<|L 5) (k (asg (L 5)<|P.X (L 3)<|L 6) z) z)<|k (ifs (P.C 4 (L 7)<|L 5) (k (asg (L 5)<|L 7) z) z) body) (Dr c tl H ⟨m,a,b,d,S,W⟩) H1 k0=wX X body (Dr c tl H ⟨mx (mx m d0) x,some<|.int i,some<|.int x,d,S,W⟩) H2 k0:=by
 have ix {K:KV R}:gE l i K H2=K (.int d0) H2:=l_ h1
 refine dg (b:=wX X (k (ifs (P.C 4 (P.X (L 3)<|L 6)<|L 5) (k (asg (L 5)<|P.X (L 3)<|L 6) z) z)<|k (ifs (P.C 4 (L 7)<|L 5) (k (asg (L 5)<|L 7) z) z) body) (Dr c tl H ⟨m,some<|.int i,some<|.int x,d,S,W⟩) H2 k0) (by simp[hr,hp,h0,ix,ha]) ?_
 refine x_1.trans<|(Jm (x:=d0) λ{K}=>by simp[h0,ix]).trans<|sq_.trans ?_
 exact x_1.trans<|(Jm λ{K}=>rfl).trans sq_
noncomputable abbrev Zp:E:=k (asg (L 6)<|M 67 (L 4) z)<|k (asg (L 7)<|Fn 79<|k (L 0)<|k (L 6)<|k (P.X (L 3)<|L 6)<|k (L 2) z)<|k (ifs (P.C 4 (P.X (L 3)<|L 6)<|L 5) (k (asg (L 5)<|P.X (L 3)<|L 6) z) z)<|k (ifs (P.C 4 (L 7)<|L 5) (k (asg (L 5)<|L 7) z) z)<|k (P.fr (L 8) (It<|Fn 76<|k (L 0)<|k (L 6) z)<|k (ex<|Fn 77<|k (L 3)<|k (L 4)<|k (L 8)<|k (L 7) z) z) z
inductive MP(H:Hp)(cls:List Cl)(tl:Nat)(gv:Int):Prop
 |mk (cl:H.c[46]? =some (.list<|cls.map Cl.dv)) (tl: ∃es,H.c[tl]? =some (.at es)/\look 9 es=some (.int gv)/\look 11 es=none)
theorem MP.t1(p:MP H cls tl gv):ϸ (Hs H N dep S W) 9 (.ins 1 tl)=some (.int gv):=p.2.elim λes h=>(congrArg (Oq 9)<|jd<|sy h.1).trans h.2.1
theorem MP.t2(p:MP H cls tl gv):resolve (Hs H N dep S W) 11 (.ins 1 tl)=some (.fn 14<|.ins 1 tl):=p.2.elim λes h=>(congrArg (UU 14 1 tl 11)<|jd<|sy h.1).trans<|congrArg (W7 14 1 tl 11) h.2.2
theorem Dl(D:Oc c cls roots dep gv)(p:MP H cls tl gv)(w:MI c roots gv dep ⟨m,a,b,d,S,W++[i]⟩):FH (Dr c tl H) (WM H c.length dep) (λs=>MI c roots gv dep s/\c.length-s.S.length<c.length-S.length) (wX ⟨Μ,Β Μ (n+3) false,false⟩ Zp (Dr c tl H ⟨m,a,b,d,S,W++[i]⟩) (Hs H c.length dep S<|W++[i]) rt):=by
 refine(w.1.1 i<|Ε _<|Ε _<|.head _).elim λhi hr=>?_
 obtain⟨o,ho⟩: ∃o,c[i]? =some o:=⟨_,ϊ hi⟩
 obtain⟨⟨k1,k2⟩,k3,k4⟩:=D.3 o<|Υ ho
 have st:=D.9 i o ho hr
 have lt: ∀g:Nat,(g:Int)∈cV c i o->g<c.length:=λg h=>(fP.mp h).elim (λh=>aO.mp h.2.2▸h.2.1) λh=>iQ.mp (k3 _ h).2
 have nn: ∀g∈cV c i o,∃k:Nat,g=k:=λg h=>(fP.mp h).elim (λh=>⟨i+1,h.2.2⟩) λh=>aS (k3 _ h).1
 have ms2:Ms c.length (S++[i]) W:=by
  have e:(S++[i]++W).Perm (S++(W++[i])):=by rw[Α];exact X4 S List.perm_append_comm
  exact⟨e.nodup_iff.mpr w.2.1,λg hg=>w.2.2 g<|e.mem_iff.mp hg,w.2.3⟩
 have a1:=RY (m:=m) (x:=dep i)
 have b1:=RY (m:=mx m<|dep i) (x:=eF gv o.1<|dep i)
 have e0:=RV (X:=⟨Μ,Β Μ (n+3) false,false⟩) (k0:=rt) (S:=S) (W:=W++[i]) (m:=m) (a:=a) (b:=b) (d:=d) (body:=k (P.fr (L 8) (It<|Fn 76<|k (L 0)<|k (L 6) z)<|k (ex<|Fn 77<|k (L 3)<|k (L 4)<|k (L 8)<|k (L 7) z) z) z) (x:=eF gv o.1<|dep i) (H1:=Hs H c.length dep S<|W++[i]) (H2:=Hs H c.length dep (S++[i]) W) (mW<|hs1.trans (by rw[lI])) Mk hs0 (by rw[cP,IZ hi,if_pos<|Κ _<|Ε _<|.head _])<|qq ho k1 p.t1 p.t2 st.1
 revert e0 b1
 generalize mx (mx m<|dep i) (eF gv o.1<|dep i)=m2
 intro b1 e0
 refine(gy (st:=none) (t:=L 8) (body:=wX ⟨Μ,Β Μ (n+3) false,false⟩<|k (ex<|Fn 77<|k (L 3)<|k (L 4)<|k (L 8)<|k (L 7) z) z) (k0:=pX (wX ⟨Μ,Β Μ (n+3) false,false⟩ z) rt) (en:=λs:Option V×List Nat=>Dr c tl H ⟨m2,some<|.int i,some<|.int<|eF gv o.1<|dep i,s.1,S++[i],s.2⟩) (hp:=λs=>Hs H c.length dep (S++[i]) s.2) (f:=Internal.D.int) (λl s=>UC c.length (cV c i o) (S++[i]) W l s.2) (λ_ _ _ _=>rfl) (λg l s q=>?_) (cV c i o) (d,W) ⟨ms2,λ_ h=>h,λ_ h=>.inl h,λ_ h=>.inl h,λ_ h=>h⟩).casesOn λs q e=>⟨.next,⟨m2,some<|.int i,some<|.int<|eF gv o.1<|dep i,s.1,S++[i],s.2⟩,⟨⟨w.1.step ho lt q.3 q.2 (λg h=>(q.4 g h).resolve_left λm=>ay m) (Ϯ a1.1.1 b1.1.1) (Ϯ a1.1.2 b1.1.1) b1.1.2<|b1.2.elim (λe=>a1.2.imp e.trans λh=>.inl<|e.trans h) λe=>.inr<|.inr e,q.1⟩,?_⟩,.inl rfl,e0.trans ?_⟩
 ·refine(nn g<|q.5 g<|.head _).elim λg e_1=>?_
  subst e_1
  have gs:=q.5 g<|.head _
  refine⟨.next,(some<|.int g,ent (S++[i]) s.2 g),q.ent<|lt g gs,.inl rfl,?_⟩
  refine bT.trans ?_
  have ce {K:KV (Fl×Env×Hp)}:=yw (K:=K) (Μ:=Μ) (n:=n+2) (H:=H) q.1 (lt g gs) (st.2 g gs)<|st.2 g gs▸D.4 g
  simp[ce]
 ·have:=ms2.len
  show c.length-(S++[i]).length<c.length-S.length
  rw[θ] at this⊢
  exact Nat.sub_lt_sub_left (bw (ϝ _)<|η (Ρ _ _) this)<|ϝ _
 ·simp[rR ho k1 k2 k3 k4]
  exact e
theorem uE(D:Oc c cls roots dep gv)(p:MP H cls tl gv)(im:fS c roots gv dep m):un (Β Μ (n+4) false 80 [.lst<|f_ c,.obj 46,.ins 1 tl] H) K=K (.int m) H:=by
 refine go rfl rfl ?_
 have rp:Ω ((f_ c).length:Int).toNat (Internal.D.int<|-1)=dL c.length dep []:=by
  rw[iC,ϡ]
  refine(List.eq_replicate_iff.mpr ⟨rW,λb hb=>?_⟩).symm
  obtain⟨j,_,rfl⟩:=Ϗ.mp hb
  rw[if_neg ϑ]
 obtain⟨W0,w0,e0⟩:=oz p.1 D
 simp[qo p.1 (λx m=>(D.3 x m).1.1) D.5]
 rw[show∀{x:Internal.D}{m:Int}{K:KV (V×Hp)}{H:Hp},bA 3 (.lst [x]) K (.int m) H=newL 1 (H.ϴ<|0<=m/\m<=big) (Ω m.toNat x) K from rfl,show∀{l:List Internal.D}{K:KV (V×Hp)}{H:Hp},newL 1 H l K=K (.obj H.c.length) ((H.ϴ<|l.length<=big).new<|.list l) from rfl,bJ<|⟨Ϧ _,by rw[iC];exact vz.mpr<|aV D.2⟩,rp,bJ (by rw[rW];exact aV D.2)]
 dsimp
 rw[show(H.new<|.list<|dL c.length dep []).c.length=H.c.length+1 from θ,show(H.new<|.list<|dL c.length dep []).new (.list [])=Hs H c.length dep [] [] from congrArg (Hp.mk H.ok) (Α ..),e0]
 dsimp
 refine(J2 (en:=Dr c tl H) (hp:=WM H c.length dep) (MI c roots gv dep) (λs=>s.m=m) (λs=>c.length-s.S.length) (λs w=>?_) ⟨0,none,none,none,[],W0⟩ ⟨w0.1,w0.2⟩).casesOn λs q e=>e.trans (by simp[WM,Hs,xr,show s.m=m from q])
 obtain⟨m',a,b,d,S,W⟩:=s
 have t1:wE ⟨Μ,Β Μ (n+3) false,false⟩ (P.C 4 (Bu 0<|L 4)<|I 0) (Dr c tl H ⟨m',a,b,d,S,W⟩) (Hs H c.length dep S W) pr=some (.bool<|decide<|0<(Fd W).length,Hs H c.length dep S W):=by
  simp[PS hs1]
 rcases iY W with rfl|⟨W',i,rfl⟩
 ·exact .dn t1<|w.1.JG.eq im
 ·rw[iW] at*
  rw[show decide (0<(Fd<|W'++[i]).length)=true by rw[lI];simp] at t1
  exact .go t1<|Dl D p w
abbrev Ent:=Nat×List Slot
noncomputable def dK(l:List Ent):List (Int×V):=l.map λx=>(x.1,.lst<|x.2.map Slot.dv)
noncomputable def kR(x:Ent):D:=.tup [.int x.1,.lst<|x.2.map Slot.dv]
end
noncomputable def Wt(q:Fx)(st:St)(v:WD)(es:List (Int×V))(r:List PO)(S T:List Ent):Hp:=Wk q st v es (dK S) (T.map kR) r
section
variable{q:Fx}{st:St}{v:WD}{es:List (Int×V)}{r:List PO}{R:Type}{K:KV R}{k0:KS R}{u:Bool}{n i j:Nat}{Μ:List Int}{S T:List Ent}{X:Cx}{x:Ent}{s:List Slot}
@[simp high] theorem kRes68:resolve (Wt q st v es r S T) 1 (.obj 68)=some (.cell 68):=rfl
@[simp high] theorem kRes68p:resolve (Wt q st v es r S T) 67 (.obj 68)=some (.cell 68):=rfl
theorem xK(h:T.length<big):runC u (Wt q st v es r S T) 68 1 [.d<|kR x] K=K .none (Wt q st v es r S<|T++[x]):=by
 rw[gp rfl,bJ (by rw[ς];exact h)]
 refine congrArg (K _) ?_
 unfold Wt
 rw[Ξ];rfl
theorem L8:runC u (Wt q st v es r S<|T++[x]) 68 67 [] K=K (.d<|kR x) (Wt q st v es r S T):=by
 have g:(Wt q st v es r S<|T++[x]).get 68= .list (T.map kR++[kR x]):=by
  show PO.list ((T++[x]).map kR)=_
  rw[Ξ];rfl
 rw[lC g];rfl
inductive Seen(i:Nat)(S:List Ent):Prop
 |no:look (i:Int) (dK S)=none->i∉S.map Ϣ->Seen i S
 |yes (s:List Slot):(i,s)∈S->look (i:Int) (dK S)=some (.lst<|s.map Slot.dv)->Seen i S
theorem AG: ∀(S:List Ent),Seen i S:=λS=>by
 induction S with
 |nil=>exact .no rfl ϑ
 |cons a l ih=>
  have e:look (i:Int) (dK<|a::l)=if(a.1:Int)=i then some (.lst<|a.2.map Slot.dv) else look (i:Int) (dK l):=rfl
  by_cases h:a.1=i
  ·exact .yes a.2 (h▸.head _)<|e.trans<|if_pos<|congrArg _ h
  ·rw[if_neg λe=>h<|aO.mp e] at e
   exact ih.casesOn (λh1 h2=>.no (e.trans h1) λm=>(Θ.mp m).elim (λe=>h e.symm) h2) λs m h1=>.yes s (.tail _ m)<|e.trans h1
@[simp high] theorem kIn67{i:Int}:isIn (Wt q st v es r S T) (.int i) (.obj 67)=some (look i<|dK S).isSome:=rfl
@[simp high] theorem kIx67{i:Int}:ϩ (Wt q st v es r S T) (.obj 67) (.int i)=look i (dK S):=rfl
@[simp high] theorem kg67:(Wt q st v es r S T).get 67= .di (dK S):=rfl
theorem L_(h:look (i:Int) (dK S)=none)(hb:S.length<big):bF true (Wt q st v es r S T) (.obj 67) (.int i) (.lst<|s.map Slot.dv)=some (Wt q st v es r (S++[(i,s)]) T):=by
 have:bF true (Wt q st v es r S T) (.obj 67) (.int i) (.lst<|s.map Slot.dv)=some (((Wt q st v es r S T).ϴ<|(dK S).length<big/\look (i:Int) (dK S)=none).put 67<|.di<|dK S++[((i:Int),.lst<|s.map Slot.dv)]):=ϥ _
 rw[this,bJ ⟨by unfold dK;rw[ς];exact hb,h⟩]
 unfold Wt dK
 rw[Ξ];rfl
@[simp high] theorem kg65:(Wt q st v es r S T).get 65= .ds (wD v):=rfl
@[simp high] theorem kg46:(Wt q st v es r S T).get 46= .list (st.clauses.map Cl.dv):=rfl
@[simp high] theorem kc46:ϩ (Wt q st v es r S T) (.obj 65) (.d<|.str 48)=some (.obj 46):=rfl
structure A6 where
 (a4 a5 a6 a7 a8 a9:Option V)
structure B6 where
 (b1 b2 b3 b4 b5 b6:Option V)
noncomputable abbrev nO(a3:Option V)(a:A6)(m:Option V)(b:B6):Env:=[some<|.obj 65,some<|.obj 67,some<|.obj 68,a3,a.a4,a.a5,a.a6,a.a7,a.a8,a.a9,m,b.b1,b.b2,b.b3,b.b4,b.b5,b.b6]
noncomputable abbrev cA(c:Cl):A6:=⟨some<|.int c.sort,some<|.int c.t0,some<|.int c.t1,some<|.int c.h0,some<|.int c.h1,some<|.int c.ex⟩
noncomputable def lD(p:Nat)(c:Cl):List Slot:=if 1<c.sort then [] else [.x p (if c.sort=0 then c.ex else 12)]
noncomputable def vG(p:Nat)(c:Cl):List Ent:=(c.h0.toNat,lD p c)::if c.sort=1 then [(c.ex.toNat,[.x (p+1000) 12])] else []
variable{p h g:Nat}{s':List Slot}{ws:List Way}{m:Int}{mo a3:Option V}{a:A6}{b:B6}{b1 b2 b3 b4 b5 b6:Option V}{H:Hp}{body:E}{c:Cl}
theorem Ib(hc:v.cls=st.clauses)(hp:v.cls[p]? =some c):wX X (k (asg (Tu<|k (L 4)<|k (L 5)<|k (L 6)<|k (L 7)<|k (L 8)<|k (L 9) z)<|P.X (P.X (L 0)<|Z 48)<|L 3) body) (nO (some<|.int p) a mo b) (Wt q st v es r S T) k0=wX X body (nO (some<|.int p) (cA c) mo b) (Wt q st v es r S T) k0:=by
 have e {K:KV R}:gE (st.clauses.map Cl.dv) p K (Wt q st v es r S T)=K (.d c.dv) (Wt q st v es r S T):=rV hc hp
 simp[e,Cl.dv]
theorem Ie(e0:c.h0=(h:Int))(hb:T.length<big):wX X (k (ex<|M 1 (L 2)<|k (Tu<|k (L 7)<|k (If (P.C 4 (L 4)<|I 1) (Li 0 z)<|Li 0<|k (Tu<|k (Z 79)<|k (L 3)<|k (If (P.C 0 (L 4)<|I 0) (L 9)<|I 12) z) z) z) z) body) (nO (some<|.int p) (cA c) mo b) (Wt q st v es r S T) k0=wX X body (nO (some<|.int p) (cA c) mo b) (Wt q st v es r S<|T++[(h,lD p c)]) k0:=by
 have ap {K:KV R}:=xK (u:=X.k) (q:=q) (st:=st) (v:=v) (es:=es) (r:=r) (S:=S) (K:=K) (x:=(h,lD p c)) hb
 unfold kR lD at ap
 unfold lD
 by_cases h1:1<c.sort
 ·rw[if_pos h1] at ap⊢
  simp at ap
  simp[h1,ap,e0]
 ·rw[if_neg h1] at ap⊢
  by_cases h2:c.sort=0
  ·rw[if_pos h2] at ap⊢
   simp[Slot.dv] at ap
   simp[h1,beq_iff_eq.mpr h2,ap,e0]
  ·rw[if_neg h2] at ap⊢
   simp[Slot.dv] at ap
   simp[h1,beq_eq_false_iff_ne.mpr h2,ap,e0]
theorem Ig(e0:c.sort=1->c.ex=(h:Int))(hb:T.length<big):wX X (k (ifs (P.C 0 (L 4)<|I 1) (k (ex<|M 1 (L 2)<|k (Tu<|k (L 9)<|k (Li 0<|k (Tu<|k (Z 79)<|k (B 0 (L 3)<|I 1000)<|k (I 12) z) z) z) z) z) z) body) (nO (some<|.int p) (cA c) mo b) (Wt q st v es r S T) k0=wX X body (nO (some<|.int p) (cA c) mo b) (Wt q st v es r S (T++if c.sort=1 then [(h,[.x (p+1000) 12])] else [])) k0:=by
 by_cases h1:c.sort=1
 ·have ap {K:KV R}:=xK (u:=X.k) (q:=q) (st:=st) (v:=v) (es:=es) (r:=r) (S:=S) (K:=K) (x:=(h,[.x (p+1000) 12])) hb
  unfold kR at ap
  rw[if_pos h1]
  simp[Slot.dv] at ap
  simp[beq_iff_eq.mpr h1,e0 h1,ap]
 ·rw[if_neg h1,Ν]
  simp[beq_eq_false_iff_ne.mpr h1]
noncomputable def LV:Slot->Prop
 | .b=>True
 | .c _=>True
 |_=>False
theorem vo:wX X (k (asg (Tu<|k (L 11)<|k (L 12) z)<|M 67 (L 2) z) body) (nO a3 a mo b) (Wt q st v es r S<|T++[x]) k0=wX X body (nO a3 a mo ⟨some<|.int x.1,some<|.lst<|x.2.map Slot.dv,b.b3,b.b4,b.b5,b.b6⟩) (Wt q st v es r S T) k0:=by
 have p {K:KV R}:runC X.k (Wt q st v es r S<|T++[x]) 68 67 [] K=K (.tup [.int x.1,.lst<|x.2.map Slot.dv]) (Wt q st v es r S T):=L8
 simp[p]
noncomputable abbrev Dn:E:=ifs (P.C 6 (L 11)<|L 1) (k (ifs (O 1<|k (P.C 1 (P.X (L 1)<|L 11)<|L 12)<|k (O 0<|k (P.C 1 (Bu 0<|L 12)<|I 1)<|k (P.C 1 (Bu 0<|P.X (L 1)<|L 11)<|I 1)<|k (P.C 7 (P.X (P.X (L 12)<|I 0)<|I 0)<|Z 90)<|k (P.C 7 (P.X (P.X (P.X (L 1)<|L 11)<|I 0)<|I 0)<|Z 90) z) z) (k (ret<|Ng<|I 1) z) z)<|k cnt z) z
theorem EE(h:look (i:Int) (dK S)=none):wX X (k Dn body) (nO a3 a mo ⟨some<|.int i,b2,b3,b4,b5,b6⟩) (Wt q st v es r S T) k0=wX X body (nO a3 a mo ⟨some<|.int i,b2,b3,b4,b5,b6⟩) (Wt q st v es r S T) k0:=by
 simp[h]
inductive Mt:List Slot->List Slot->Prop
 |eq {s:List Slot}:Mt s s
 |bc {t t':Slot}:LV t->LV t'->Mt [t] [t']
theorem IL{t:Slot}(h:LV t): ∃y,ϩ H (.d t.dv) (.int 0)=some (.d y)/\isIn H (.d y) (.d<|.str 90)=some true:=by
 induction t with
 |b=>exact⟨_,rfl,rfl⟩
 |c n=>exact⟨_,rfl,rfl⟩
 |_=>exact h.elim
theorem EF(h:look (i:Int) (dK S)=some (.lst<|s'.map Slot.dv))(hm:Mt s' s):wX X (k Dn body) (nO a3 a mo ⟨some<|.int i,some<|.lst<|s.map Slot.dv,b3,b4,b5,b6⟩) (Wt q st v es r S T) k0=k0 .cont (nO a3 a mo ⟨some<|.int i,some<|.lst<|s.map Slot.dv,b3,b4,b5,b6⟩) (Wt q st v es r S T):=by
 induction hm with
 |eq=>simp[h,rZ]
 | @bc t t' h1 h2=>
  by_cases he:t=t'
  ·subst he
   have e:=rZ (s:=[t])
   simp at e
   simp[h,e]
  ·have ne:iL (.lst [t.dv]) (.lst [t'.dv])=some false:=by
    rw[yG (x:=.lst [t.dv]) (y:=.lst [t'.dv]) (jj (mE 4) [t]) (jj (mE 4) [t']) rfl]
    classical
    refine congrArg some<|decide_eq_false λe=>he ?_
    injection e with e
    injection e with e
    exact Ld e
   obtain⟨y,y1,y2⟩:=IL (H:=Wt q st v es r S T) h1
   refine(IL (H:=Wt q st v es r S T) h2).elim λy' q_=>q_.elim λz1 z2=>?_
   simp[h,ne,y1,y2,z1,z2]
inductive J'(l:List Int)(m:Int):Prop
 |mk (e:qw (l.map .int)=some m) (at_:m∈l) (ub: ∀x∈l,x<=m)
theorem AH(a:Int)(l:List Int): ∃m,J' (a::l) m:=by
 induction l generalizing a with
 |nil=>exact⟨a,rfl,.head _,λx m=>Og<|υ.mp m⟩
 |cons b l ih=>
  obtain⟨m,e⟩:=ih b
  refine⟨if a<m then m else a,?_,?_,?_⟩
  ·show(qw<|(b::l).map .int).map (λm=>if a<m then m else a)=_
   rw[e.1];rfl
  ·split
   ·exact .tail _ e.2
   ·exact .head _
  ·intro x mx
   refine(Θ.mp mx).elim (λh=>h▸?_) λh=>Ϯ (e.3 x h) ?_
   ·split
    ·exact cQ ‹_›
    ·exact ϛ _
   ·split
    ·exact ϛ _
    ·exact Ϭ.mp ‹_›
noncomputable def Wg:D->D
 | .tup [_,.lst l,_]=>.int l.length
 |_=>.none
noncomputable def De(m:Int)(s:List Slot)(ws:List Way):List Int:=m::s.length::ws.map λw=>w.2.1.length
theorem ED{m':Int}(hw:ws.length<=1000)(hm:J' (De m s ws) m'):wX X (k (asg (L 10)<|Bu 4<|B 0 (Li 0<|k (L 10)<|k (Bu 0<|L 12) z)<|Co 3 1 (Bu 0<|L 18) (It<|L 13) z) body) (nO a3 a (some<|.int m) ⟨b1,some<|.lst<|s.map Slot.dv,some<|.lst<|ws.map nj,b4,b5,b6⟩) H k0=wX X body (nO a3 a (some<|.int m') ⟨b1,some<|.lst<|s.map Slot.dv,some<|.lst<|ws.map nj,b4,b5,b6⟩) H k0:=by
 have cmp {K:KV R} {f:Env->Run (Option D×Hp) (KV<|Option D×Hp)} {env:Env} (h: ∀w∈ws,(ob (rY 3 1 env<|nj w) λe=>wC X z e H<|qt<|f e)=some (some<|.int w.2.1.length,H)):CZ f (wC X z) 3 1 env K (ws.map nj) none H=K (.lst<|ws.map λw=>.int w.2.1.length) H:=by
  refine(C0 (gq:=Wg) (λx mx=>?_) (by rw[ς];exact η hw (by decide))).trans ?_
  ·obtain⟨w,mw,rfl⟩:=Ϗ.mp mx
   rw[h w mw]
   show _=some (some<|D.int<|(w.2.1.map Slot.dv).length,H)
   rw[ς]
  ·refine congrArg (λl=>K (.lst l) H) ?_
   rw[Ϲ]
   refine jU λw _=>?_
   show D.int ((w.2.1.map Slot.dv).length)=_
   rw[ς]
 have e2:qw ([.int m,.int s.length]++ws.map λw=>D.int w.2.1.length)=some m':=by
  have e:=hm.1
  unfold De at e
  rw[aU,aU,Ϲ] at e
  exact e
 have e3 {l:List D} {K:KV R}:builtin 4 (.lst l) H K=ob (qw l) λm=>K (.int m) H:=rfl
 simp
 refine(cmp λw _=>?_).trans ?_
 ·exact dg (b:=some (some<|D.int<|(w.2.1.map Slot.dv).length,H)) rfl (by rw[ς])
 ·rw[BA (by simp;exact η (bM hw 2) (by decide)),bu_,e3,e2]
  simp
end
inductive Wy(v:WD)(gv:Int)(dep:Nat->Int)(Al:Nat->List Slot->Prop)(i:Nat)(o:Int×Od)(w:Way):Prop
 |mk (g:Nat):w.1=(g:Int)->(g:Int)∈cV v.c i o->zp v i g w.2.2->Al g w.2.1->(w.2.1.length:Int)=eF gv o.1 (dep i)->Wy v gv dep Al i o w
inductive U'(v:WD)(gv:Int)(dep:Nat->Int)(Al:Nat->List Slot->Prop)(nt:Nat->Nat->Prop)(i:Nat)(o:Int×Od)(s:List Slot):Prop
 |mk (ws:List Way) (t:Option Slot):Step v i o.1 o.2 s ws t->ws.length<=3->(∀w∈ws,Wy v gv dep Al i o w)->(∀g:Nat,(g:Int)∈cV v.c i o->∃w∈ws,w.1=(g:Int))->(eF gv o.1 (dep i)<=dep i∨ws≠[])->(∀key,nt i key->∃t',t=some t'/\dJ t'=some key)->U' v gv dep Al nt i o s
inductive WW(v:WD)(st:St)(roots:List Nat)(gv:Int)(dep:Nat->Int)(Al:Nat->List Slot->Prop)(nt:Nat->Nat->Prop):Prop
 |mk (cls:v.cls=st.clauses) (loc:v.loc=st.locals) (pos:0<v.c.length) (sz:v.c.length<=200000) (csz:v.cls.length<=400) (jO: ∀(i:Nat)(r:Nat×Nat),r∈v.jO i->r.1<v.cls.length) (psz: ∀i:Nat,(v.jO i).length<=big) (al2: ∀(i:Nat)(s s':List Slot),Al i s->Al i s'->Mt s s') (len: ∀(i:Nat)(s:List Slot),Al i s->s.length<=1000/\(s.length:Int)=dep i) (osz: ∀o∈v.c,o.2.len<=100) (step: ∀(i:Nat)(o:Int×Od)(s:List Slot),v.c[i]? =some o->eS v.c roots i->Al i s->U' v gv dep Al nt i o s) (r0:0∈roots/\Al 0 []) (rh: ∀(p:Nat)(cl:Cl),v.cls[p]? =some cl->(cl.h0=(cl.h0.toNat:Int)/\(cl.sort=1->cl.ex=(cl.ex.toNat:Int)))/\∀x∈vG p cl,x.1∈roots/\Al x.1 x.2) (vg: ∀r∈roots,r<v.c.length/\(r=0∨∃(p:Nat)(cl:Cl),v.cls[p]? =some cl/\r∈(vG p cl).map Ϣ))
structure WS where
 m:Int
 ks:List Nat
 es:List (Int×V)
 r:List PO
 S:List Ent
 T:List Ent
 b:B6
inductive WX(v:WD)(roots:List Nat)(gv:Int)(dep:Nat->Int)(Al:Nat->List Slot->Prop)(nt:Nat->Nat->Prop)(s:WS):Prop
 |mk (wi:WI v.c roots gv dep s.m (s.S.map Ϣ) (s.T.map Ϣ)) (nd:(s.S.map Ϣ).Nodup) (al: ∀x,x∈s.S++s.T->Al x.1 x.2) (nt: ∀i∈s.S.map Ϣ,∀key,nt i key->key∈s.ks) (kp:nT v.kp s.ks s.es s.r) (esz:s.es.length<=s.S.length) (tsz:4*(v.c.length-s.S.length)+s.T.length<=800801)
noncomputable def kj(w:Way):Ent:=(w.1.toNat,w.2.1)
section
variable{q:Fx}{st:St}{v:WD}{es:List (Int×V)}{r:List PO}{R:Type}{K:KV R}{k0:KS R}{u:Bool}{n i j p h g:Nat}{Μ:List Int}{S T:List Ent}{X:Cx}{x:Ent}{s s':List Slot}{ws:List Way}{m:Int}{mo a3:Option V}{a:A6}{b:B6}{b1 b2 b3 b4 b5 b6:Option V}{H:Hp}{body:E}{c:Cl}{roots:List Nat}{gv:Int}{dep:Nat->Int}{Al:Nat->List Slot->Prop}{nt:Nat->Nat->Prop}{ks:List Nat}{o:Int×Od}
noncomputable abbrev PM:E:=k (asg (Tu<|k (L 4)<|k (L 5)<|k (L 6)<|k (L 7)<|k (L 8)<|k (L 9) z)<|P.X (P.X (L 0)<|Z 48)<|L 3)<|k (ex<|M 1 (L 2)<|k (Tu<|k (L 7)<|k (If (P.C 4 (L 4)<|I 1) (Li 0 z)<|Li 0<|k (Tu<|k (Z 79)<|k (L 3)<|k (If (P.C 0 (L 4)<|I 0) (L 9)<|I 12) z) z) z) z)<|k (ifs (P.C 0 (L 4)<|I 1) (k (ex<|M 1 (L 2)<|k (Tu<|k (L 9)<|k (Li 0<|k (Tu<|k (Z 79)<|k (B 0 (L 3)<|I 1000)<|k (I 12) z) z) z) z) z) z) z
noncomputable def l9(cls:List Cl)(p:Nat):List Ent:=(0,[])::(cls.zipIdx.take p).flatMap λx=>vG x.2 x.1
theorem uJ{cls:List Cl}(h:cls[p]? =some c):l9 cls (p+1)=l9 cls p++vG p c:=by
 unfold l9
 rw[dR,vO,h]
 rw[List.flatMap_append,aP]
 exact congrArg (ϕ _) (congrArg (_++ ·)<|Ν _)
theorem Gj:(vG p c).length<=2:=by
 unfold vG
 split
 ·exact ώ 2
 ·exact ϰ 1
theorem yL{cls:List Cl}:(l9 cls p).length<=1+2*p:=by
 induction p with
 |zero=>exact ώ _
 |succ p ih=>
  induction e:cls[p]? with
  |some c=>
   rw[uJ e,θ]
   exact η (cL ih Gj)<|ώ<|1+2*p+2
  |none=>
   have e:l9 cls (p+1)=l9 cls p:=by unfold l9;rw[dR,vO,e];show _::List.flatMap _ (_++[])=_;rw[Ν]
   rw[e]
   exact η ih<|Ρ _ 2
theorem nG{cls:List Cl}{x:Ent}:x∈l9 cls cls.length↔x=(0,[])∨∃(p:Nat)(cl:Cl),cls[p]? =some cl/\x∈vG p cl:=by
 unfold l9
 rw[Θ,show cls.zipIdx.take cls.length=cls.zipIdx by rw[<-List.length_zipIdx,aY],m8]
 refine or_congr_right ⟨λ⟨y,my,h⟩=>⟨y.2,y.1,nU.mp my,h⟩,λ⟨p,cl,e,h⟩=>⟨(cl,p),nU.mpr e,h⟩⟩
noncomputable abbrev Yv(b:B6)(s:(Option V×A6)×Nat):Env:=nO s.1.1 s.1.2 none b
theorem yh(w:WW v st roots gv dep Al nt):Ends (Yv b) (λs=>Wt q st v es r []<|l9 v.cls s.2) (λs=>s.2=v.cls.length) k0 (lq (L 3) (wX X PM) (nO none ⟨none,none,none,none,none,none⟩ none b) k0 (Ϫ 0 v.cls.length) none<|Wt q st v es r [] [(0,[])]):=by
 rw[aa]
 refine(gy (en:=Yv b) (hp:=λs=>Wt q st v es r []<|l9 v.cls s.2) (λl s=>∃m,l=nv s.2 m/\s.2+m=v.cls.length) (λ_ _ _ _=>rfl) (λp l s h=>?_) (ϗ v.cls.length) ((none,⟨none,none,none,none,none,none⟩),0) ⟨_,jF,aP _⟩).casesOn λs h e=>⟨s,?_,e⟩
 ·obtain⟨m,e,hm⟩:=h
  cases m with
  |zero=>exact nomatch e
  |succ m=>
   rw[g8] at e
   obtain⟨rfl,rfl⟩:=bC e
   have lt:=hm▸dB (cT _)
   have hc:=ϊ lt
   revert hc
   generalize v.cls[s.2]=c
   intro hc
   have b0:1+2*s.2<1000:=by have:=w.5;omega
   have b1:=Τ (yL (cls:=v.cls)) b0
   have rh:=(w.13 _ _ hc).1
   refine⟨.next,((some<|.int s.2,cA c),s.2+1),⟨m,rfl,by rw[<-hm];exact bN _ _⟩,.inl rfl,bT.trans ?_⟩
   rw[uJ hc]
   refine(Ib w.1 hc).trans<|(Ie rh.1<|mP b1 (by decide)).trans<|(Ig rh.2 (by rw[θ];exact bw (E0 b1) (by decide))).trans ?_
   rw[Α];rfl
 ·obtain⟨m,e,hm⟩:=h
  induction m with
  |zero=>exact hm
  |succ m=>rw[g8] at e;cases e
noncomputable abbrev IP:E:=k (ifs (P.Nt<|Fn 89<|k (L 0)<|k (L 11)<|k (L 14)<|k (L 16) z) (k (ret<|Ng<|I 1) z) z)<|k (ex<|M 1 (L 2)<|k (Tu<|k (L 14)<|k (L 15) z) z) z
theorem AY(w:WW v st roots gv dep Al nt)(hi:i<v.c.length)(wg: ∀w∈ws,Wy v gv dep Al i o w)(hz:T.length+ws.length<big):Ends (λs:(Option V×Option V×Option V)×List Ent=>nO a3 a (some<|.int m) ⟨some<|.int i,b2,b3,s.1.1,s.1.2.1,s.1.2.2⟩) (λs=>Wt q st v es r S s.2) (λs=>s.2=T++ws.map kj) k0 (lq (Tu<|P.k (L 14)<|P.k (L 15)<|P.k (L 16) z) (wX ⟨Μ,Β Μ (n+1) true,true⟩ IP) (nO a3 a (some<|.int m) ⟨some<|.int i,b2,b3,b4,b5,b6⟩) k0 (ws.map nj) none<|Wt q st v es r S T):=by
 refine(gy (en:=λs:(Option V×Option V×Option V)×List Ent=>nO a3 a (some<|.int m) ⟨some<|.int i,b2,b3,s.1.1,s.1.2.1,s.1.2.2⟩) (hp:=λs=>Wt q st v es r S s.2) (λl s=>(∀w∈l,Wy v gv dep Al i o w)/\s.2++l.map kj=T++ws.map kj) (λ_ _ _ _=>rfl) (λw1 l s h=>?_) ws ((b4,b5,b6),T) ⟨wg,rfl⟩).casesOn λs h e=>⟨s,(Ν _).symm.trans h.2,e⟩
 obtain⟨g,eg,sg,og,ag,_⟩:=h.1 w1<|.head _
 have lt:s.2.length<big:=by
  have e:=congrArg au h.2
  rw[θ,θ,ς,ς] at e
  exact Τ (η (Ρ _ _)<|cC e) hz
 have ew:kj w1=(g,w1.2.1):=by unfold kj;rw[eg];rfl
 have ap {K:KV (Fl×Env×Hp)}:runC true (Wt q st v es r S s.2) 68 1 [.tup [.int g,.lst<|w1.2.1.map Slot.dv]] K=K .none (Wt q st v es r S<|s.2++[(g,w1.2.1)]):=xK (x:=(g,w1.2.1)) lt
 have op {K:KV (Fl×Env×Hp)}:un (Β Μ (n+1) false 89 [.obj 65,.int i,.int g,.int w1.2.2]<|Wt q st v es r S s.2) K=K (.bool true) (Wt q st v es r S s.2):=KN w.1 w.6 hi og
 refine⟨.next,((some<|.int g,some<|.lst<|w1.2.1.map Slot.dv,some<|.int w1.2.2),s.2++[(g,w1.2.1)]),⟨λw m=>h.1 w<|.tail _ m,?_⟩,.inl rfl,?_⟩
 ·rw[<-h.2,aU,ew,Α];rfl
 ·unfold nj
  rw[eg]
  refine Eu.trans ?_
  simp[cu (f:=89) rfl,op,ap]
theorem Q0{l:List D}:iw 1 (.lst l)=false:=rfl
theorem EG(h:look (i:Int) (dK S)=none)(hb:S.length<big)(hk:X.k=true):wX X (P.k (asg (P.X (L 1)<|L 11)<|L 12) body) (nO a3 a mo ⟨some<|.int i,some<|.lst<|s.map Slot.dv,b3,b4,b5,b6⟩) (Wt q st v es r S T) k0=wX X body (nO a3 a mo ⟨some<|.int i,some<|.lst<|s.map Slot.dv,b3,b4,b5,b6⟩) (Wt q st v es r (S++[(i,s)]) T) k0:=by
 simp[hk,L_ h hb]
theorem AW{x:D}{l:List D}{es':List (Int×V)}{r':List PO}(h: ∀{K:KV R},un (X.C 94 [.obj 65,.int i,.d x]<|Wt q st v es r S T) K=K (.lst l) (Wt q st v es' r' S T)):wX X (P.k (asg (L 13)<|Fn 94<|P.k (L 0)<|P.k (L 11)<|P.k (L 12) z)<|P.k (ifs (P.Is 1<|L 13) (P.k (ret<|Ng<|I 1) z) z) body) (nO a3 a mo ⟨some<|.int i,some<|.d x,b3,b4,b5,b6⟩) (Wt q st v es r S T) k0=wX X body (nO a3 a mo ⟨some<|.int i,some<|.d x,some<|.lst l,b4,b5,b6⟩) (Wt q st v es' r' S T) k0:=by
 simp[h,Q0]
variable{m':Int}{t:Option Slot}
noncomputable abbrev BJ:E:=P.k (asg (Tu<|P.k (L 11)<|P.k (L 12) z)<|M 67 (L 2) z)<|P.k Dn<|P.k (asg (P.X (L 1)<|L 11)<|L 12)<|P.k (asg (L 13)<|Fn 94<|P.k (L 0)<|P.k (L 11)<|P.k (L 12) z)<|P.k (ifs (P.Is 1<|L 13) (P.k (ret<|Ng<|I 1) z) z)<|P.k (asg (L 10)<|Bu 4<|B 0 (Li 0<|P.k (L 10)<|P.k (Bu 0<|L 12) z)<|Co 3 1 (Bu 0<|L 18) (It<|L 13) z)<|P.k (P.fr (Tu<|P.k (L 14)<|P.k (L 15)<|P.k (L 16) z) (It<|L 13) IP) z
theorem Dw{key:Nat}(h:key∈ks):key∈AI t ks:=by
 induction t with
 |none=>exact h
 |some t=>
  show key∈E9 t ks
  unfold E9
  cases dJ t<;>first|exact h|exact .tail _ h
theorem G3{key:Nat}{t':Slot}(h:t=some t')(h2:dJ t'=some key):key∈AI t ks:=by
 subst h
 show key∈E9 t' ks
 unfold E9
 rw[h2];exact .head _
theorem VN{C s t w:Nat}(h:s+1<=C)(hw:w<=3):4*(C-(s+1))+(t+w)<4*(C-s)+(t+1):=by
 refine(Nat.exists_eq_add_of_le h).elim λd e=>?_
 rw[e,dz,aZ s,dz]
 omega
theorem WX.new(w:WW v st roots gv dep Al nt)(xx:WX v roots gv dep Al nt ⟨m,ks,es,r,S,T++[(i,s)],b⟩)(h2:i∉S.map Ϣ)(ho:v.c[i]? =some o){es':List (Int×V)}{r':List PO}{b':B6}(k1:nT v.kp (AI t ks) es' r')(k2:es'.length<=es.length+1)(wl:ws.length<=3)(wg: ∀w∈ws,Wy v gv dep Al i o w)(wsu: ∀g:Nat,(g:Int)∈cV v.c i o->∃w∈ws,w.1=(g:Int))(wne:eF gv o.1 (dep i)<=dep i∨ws≠[])(wnt: ∀key,nt i key->∃t',t=some t'/\dJ t'=some key)(hm:J' (De m s ws) m'):WX v roots gv dep Al nt ⟨m',AI t ks,es',r',S++[(i,s)],T++ws.map kj,b'⟩/\4*(v.c.length-(S++[(i,s)]).length)+(T++ws.map kj).length<4*(v.c.length-S.length)+(T++[(i,s)]).length:=by
 have al:=xx.3 (i,s)<|Ε _<|Ε _<|.head _
 have sl:=w.9 i s al
 have wi:=xx.1
 rw[show((T++[(i,s)]).map Ϣ)=T.map Ϣ++[i] from Ξ] at wi
 have nd:((S++[(i,s)]).map Ϣ).Nodup:=by rw[Ξ];exact zg xx.2 h2
 have we: ∀g:Nat,g∈(ws.map kj).map Ϣ↔(g:Int)∈cV v.c i o:=λg=>by
  rw[Ϲ,Ϗ]
  refine⟨λ⟨w,mw,e⟩=>?_,λh=>?_⟩
  ·obtain⟨g',e1,e2,_⟩:=wg w mw
   have:w.1.toNat=g:=e
   rw[e1] at this
   exact this▸e2
  ·refine(wsu g h).elim λw q_=>q_.elim λmw e=>?_
   exact⟨w,mw,by show w.1.toNat=g;rw[e];rfl⟩
 have ms:=hm.3 _<|.tail _<|.head _
 have mw: ∀w∈ws,w.2.1.length<=m':=λw h=>hm.3 _<|.tail _<|.tail _<|Ϗ.mpr ⟨w,h,rfl⟩
 have d2:eF gv o.1 (dep i)<=m':=wne.elim (λh=>Ϯ h<|sl.2▸ms) λh=>by
  refine(List.exists_mem_of_ne_nil ws h).elim λw0 h0=>?_
  obtain⟨_,_,_,_,_,e⟩:=wg w0 h0
  exact e▸mw w0 h0
 have lt: ∀g:Nat,(g:Int)∈cV v.c i o->g<v.c.length:=λg h=>by
  refine(wsu g h).elim λw q_=>q_.elim λmw e=>?_
  obtain⟨g',e1,_,e3,_⟩:=wg w mw
  exact aO.mp (e.symm.trans e1)▸e3.1
 have W':WI v.c roots gv dep m' ((S++[(i,s)]).map Ϣ) ((T++ws.map kj).map Ϣ):=by
  rw[(Ξ:(T++ws.map kj).map Ϣ=T.map Ϣ++(ws.map kj).map Ϣ),Ξ]
  refine wi.step ho lt (λg h=>(Ζ.mp h).imp_right (we g).mp) (λg h=>Κ _ h) (λg h=>Ε _<|Ε _<|(we g).mpr h) (hm.3 m<|.head _) (sl.2▸ms) d2 ?_
  refine(Θ.mp hm.2).imp_right λh=>(Θ.mp h).imp (λe=>e.trans sl.2) λh=>?_
  obtain⟨w0,h0,e⟩:=Ϗ.mp h
  obtain⟨_,_,_,_,_,e5⟩:=wg w0 h0
  exact e.symm.trans e5
 have ln:S.length+1<=v.c.length:=by
  have:=o9 v.c.length _ nd λy my=>(W'.1 y<|Κ _ my).1
  rw[ς,θ] at this
  exact this
 have lT:(T++ws.map kj).length=T.length+ws.length:=by rw[θ,ς]
 have dec:4*(v.c.length-(S++[(i,s)]).length)+(T++ws.map kj).length<4*(v.c.length-S.length)+(T++[(i,s)]).length:=by rw[θ,lT,θ];exact VN ln wl
 refine⟨⟨W',nd,λy hy=>?_,λj hj key hk=>?_,k1,by show es'.length<=(S++[(i,s)]).length;rw[θ];exact η k2<|cS xx.6,η (aV dec) xx.7⟩,dec⟩
 ·rw[Ζ,Ζ,Ζ,υ] at hy
  refine hy.elim (λhy=>hy.elim (λhy=>xx.3 y<|Κ _ hy) λe=>e▸al) λhy=>hy.elim (λhy=>xx.3 y<|Ε _<|Κ _ hy) λhy=>?_
  refine(Ϗ.mp hy).elim λw0 q_=>q_.elim λh0 e=>?_
  obtain⟨g',e1,_,_,e4,_⟩:=wg w0 h0
  rw[<-e]
  unfold kj
  rw[e1];exact e4
 ·exact(((λy=>by rw[Ξ];exact cJ: ∀y:Nat,y∈(S++[(i,s)]).map Ϣ↔y∈S.map Ϣ∨y=i) j).mp hj).elim (λh=>Dw<|xx.4 j h key hk) λe=>(wnt key<|e▸hk).elim λt' h=>G3 h.1 h.2
theorem WX.old(w:WW v st roots gv dep Al nt)(xx:WX v roots gv dep Al nt ⟨m,ks,es,r,S,T++[(i,s)],b⟩){b':B6}(h:(i,s')∈S):WX v roots gv dep Al nt ⟨m,ks,es,r,S,T,b'⟩/\Mt s' s:=by
 have wi:=xx.1
 rw[show((T++[(i,s)]).map Ϣ)=T.map Ϣ++[i] from Ξ] at wi
 refine⟨⟨wi.old<|Ϗ.mpr ⟨_,h,rfl⟩,xx.2,λy hy=>xx.3 y (by rw[<-Α];exact Κ _ hy),xx.4,xx.5,xx.6,η (aT ?_ _) xx.7⟩,w.8 i _ _ (xx.3 _<|Κ _ h)<|xx.3 _<|Ε _<|Ε _<|.head _⟩
 rw[θ];exact Ρ _ _
noncomputable abbrev U0(a3:Option V)(a:A6)(s:WS):Env:=nO a3 a (some<|.int s.m) s.b
noncomputable abbrev YW(q:Fx)(st:St)(v:WD)(s:WS):Hp:=Wt q st v s.es s.r s.S s.T
noncomputable def XM(v:WD)(s:WS):Nat:=4*(v.c.length-s.S.length)+s.T.length
theorem AX(w:WW v st roots gv dep Al nt)(xx:WX v roots gv dep Al nt ⟨m,ks,es,r,S,T++[(i,s)],b⟩):FH (U0 a3 a) (YW q st v) (λs'=>WX v roots gv dep Al nt s'/\XM v s'<XM v ⟨m,ks,es,r,S,T++[(i,s)],b⟩) (wX ⟨Μ,Β Μ (n+4) true,true⟩ BJ (U0 a3 a ⟨m,ks,es,r,S,T++[(i,s)],b⟩) (Wt q st v es r S<|T++[(i,s)]) rt):=by
 refine(AG (i:=i) S).casesOn (λh1 h2=>?_) λs' ms h1=>?_
 ·have al:=xx.3 (i,s)<|Ε _<|Ε _<|.head _
  have hr:=xx.1.1 i<|Ε _ (by rw[Ξ];exact Ε _<|.head _)
  have hx:=ϊ hr.1
  revert hx
  generalize v.c[i]=o
  intro hx
  obtain⟨ws,t,sp,wl,wg,wsu,wne,wnt⟩:=w.11 i o s hx hr.2 al
  have ln:S.length<=v.c.length:=by
   have:=o9 v.c.length _ xx.2 λy my=>(xx.1.1 y<|Κ _ my).1
   rw[ς] at this
   exact this
  have lb:S.length<big:=Τ (η ln w.4) (by decide)
  refine(KP (Μ:=Μ) (n:=n) (q:=q) (sn:=dK<|S++[(i,s)]) (td:=T.map kR) xx.5 (Τ xx.6 lb) w.2 w.1 hx (η ((w.9 i s al).1) (by decide)) (w.7 i) (Τ (w.10 o<|Υ hx) (by decide)) sp).elim λes' q_=>q_.elim λr' q_=>q_.elim λk1 q_=>q_.elim λk2 k3=>?_
  refine(AH m<|(s.length:Int)::ws.map λw=>(w.2.1.length:Int)).elim λm' hm=>?_
  refine(AY (Μ:=Μ) (n:=n+3) (q:=q) (es:=es') (r:=r++r') (S:=S++[(i,s)]) (m:=m') (a3:=a3) (a:=a) (b2:=some<|.lst<|s.map Slot.dv) (b3:=some<|.lst<|ws.map nj) (b4:=b.b4) (b5:=b.b5) (b6:=b.b6) (k0:=pX (wX ⟨Μ,Β Μ (n+4) true,true⟩ z) rt) w hr.1 wg<|Τ (cL (η (η (ϰ _)<|η (cC (θ:(T++[(i,s)]).length=T.length+1).symm)<|ϣ _ _) xx.7) wl) (by decide)).casesOn λs2 e2 h3=>⟨.next,⟨m',AI t ks,es',r++r',S++[(i,s)],T++ws.map kj,⟨some<|.int i,some<|.lst<|s.map Slot.dv,some<|.lst<|ws.map nj,s2.1.1,s2.1.2.1,s2.1.2.2⟩⟩,WX.new w xx h2 hx k1 k2 wl wg wsu wne wnt hm,.inl rfl,?_⟩
  rw[show s2.2=_ from e2] at h3
  exact vo.trans<|(EE h1).trans<|(EG h1 lb rfl).trans<|(AW<|λ{K}=>k3).trans<|(ED (η wl (by decide)) hm).trans<|x_1.trans<|dg rfl h3
 ·have h:=WX.old (b':=⟨some<|.int i,some<|.lst<|s.map Slot.dv,b.b3,b.b4,b.b5,b.b6⟩) w xx ms
  refine⟨.cont,⟨m,ks,es,r,S,T,⟨some<|.int i,some<|.lst<|s.map Slot.dv,b.b3,b.b4,b.b5,b.b6⟩⟩,⟨h.1,?_⟩,.inr rfl,vo.trans<|(EF h1 h.2).trans rfl⟩
  show 4*_+T.length<4*_+(T++[(i,s)]).length
  rw[θ];exact ϝ _
@[simp high] theorem isE67{es sn:List (Int×V)}{td:List D}{r:List PO}{H:Hp}:eqv (Wk q st v es sn td r) (.obj 68) (.lst [])=iL (.lst td) (.lst []):=rfl
theorem Ej{T:List Ent}:iL (.lst<|T.map kR) (.lst [])=some T.isEmpty:=by
 have e: ∀x:Ent,fK 5 (kR x)=true:=λx=>by
  exact dg (b:=(true&&(kF 3 (x.2.map Slot.dv)&&true))) rfl (by rw[jj (mE 2) x.2];rfl)
 show(if fK 6 (.lst<|T.map kR)&&fK 6 (.lst []) then some (kU (T.map kR) []) else none)=_
 have:fK 6 (.lst<|T.map kR)=true:=jj e T
 rw[this]
 induction T<;>rfl
inductive Y0(q:Fx)(st:St)(v:WD)(Μ:List Int)(n:Nat)(roots:List Nat)(gv:Int)(dep:Nat->Int)(nt:Nat->Nat->Prop)(m:Int)(ks:List Nat)(es sn:List (Int×V))(r:List PO):Prop
 |mk (im:fS v.c roots gv dep m) (kp:nT v.kp ks es r) (nt: ∀i key,eS v.c roots i->nt i key->key∈ks) (e:Β Μ (n+5) true 95 [.obj 65] (W q st [.ds<|wD v,.di []])=some (.int m,Wk q st v es sn [] r))
theorem KR(w:WW v st roots gv dep Al nt): ∃m ks es sn r,Y0 q st v Μ n roots gv dep nt m ks es sn r:=by
 refine(yh (X:=⟨Μ,Β Μ (n+4) true,true⟩) (q:=q) (es:=[]) (r:=[]) (b:=⟨none,none,none,none,none,none⟩) (k0:=pX (wX ⟨Μ,Β Μ (n+4) true,true⟩<|P.k (asg (L 10)<|I 0)<|P.k (UZ (P.C 1 (L 2)<|Li 0 z) BJ)<|P.k (ret<|L 10) z)<|dS true (W q st [.ds<|wD v,.di []]).c.length) w).casesOn λs1 h1 e1=>?_
 obtain⟨⟨a3,a⟩,_⟩:=s1
 cases h1
 have x0:WX v roots gv dep Al nt ⟨0,[],[],[],[],l9 v.cls v.cls.length,⟨none,none,none,none,none,none⟩⟩:=by
  refine⟨⟨λi m=>?_,(λi m=>ay m),λr m=>?_,ϛ _,.z rfl⟩,dQ,λx m=>?_,(λi m=>ay m),⟨λ_ h=>(ay h),λ_ _=>rfl⟩,ώ _,?_⟩
  ·obtain⟨x,mx,rfl⟩:=Ϗ.mp m
   have mr:=(nG.mp mx).elim (λe=>e▸w.12.1) λ⟨p,cl,e,h⟩=>((w.13 p cl e).2 x h).1
   exact⟨(w.14 _ mr).1,.root mr⟩
  ·exact(w.14 r m).2.elim (λe=>Ϗ.mpr ⟨(0,[]),nG.mpr<|.inl rfl,e.symm⟩) λ⟨p,cl,e,h⟩=>by
    refine(Ϗ.mp h).elim λx q_=>q_.elim λmx ex=>?_
    exact Ϗ.mpr ⟨x,nG.mpr<|.inr ⟨p,cl,e,mx⟩,ex⟩
  ·exact(nG.mp m).elim (λe=>e▸w.12.2) λ⟨p,cl,e,h⟩=>((w.13 p cl e).2 x h).2
  ·have:=w.4
   have:=w.5
   have:=yL (cls:=v.cls) (p:=v.cls.length)
   show 4*(v.c.length-0)+(l9 v.cls v.cls.length).length<=800801
   omega
 refine(J2 (k0:=pX (wX ⟨Μ,Β Μ (n+4) true,true⟩<|P.k (ret<|L 10) z)<|dS true (W q st [.ds<|wD v,.di []]).c.length) (test:=wE ⟨Μ,Β Μ (n+4) true,true⟩<|P.C 1 (L 2)<|Li 0 z) (body:=wX ⟨Μ,Β Μ (n+4) true,true⟩ BJ) (en:=U0 a3 a) (hp:=YW q st v) (WX v roots gv dep Al nt) (λs=>WX v roots gv dep Al nt s/\s.T=[]) (XM v) (λs xx=>?_) _ x0).casesOn λs2 h2 e2=>?_
 ·obtain⟨m,ks,es,r,S,T,b⟩:=s
  have t1:wE ⟨Μ,Β Μ (n+4) true,true⟩ (P.C 1 (L 2)<|Li 0 z) (U0 a3 a ⟨m,ks,es,r,S,T,b⟩) (Wt q st v es r S T) pr=some (.bool<|!T.isEmpty,Wt q st v es r S T):=by
   have:eqv (Wt q st v es r S T) (.obj 68) (.lst [])=some T.isEmpty:=(kX rfl).trans Ej
   simp[this]
  rcases iY T with rfl|⟨T',⟨i,s⟩,rfl⟩
  ·exact .dn t1 ⟨xx,rfl⟩
  ·rw[iW] at*
   rw[show(T'++[(i,s)]).isEmpty=false by simp] at t1
   exact .go t1<|AX w xx
 ·obtain⟨m,ks,es,r,S,T,b⟩:=s2
  obtain⟨w1,h2⟩:=h2
  cases h2
  refine⟨m,ks,es,dK S,r,w1.1.JG,w1.5,λi key hr hk=>w1.4 i (w1.1.all i hr) key hk,?_⟩
  have en:W q st [.ds<|wD v,.di [],Ai 0 [] [],.list [.tup [.int 0,.lst []]]]=Wt q st v [] [] [] [(0,[])]:=rfl
  have e3 {z:KI (V×Hp)}:C4 z (.obj 46) (Wt q st v [] [] [] [(0,[])])=z (Ϫ 0 v.cls.length) none (Wt q st v [] [] [] [(0,[])]):=by
   rw[W5 kg46,ς,<-w.1]
  refine(yx rfl rfl).trans ?_
  simp
  rw[en]
  dsimp
  rw[e3]
  refine e1.trans ?_
  dsimp
  refine e2.trans ?_
  simp
  rfl
end
noncomputable def St.at_(st:St)(l:Int):Int:=(lk l st.ϙ).getD 0
noncomputable def k9(op:Int):Bool:=op==56||(op==57||(op==58||op==221))
noncomputable def St.qy(st:St)(i:d_):Od:=match i.n with
 | .ts ls=>.ts<|ls.map st.at_
 | .i x=>if k9 i.op then .i (st.at_ x) else .i x
noncomputable def St.so(st:St)(i:d_):Int×Od:=(i.op,st.qy i)
noncomputable def St.sc(st:St):SC:=st.code.map st.so
inductive yk(st:St)(i:d_):Prop
 |mk (kn:i.op∈dI) (od:vU i.op i.n) (lb: ∀l∈tgt i.op i.n,∃p,lk l st.ϙ=some p) (ln:(tgt i.op i.n).length<=100)
theorem C7:dI.all (λop=>((decide (56<=op)&&decide (op<69))||op==221)==k9 op)=true:=by decide+kernel
section
variable{q:Fx}{st:St}{s:List PO}{R:Type}{K:KV R}{k0:KS R}{u:Bool}{n:Nat}{Μ:List Int}{l:List D}{X:Cx}{i:d_}
@[simp high] theorem aCodeL:ϸ (Wl q st s l) 55 em=some (.obj 40):=rfl
@[simp high] theorem aLabL:ϸ (Wl q st s l) 54 em=some (.obj 41):=rfl
@[simp high] theorem gCodeL:(Wl q st s l).get 40= .list (st.code.map d_.dv):=rfl
@[simp high] theorem gLabL:(Wl q st s l).get 41= .di (iv st.ϙ):=rfl
theorem JA{x:Int}(h: ∃p,lk x st.ϙ=some p):ϩ (Wl q st s l) (.obj 41) (.int x)=some (.int<|st.at_ x):=by
 show look x (iv st.ϙ)=_
 obtain⟨p,hp⟩:=h
 unfold St.at_
 rw[look_iv,hp];rfl
noncomputable def Zf(st:St):D->D
 | .int g=>.int<|st.at_ g
 |d=>d
noncomputable abbrev JR(s:List PO)(op:Int)(d:D):Env:=[some em,some<|.obj<|s.length+65,some<|.int op,some<|.d d]
theorem D4{op:Int}{d:D}{H:Hp}(h:((decide (56<=op)&&decide (op<69))||op==221)=k9 op){K:KV R}:wE X (O 0<|k (Cc 3 2 (I 56) (L 2)<|I 69)<|k (P.C 0 (L 2)<|I 221) z) (JR s op d) H K=K (.bool<|k9 op) H:=by
 rw[<-h]
 cases h1:decide (56<=op)<;>cases h2:decide (op<69)<;>cases h3:op==221<;>simp[h1,h2,h3]
theorem AO{body:E}(hi:yk st i):wX X (k (ifs (P.C 0 (L 2)<|I 69) (k (asg (L 3)<|Bu 3<|Co 1 0 (P.X (A 54<|L 0)<|L 4) (It<|L 3) z) z)<|k (ifs (O 0<|k (Cc 3 2 (I 56) (L 2)<|I 69)<|k (P.C 0 (L 2)<|I 221) z) (k (asg (L 3)<|P.X (A 54<|L 0)<|L 3) z) z) z) body) (JR s i.op i.n.dv) (Wl q st s l) k0=wX X body (JR s i.op (st.qy i).dv) (Wl q st s l) k0:=by
 obtain⟨kn,od,lb,ln⟩:=hi
 unfold St.qy
 cases hn:i.n with
 |ts ls=>
  rw[hn] at od lb ln
  have o:i.op=69:=od
  have ln:ls.length<=big:=η ln (by decide)
  have b3 {l:List D} {H:Hp} {K:KV R}:builtin 3 (.lst l) H K=K (.tup l) (H.ϴ<|l.length<=big):=rfl
  simp[o,Od.dv]
  refine(C0 (gq:=Zf st) (λx m=>?_) (by rw[ς];exact ln)).trans ?_
  ·obtain⟨g,mg,rfl⟩:=Ϗ.mp m
   simp[Cr,JA<|(lb: ∀l∈ls,∃p,lk l st.ϙ=some p) g mg]
   rfl
  ·rw[bu_,b3,bJ (by rw[ς,ς];exact ln),Ϲ]
   simp
   rfl
 |i x=>
  rw[hn] at od lb
  have o:(i.op==69)=false:=beq_eq_false_iff_ne.mpr od
  have hk:=eq_of_beq<|ϐ.mp C7 _ kn
  simp only[tgt] at lb
  have cc {H:Hp} {K:KV R}:=D4 (X:=X) (s:=s) (d:=(Od.i x).dv) (H:=H) (K:=K) hk
  have e:wX X (k (ifs (P.C 0 (L 2)<|I 69) (k (asg (L 3)<|Bu 3<|Co 1 0 (P.X (A 54<|L 0)<|L 4) (It<|L 3) z) z)<|k (ifs (O 0<|k (Cc 3 2 (I 56) (L 2)<|I 69)<|k (P.C 0 (L 2)<|I 221) z) (k (asg (L 3)<|P.X (A 54<|L 0)<|L 3) z) z) z) body) (JR s i.op (Od.i x).dv) (Wl q st s l) k0=wE X (O 0<|k (Cc 3 2 (I 56) (L 2)<|I 69)<|k (P.C 0 (L 2)<|I 221) z) (JR s i.op (Od.i x).dv) (Wl q st s l) (iH (wX X (k (asg (L 3)<|P.X (A 54<|L 0)<|L 3) z)<|JR s i.op (Od.i x).dv) (wX X z<|JR s i.op (Od.i x).dv)<|pX (wX X z)<|pX (wX X body) k0):=by
   simp[o]
  rw[e,cc]
  have jm:k9 i.op=Af i.op:=rfl
  rw[<-jm] at lb
  cases hj:k9 i.op with
  |true=>
   rw[hj] at lb
   simp[Od.dv,JA<|lb x<|.head _]
  |false=>simp
theorem HL{pre:List d_}:f_ (pre.map st.so)++[.tup [.int i.op,(st.qy i).dv]]=f_ ((pre++[i]).map st.so):=by
 unfold f_
 rw[Ξ,Ξ];rfl
theorem Ah(hi: ∀i∈st.code,yk st i)(hz:st.code.length<=big):un (Β Μ (n+1) false 97 [em]<|W q st s) K=K (.lst<|f_ st.sc) (W q st s):=by
 refine go rfl rfl ?_
 dsimp
 rw[<-new_t,Yc]
 refine(gy (st:=some (40,.list<|st.code.map d_.dv)) (t:=Tu<|k (L 2)<|k (L 3) z) (en:=λz:Option V×Option V×List d_=>[some em,some<|.obj<|s.length+65,z.1,z.2.1]) (hp:=λz=>Wl q st s<|f_<|z.2.2.map st.so) (f:=d_.dv) (λl z=>st.code=z.2.2++l) (λ_ _ _ x=>if_pos rfl) (λi l z h=>?_) st.code (none,none,[]) rfl).casesOn λz h e=>e.trans ?_
 ·have io:=hi i (by rw[h];exact Ε _<|.head _)
  refine⟨.next,(some<|.int i.op,some<|.d (st.qy i).dv,z.2.2++[i]),h.trans<|gZ ..,.inl rfl,(show _=wX _ _ (JR s i.op i.n.dv) (Wl q st s<|f_<|z.2.2.map st.so) rt from rfl).trans<|(AO io).trans ?_⟩
  rw[<-HL]
  simp[fZ yM,IF]
 ·have e3:z.2.2.map st.so=st.sc:=by rw[<-(Ν z.2.2:z.2.2++[]=_),<-h];rfl
  simp[Ja,e3]
  exact congrArg (λz=>W q z s)<|zE (by rw[f_,St.sc,ς,ς];exact hz)
noncomputable abbrev zZ:E:=P.k (asg (Tu<|P.k (L 9)<|P.k (L 10) z)<|P.X (P.X (L 0)<|Z 55)<|L 1)<|P.k (aug 1<|I 1)<|P.k (ifs (P.C 0 (L 9)<|I 65041) (P.k (ret<|If (P.C 0 (Bu 0<|L 6)<|I 1) (P.X (L 6)<|I 0)<|I 9) z) z)<|P.k (ifs (P.C 6 (L 9)<|Tu<|P.k (I 65036)<|P.k (I 65033) z) (P.k (ifs (O 0<|P.k (P.C 1 (Tu<|P.k (L 9)<|P.k (L 10) z)<|L 5)<|P.k (O 1<|P.k (P.C 5 (L 4)<|I 0)<|P.k (P.C 1 (M 6 (L 7)<|P.k (L 4)<|P.k (I 0) z)<|I 5) z) z) (P.k (ret<|I 8) z) z)<|P.k (ex<|M 1 (L 6)<|P.k (L 3) z) z)<|P.k (ifs (P.C 0 (L 9)<|I 65038) (P.k (asg (P.X (L 7)<|L 10)<|M 67 (L 6) z) z)<|P.k (ifs (P.C 0 (L 9)<|I 117) (P.k (asg (L 11)<|M 67 (L 6) z)<|P.k (ex<|M 1 (L 6)<|P.k (If (L 2) (L 11)<|I 0) z) z)<|P.k (ifs (P.C 0 (L 9)<|I 37) (P.k (ex<|M 1 (L 6)<|P.k (P.X (L 6)<|Ng<|I 1) z) z)<|P.k (ifs (P.C 0 (L 9)<|I 38) (P.k (ex<|M 67 (L 6) z) z)<|P.k (ifs (P.C 0 (L 9)<|I 32) (P.k (ex<|M 1 (L 6)<|P.k (L 10) z) z)<|P.k (ifs (P.C 0 (L 9)<|I 56) (P.k (asg (L 1)<|L 10) z)<|P.k (ifs (P.C 0 (L 9)<|I 58) (P.k (asg (L 1)<|If (M 67 (L 6) z) (L 10)<|L 1) z)<|P.k (ifs (P.C 0 (L 9)<|I 65027) (P.k (asg (L 12)<|M 67 (L 6) z)<|P.k (ex<|M 1 (L 6)<|P.k (If (P.C 4 (M 67 (L 6) z)<|L 12) (I 1)<|I 0) z) z)<|P.k (ifs (P.C 1 (L 9)<|I 165) (P.k (ret<|I 7) z) z) z) z) z) z) z) z) z) z) z) z
inductive Turn(su:Bool)(bit pl rop rn:Int):Int->Int->Nat->List Int->List (Int×Int)->Nat->List Int->List (Int×Int)->Prop
 |read {a:Nat} {s:List Int} {kt:List (Int×Int)}:(rop=65036∨rop=65033)->(pl<0∨lk pl kt=some 5)->Turn su bit pl rop rn rop rn a s kt (a+1) (s++[bit]) kt
 |put {a:Nat} {s:List Int} {kt:List (Int×Int)} {n x:Int}:kt.length<big->lk n kt=none->Turn su bit pl rop rn 65038 n a (s++[x]) kt (a+1) s (kt++[(n,x)])
 |GO {a:Nat} {s:List Int} {kt:List (Int×Int)} {n x:Int}:Turn su bit pl rop rn 117 n a (s++[x]) kt (a+1) (s++[if su then x else 0]) kt
 |dup {a:Nat} {s:List Int} {kt:List (Int×Int)} {n x:Int}:Turn su bit pl rop rn 37 n a (s++[x]) kt (a+1) (s++[x]++[x]) kt
 |pop {a:Nat} {s:List Int} {kt:List (Int×Int)} {n x:Int}:Turn su bit pl rop rn 38 n a (s++[x]) kt (a+1) s kt
 |cst {a:Nat} {s:List Int} {kt:List (Int×Int)} {n:Int}:Turn su bit pl rop rn 32 n a s kt (a+1) (s++[n]) kt
 |br {a g:Nat} {s:List Int} {kt:List (Int×Int)}:Turn su bit pl rop rn 56 g a s kt g s kt
 |Vv {a g:Nat} {s:List Int} {kt:List (Int×Int)} {x:Int}:Turn su bit pl rop rn 58 g a (s++[x]) kt (if x≠0 then g else a+1) s kt
 |gt {a:Nat} {s:List Int} {kt:List (Int×Int)} {n x y:Int}:Turn su bit pl rop rn 65027 n a (s++[x]++[y]) kt (a+1) (s++[if y<x then 1 else 0]) kt
 |Ez {a:Nat} {s:List Int} {kt:List (Int×Int)} {n:Int}:Turn su bit pl rop rn 165 n a s kt (a+1) s kt
variable{v:WD}{es sn:List (Int×V)}{td:List D}{r:List PO}{a a' j:Nat}{H:Hp}{su:Bool}{bit pl rop rn op x y z m:Int}{s s':List Int}{kt kt':List (Int×Int)}{body:E}
noncomputable def Ha(H:Hp)(s:List Int)(kt:List (Int×Int)):Hp:=Hx H [.list<|s.map .int,.di<|iv kt]
theorem ha0:(Ha H s kt).get H.c.length= .list (s.map .int):=LJ
theorem ha1:(Ha H s kt).get (H.c.length+1)= .di (iv kt):=OB
theorem iu(h:s.length<big):runC u (Ha H s kt) H.c.length 1 [.int x] K=K .none (Ha H (s++[x]) kt):=by
 rw[gp ha0,bJ (by rw[ς];exact h)]
 refine congrArg (K _)<|hp0.trans ?_
 unfold Ha
 rw[Ξ];rfl
theorem jf:runC u (Ha H (s++[x]) kt) H.c.length 67 [] K=K (.int x) (Ha H s kt):=by
 rw[lC<|ha0.trans (by rw[Ξ];rfl)]
 exact congrArg (K _) hp0
theorem j7:resolve (Ha H s kt) 67 (.obj H.c.length)=some (.cell H.c.length):=mW ha0
theorem fF:resolve (Ha H s kt) 1 (.obj H.c.length)=some (.cell H.c.length):=fZ ha0
theorem M7{i:Int}{w:D}{es:List (Int×V)}(h:H.get j= .di es)(h1:es.length<big)(h2:look i es=none):bF u H (.obj j) (.int i) (.d w)=some (H.put j<|.di<|es++[(i,.d w)]):=by
 refine(ϥ _).trans<|(congrArg (Fc H j (.int i)<|.d w) h).trans ?_
 exact congrArg (λz=>some<|Hp.put z j<|.di<|es++[(i,.d w)])<|bJ (p:=es.length<big/\look i es=none) ⟨h1,h2⟩
theorem LD(h1:kt.length<big)(h2:lk y kt=none):bF u (Ha H s kt) (.obj<|H.c.length+1) (.int y) (.int x)=some (Ha H s<|kt++[(y,x)]):=by
 refine(M7 ha1 (by rw[iv,ς];exact h1) (by rw[look_iv,h2];rfl)).trans<|congrArg some<|hp1.trans ?_
 unfold Ha iv
 rw[Ξ];rfl
theorem Lx{i:Int}{w:V}{es:List (Int×V)}(h:H.get j= .di es):runC u H j 6 [.int i,w] K=K ((look i es).getD w) H:=by
 exact congrArg (DK u H j 6 [.int i,w] K) h
theorem DM{es:List (Int×V)}(h:H.get j= .di es):resolve H 6 (.obj j)=some (.cell j):=congrArg (Fb j 6) h
inductive AE(H:Hp)(su:Bool)(bit pl rop rn:Int)(a:Nat):Env->Prop
 |mk (b c d e f:Option V):AE H su bit pl rop rn a [some<|.obj 65,some<|.int a,some<|.bool su,some<|.int bit,some<|.int pl,some<|.tup [.int rop,.int rn],some<|.obj H.c.length,some<|.obj<|H.c.length+1,b,c,d,e,f]
theorem XI{H:Hp}(h:H.get 65= .ds (wD v)):ϩ H (.obj 65) (.d<|.str 55)=some (.lst<|f_ v.c):=by
 exact congrArg (GH<|.str 55) h
theorem i6{b c d e f g h2 i2 j2 k2 l2:Option V}(hw:H.get 65= .ds (wD v))(hx:v.c[a]? =some (op,.i z)):wX X (P.k (asg (Tu<|P.k (L 9)<|P.k (L 10) P.z)<|P.X (P.X (L 0)<|Z 55)<|L 1)<|P.k (aug 1<|I 1) body) [some<|.obj 65,some<|.int a,b,c,d,e,f,g,h2,i2,j2,k2,l2] H k0=wX X body [some<|.obj 65,some<|.int ((a+1:Nat):Int),b,c,d,e,f,g,h2,some<|.int op,some<|.int z,k2,l2] H k0:=by
 have e1:ϩ H (.lst<|f_ v.c) (.int a)=some (.tup [.int op,.int z]):=code_at hx
 simp[hw,XI hw,e1]
theorem F4{l:List D}{x:D}:at? (l++[x]) (-1)=some x:=by
 unfold at?
 rw[if_neg (by decide),if_pos (by simp;omega),show((-1:Int)+((l++[x]).length)).toNat=l.length by simp;omega,aA<|ώ _,Nat.sub_self];rfl
theorem Bx{e:Env}(hw:H.c[65]? =some (.ds<|wD v))(hx:v.c[a]? =some (op,.i m))(hs:s.length<=1000)(T:Turn su bit pl rop rn op m a s kt a' s' kt')(he:AE H su bit pl rop rn a e): ∃e2,AE H su bit pl rop rn a' e2/\wX X zZ (e.set 8<|some<|.int x) (Ha H s kt) rt=some (.next,e2,Ha H s' kt'):=by
 obtain⟨b,c,d,e,f⟩:=he
 have g65:(Ha H s kt).get 65= .ds (wD v):=jd<|xu hw
 have hb:s.length<big:=Τ hs (by decide)
 clear hs
 induction T with
 | @read a s kt ho hp=>
  refine⟨_,.mk (some<|.int x) (some<|.int rop) (some<|.int rn) e f,(i6 g65 hx).trans ?_⟩
  have e0 (o z:Int):iL (.tup [.int o,.int z]) (.tup [.int o,.int z])=some true:=by
   show some ((o==o)&&((z==z)&&true))=_
   simp
  have pl0 {K:KV (Fl×Env×Hp)}:runC X.k (Ha H s kt) (H.c.length+1) 6 [.int pl,.int 0] K=K (.int<|(lk pl kt).getD 0) (Ha H s kt):=by
   rw[Lx ha1,look_iv]
   cases lk pl kt<;>rfl
  have e2:decide (0<=pl)=true->lk pl kt=some 5:=λh=>hp.resolve_left<|Ϭ.mpr<|of_decide_eq_true h
  rcases ho with rfl|rfl
  ·cases h:decide (0<=pl)
   ·simp[e0,h,fF,iu hb]
   ·rw[e2 h] at pl0
    simp[e0,h,DM ha1,pl0,fF,iu hb]
  ·cases h:decide (0<=pl)
   ·simp[e0,h,fF,iu hb]
   ·rw[e2 h] at pl0
    simp[e0,h,DM ha1,pl0,fF,iu hb]
 | @put a s kt m x0 h1 h2=>
  refine⟨_,.mk (some<|.int x) (some<|.int 65038) (some<|.int m) e f,(i6 g65 hx).trans ?_⟩
  simp[j7,jf,LD h1 h2]
 | @GO a s0 kt m y=>
  refine⟨_,.mk (some<|.int x) (some<|.int 117) (some<|.int m) (some<|.int y) f,(i6 g65 hx).trans ?_⟩
  have hb:=Τ (Ρ _ 1)<|θ▸hb
  induction su<;>simp[j7,jf,fF,iu hb]
 | @dup a s0 kt m y=>
  refine⟨_,.mk (some<|.int x) (some<|.int 37) (some<|.int m) e f,(i6 g65 hx).trans ?_⟩
  have e1 {K:KV (Fl×Env×Hp)} {H:Hp}:gE (s0.map .int++[.int y]) (-1) K H=K (.int y) H:=l_ F4
  simp[ha0,e1,fF,iu hb]
 | @pop a s kt m x0=>
  refine⟨_,.mk (some<|.int x) (some<|.int 38) (some<|.int m) e f,(i6 g65 hx).trans ?_⟩
  simp[j7,jf]
 | @cst a s kt m=>
  refine⟨_,.mk (some<|.int x) (some<|.int 32) (some<|.int m) e f,(i6 g65 hx).trans ?_⟩
  simp[fF,iu hb]
 | @br a a' s kt=>
  refine⟨_,.mk (some<|.int x) (some<|.int 56) (some<|.int a') e f,(i6 g65 hx).trans ?_⟩
  simp
 | @Vv a g s0 kt y=>
  refine⟨_,.mk (some<|.int x) (some<|.int 58) (some<|.int g) e f,(i6 g65 hx).trans ?_⟩
  by_cases h:y=0
  ·subst h
   simp[j7,jf]
  ·have h2:=bne_iff_ne.mpr h
   simp[j7,jf,h,h2]
 | @gt a s0 kt m y w=>
  refine⟨_,.mk (some<|.int x) (some<|.int 65027) (some<|.int m) e<|some<|.int w,(i6 g65 hx).trans ?_⟩
  have hb:s0.length<big:=Τ (η (Ρ _ 2) (by simp)) hb
  obtain⟨s1,h1⟩: ∃s1,s1=s0++[y]:=⟨_,rfl⟩
  have p2 {K:KV (Fl×Env×Hp)}:runC X.k (Ha H s1 kt) H.c.length 67 [] K=K (.int y) (Ha H s0 kt):=h1▸jf
  rw[<-h1]
  by_cases h:w<y
  ·have d:=decide_eq_true h
   simp[j7,jf,p2,fF,h,d,iu hb]
  ·have d:=decide_eq_false h
   simp[j7,jf,p2,fF,h,d,iu hb]
 | @Ez a s kt m=>
  refine⟨_,.mk (some<|.int x) (some<|.int 165) (some<|.int m) e f,(i6 g65 hx).trans ?_⟩
  simp
end
class inductive RunF(c:SC)(su:Bool)(bit pl rop rn:Int):Nat->Nat->List Int->List (Int×Int)->Int->Prop
 |stop {a:Nat} {m x:Int} {kt:List (Int×Int)}:c[a]? =some (65041,.i m)->RunF c su bit pl rop rn 0 a [x] kt x
 |turn {a a' k:Nat} {op m x:Int} {s s':List Int} {kt kt':List (Int×Int)}:c[a]? =some (op,.i m)->Turn su bit pl rop rn op m a s kt a' s' kt'->s.length<=1000->RunF c su bit pl rop rn k a' s' kt' x->RunF c su bit pl rop rn (k+1) a s kt x
section
variable{q:Fx}{st:St}{v:WD}{es sn:List (Int×V)}{td:List D}{r:List PO}{R:Type}{K:KV R}{k0:KS R}{u:Bool}{n k a j:Nat}{Μ:List Int}{X:Cx}{H:Hp}{su:Bool}{bit pl rop rn op x y z m:Int}{s s':List Int}{kt kt':List (Int×Int)}{body:E}
theorem FZ{res:Option R}(hw:H.c[65]? =some (.ds<|wD v))(r:RunF v.c su bit pl rop rn k a s kt x)(hk: ∀e t,k0 (.ret<|.int x) e (Hx H t)=res): ∀(l:List Int)(e:Env),k<l.length->AE H su bit pl rop rn a e->forL none (L 8) (wX X zZ) k0 (l.map .int) e (Ha H s kt)=res:=by
 induction r with
 | @stop a m x kt hx=>
  intro l e hl he
  induction l with
  |nil=>cases hl
  |cons y l=>
   obtain⟨b,c,d,e,f⟩:=he
   have st:wX X zZ [some<|.obj 65,some<|.int a,some<|.bool su,some<|.int bit,some<|.int pl,some<|.tup [.int rop,.int rn],some<|.obj H.c.length,some<|.obj<|H.c.length+1,some<|.int y,c,d,e,f] (Ha H [x] kt) rt=some (.ret<|.int x,[some<|.obj 65,some<|.int ((a+1:Nat):Int),some<|.bool su,some<|.int bit,some<|.int pl,some<|.tup [.int rop,.int rn],some<|.obj H.c.length,some<|.obj<|H.c.length+1,some<|.int y,some<|.int 65041,some<|.int m,e,f],Ha H [x] kt):=by
    refine(i6 (jd (xu hw):(Ha H [x] kt).get 65= .ds (wD v)) hx).trans ?_
    have e1 {K:KV (Fl×Env×Hp)}:gE [D.int x] 0 K (Ha H [x] kt)=K (.int x) (Ha H [x] kt):=l_ rfl
    simp[PS ha0,ha0,e1]
   show(match wX X zZ [some (.obj 65),some (.int a),some (.bool su),some (.int bit),some (.int pl),some (.tup [.int rop,.int rn]),some (.obj H.c.length),some (.obj (H.c.length+1)),some (.int y),c,d,e,f] (Ha H [x] kt) rt with
    |some (.next,e,h)=>_|some (.cont,e,h)=>_|some (.brk,e,h)=>_|some (.ret v,e,h)=>k0 (.ret v) e h|none=>none)=_
   rw[st]
   exact hk _ _
 |turn hx T hz r ih=>
  intro l e hl he
  induction l with
  |nil=>cases hl
  |cons y l=>
   refine(Bx (X:=X) (x:=y) hw hx hz T he).elim λe2 q_=>q_.elim λhe2 st=>?_
   refine dg ?_ (ih hk l e2 (vF hl) he2)
   show(match wX X zZ (e.set 8 (some (.int y))) _ rt with
    |some (.next,e,h)=>forL none (L 8) (wX X zZ) k0 (l.map .int) e h
    |some (.cont,e,h)=>_|some (.brk,e,h)=>_|some (.ret v,e,h)=>_|none=>none)=_
   rw[st]
theorem Ga(hw:H.c[65]? =some (.ds<|wD v))(r:RunF v.c su bit pl rop rn k a [5] [] x)(hk:k<30):un (Β Μ (n+1) false 96 [.obj 65,.int a,.bool su,.int bit,.int pl,.tup [.int rop,.int rn]] H) K=K (.int x) H:=by
 refine go rfl rfl ?_
 have sm:jK 0/\jK 30:=by decide
 have e1:(H.new<|.list [.int 5]).new (Ai 0 [] [])=Ha H [5] []:=(congrArg (Hp.mk _)<|Α ..)
 simp
 rw[JL sm,e1,show(H.new<|.list [.int 5]).c.length=H.c.length+1 from θ]
 have e3:Ϫ 0 30=((ϗ 30).map λ(k:Nat)=>(k:Int)).map .int:=by rw[Ϲ];exact aa 30
 refine(ϥ _).trans ?_
 rw[e3]
 exact FZ hw r (λe t=>by simp[xr]) ((ϗ 30).map λ(k:Nat)=>(k:Int)) _ (by rw[ς,ϲ];exact hk)<|.mk _ _ _ _ _
end
inductive Taken(c:SC)(jH:Int)(p:Nat):Nat->Prop
 |pop {m:Int}:jH= -1->c[p]? =some (38,.i m)->Taken c jH p (p+1)
 |st:c[p]? =some (65038,.i jH)->Taken c jH p (p+1)
 |Ez {m:Int}:c[p]? =some (165,.i m)->c[p+1]? =some (65038,.i jH)->Taken c jH p (p+2)
inductive Tail(c:SC)(rop rn:Int)(p:Nat):Prop
 |mk (o:rop=65036∨rop=65033) (a:c[p]? =some (rop,.i rn)) (b:c[p+1]? =some (32,.i 0)) (d: ∃m,c[p+2]? =some (65027,.i m)) (e: ∃m,c[p+3]? =some (65041,.i m))
inductive Oe(c:SC)(kind jH rop rn:Int)(f:Nat):Prop
 |all {p:Nat}:kind= -1->Taken c jH f p->Tail c rop rn p->Oe c kind jH rop rn f
 |ask {p:Nat} {m1 m2 m3:Int}:kind≠ -1->c[f]? =some (117,.i m1)->c[f+1]? =some (37,.i m2)->c[f+2]? =some (58,.i (f+6:Nat))->c[f+3]? =some (38,.i m3)->c[f+4]? =some (32,.i 0)->c[f+5]? =some (56,.i (p+3:Nat))->Taken c jH (f+6) p->Tail c rop rn p->Oe c kind jH rop rn f
section
variable{c:SC}{su:Bool}{bit rop rn kind jH:Int}{p p2 f:Nat}{kt:List (Int×Int)}
theorem pK(t:Tail c rop rn p)(hb:0<=bit)(h:jH<0∨lk jH kt=some 5):RunF c su bit jH rop rn 3 p [] kt (if 0<bit then 1 else 0):=by
 refine t.4.elim λm d=>?_
 obtain⟨m',e⟩:=t.5
 exact .turn t.2 (.read t.1 h) (ϋ _)<|.turn t.3 .cst (Λ rfl)<|.turn d (.gt (s:=[]) (x:=bit) (y:=0)) (Λ rfl)<|.stop e
theorem q8(k:Taken c jH p p2)(t:Tail c rop rn p2)(hb:0<=bit): ∃m≤5,RunF c su bit jH rop rn m p [5] [] (if 0<bit then 1 else 0):=by
 have l5:lk jH ([]++[(jH,(5:Int))])=some 5:=if_pos rfl
 induction k with
 |pop ha h=>exact⟨4,Λ rfl,.turn h (.pop (s:=[])) (Λ rfl)<|pK t hb<|.inl (by omega)⟩
 |st h=>exact⟨4,Λ rfl,.turn h (.put (s:=[]) (by decide) rfl) (Λ rfl)<|pK t hb<|.inr l5⟩
 |Ez h h2=>exact⟨5,Λ rfl,.turn h .Ez (Λ rfl)<|.turn h2 (.put (s:=[]) (by decide) rfl) (Λ rfl)<|pK t hb<|.inr l5⟩
theorem Gq(F:Oe c kind jH rop rn f)(hb:0<=bit): ∃m<30,RunF c su bit jH rop rn m f [5] [] (if 0<bit/\(su=true∨kind= -1) then 1 else 0):=by
 induction F with
 |all h k t=>
  obtain⟨m,hm,r⟩:=q8 (su:=su) k t hb
  refine⟨m,by omega,?_⟩
  have:(0<bit/\(su=true∨kind= -1))=(0<bit):=by simp[h]
  simp only[this];exact r
 | @ask p m1 m2 m3 h h0 h1 h2 h3 h4 h5 k t=>
  induction su with
  |true=>
   obtain⟨m,hm,r⟩:=q8 (su:=true) k t hb
   refine⟨m+3,by omega,?_⟩
   have e:(if 0<bit/\(true=true∨kind= -1) then(1:Int) else 0)=if 0<bit then 1 else 0:=by simp
   rw[e]
   exact .turn h0 (.GO (s:=[])) (Λ rfl)<|.turn h1 (.dup (s:=[])) (Λ rfl)<|.turn (a':=f+6) h2 (Turn.Vv (s:=[5]) (x:=5)) (Λ rfl) r
  |false=>
   obtain⟨m,e⟩:=t.5
   refine⟨6,Nat.lt_of_sub_eq_succ rfl,?_⟩
   have e0:(if 0<bit/\(false=true∨kind= -1) then(1:Int) else 0)=0:=by simp[h]
   rw[e0]
   exact .turn h0 (.GO (s:=[])) (Λ rfl)<|.turn h1 (.dup (s:=[])) (Λ rfl)<|.turn (a':=f+3) h2 (Turn.Vv (s:=[0]) (x:=0)) (Λ rfl)<|.turn h3 (.pop (s:=[])) (Λ rfl)<|.turn h4 .cst (Λ rfl)<|.turn h5 .br (Λ rfl)<|.stop e
noncomputable def bX(ol:List (Int×Int))(lid:Int):Int:=(lk lid ol).getD<|-1
inductive tQ(v:WD)(ks:List Nat)(ol:List (Int×Int))(p:Nat)(cl:Cl):Option Row->Prop
 |YK:cl.sort=2->cl.ex=0->tQ v ks ol p cl none
 |tL {r:Row}:r.kind= -2->cl.sort=4->cl.ex=0->tQ v ks ol p cl (some r)
 |YO {r:Row}:r.kind≠ -2->(r.lid=0∨0<=bX ol r.lid)->p∈ks->r.wh=none->cl.sort=0->cl.ex=nE r.kind->v.kp p=bX ol r.lid->tQ v ks ol p cl (some r)
 |Au {r:Row} {w f:Nat}:r.kind≠ -2->(r.lid=0∨0<=bX ol r.lid)->p∈ks->r.wh=some w->cl.sort=1->v.kp p= -1->p+1000∈ks->v.kp (p+1000)=bX ol r.lid->cl.ex=f->Oe v.c r.kind (bX ol r.lid) (if w=12 then 65033 else 65036) (if w=12 then 0 else bX ol 2) f->tQ v ks ol p cl (some r)
end
section
variable{q:Fx}{st:St}{v:WD}{es sn:List (Int×V)}{td:List D}{r:List PO}{R:Type}{K:KV R}{k0:KS R}{u:Bool}{n p j:Nat}{Μ:List Int}{X:Cx}{H:Hp}{body:E}{ks:List Nat}{cl:Cl}{d:D}{jH:Int}{a b c e f g a2 b2 c2 e2 f2:Option V}
noncomputable abbrev E6(p:Nat)(d:D)(cl:Cl)(a b c e f:Option V):Env:=[some<|.obj 65,some<|.int p,some<|.d d,some<|.int cl.sort,some<|.int cl.t0,some<|.int cl.t1,some<|.int cl.h0,some<|.int cl.h1,some<|.int cl.ex,a,b,c,e,f]
theorem VI(hc:v.cls=st.clauses)(hp:v.cls[p]? =some cl):wX X (k (asg (Tu<|k (L 3)<|k (L 4)<|k (L 5)<|k (L 6)<|k (L 7)<|k (L 8) z)<|P.X (P.X (L 0)<|Z 48)<|L 1) body) [some<|.obj 65,some<|.int p,some<|.d d,a2,b2,c2,e2,f2,g,a,b,c,e,f] (Wk q st v es sn td r) k0=wX X body (E6 p d cl a b c e f) (Wk q st v es sn td r) k0:=by
 have e {K:KV R}:gE (st.clauses.map Cl.dv) p K (Wk q st v es sn td r)=K (.d cl.dv) (Wk q st v es sn td r):=rV hc hp
 simp[e,Cl.dv]
@[simp high] theorem kPl:ϩ (Wk q st v es sn td r) (.obj 65) (.d<|.str 40)=some (.obj 43):=rfl
@[simp high] theorem kRes43:resolve (Wk q st v es sn td r) 6 (.obj 43)=some (.cell 43):=rfl
@[simp high] theorem kRes66:resolve (Wk q st v es sn td r) 6 (.obj 66)=some (.cell 66):=rfl
theorem C2{x:Int}:runC u (Wk q st v es sn td r) 43 6 [.int x,.int<|-1] K=K (.int<|bX st.ϳ x) (Wk q st v es sn td r):=by
 show K ((look x<|iv st.ϳ).getD<|.int<|-1) _=_
 rw[look_iv]
 unfold bX
 cases lk x st.ϳ<;>rfl
theorem xM{key:Nat}{w:V}(h:look (key:Int) es=some w):runC u (Wk q st v es sn td r) 66 6 [.int key] K=K w (Wk q st v es sn td r):=by
 show K ((look (key:Int) es).getD<|([]).headD .none) _=_
 rw[h];rfl
theorem r7{key:Nat}{x:Int}(hk:nT v.kp ks es r)(hm:key∈ks)(hv:v.kp key=x): ∃j,look (key:Int) es=some (.obj j)/\eqv (Wk q st v es sn td r) (.obj j) (.lst [.int x])=some true:=by
 refine(hk.1 key hm).elim λj q_=>q_.elim λh1 h2=>?_
 refine⟨j+69,h1,(kX<|RA h2).trans ?_⟩
 rw[hv]
 show some ((x==x)&&true)=_
 simp
theorem P6{kind:Int}{lid:Nat}{w x:D}(h1:kind≠ -2)(h2:lid=0∨0<=bX st.ϳ lid):wX X (k (ifs (P.Is 1<|L 2) (k (ret<|P.C 0 (Tu<|k (L 3)<|k (L 8) z)<|Tu<|k (I 2)<|k (I 0) z) z) z)<|k (ifs (P.C 0 (P.X (L 2)<|I 0)<|Ng<|I 2) (k (ret<|P.C 0 (Tu<|k (L 3)<|k (L 8) z)<|Tu<|k (I 4)<|k (I 0) z) z) z)<|k (asg (L 9)<|M 6 (P.X (L 0)<|Z 40)<|k (P.X (L 2)<|I 1)<|k (Ng<|I 1) z)<|k (ifs (O 1<|k (P.X (L 2)<|I 1)<|k (P.C 2 (L 9)<|I 0) z) (k (ret<|Y 0) z) z) body) (E6 p (.tup [.int kind,.int lid,w,x]) cl a b c e f) (Wk q st v es sn td r) k0=wX X body (E6 p (.tup [.int kind,.int lid,w,x]) cl (some<|.int<|bX st.ϳ lid) b c e f) (Wk q st v es sn td r) k0:=by
 have e1:iw 1 (.tup [.int kind,.int lid,w,x])=false:=rfl
 have e2:=beq_eq_false_iff_ne.mpr h1
 have g {K:KV R}:runC X.k (Wk q st v es sn td r) 43 6 [.int lid,.int<|-1] K=K (.int<|bX st.ϳ lid) (Wk q st v es sn td r):=C2
 by_cases hl:lid=0
 ·have e3:(((lid:Nat):Int) !=0)=false:=by rw[hl];rfl
  simp[e1,e2,g,BN e3,e3]
 ·have e3:=bne_iff_ne.mpr<|Int.ofNat_ne_zero.mpr hl
  simp[e1,e2,g,uz e3,(decide_eq_false<|Ϭ.mpr<|h2.resolve_left hl)]
noncomputable def JO(w:Nat):Int:=if w=12 then 65033 else 65036
noncomputable def Sq(ol:List (Int×Int))(w:Nat):Int:=if w=12 then 0 else bX ol 2
theorem VJ{kind:Int}{lid wv j1 j2:Nat}{x:D}(s1:(cl.sort==1)=true)(h1:look (p:Int) es=some (.obj j1))(h2:eqv (Wk q st v es sn td r) (.obj j1) (.lst [.int<|-1])=some true)(h3:look ((p:Int)+1000) es=some (.obj j2))(h4:eqv (Wk q st v es sn td r) (.obj j2) (.lst [.int jH])=some true):wX X (k (ifs (P.Is 1<|P.X (L 2)<|I 2) (k (ret<|O 1<|k (P.C 0 (Tu<|k (L 3)<|k (L 8) z)<|Tu<|k (I 0)<|k (If (P.C 0 (P.X (L 2)<|I 0)<|Ng<|I 1) (I 12)<|P.X (L 2)<|I 0) z)<|k (P.C 0 (M 6 (P.X (L 0)<|Z 80)<|k (L 1) z)<|Li 0<|k (L 9) z) z) z) z)<|k (ifs (O 0<|k (P.C 1 (L 3)<|I 1)<|k (P.C 1 (M 6 (P.X (L 0)<|Z 80)<|k (L 1) z)<|Li 0<|k (Ng<|I 1) z)<|k (P.C 1 (M 6 (P.X (L 0)<|Z 80)<|k (B 0 (L 1)<|I 1000) z)<|Li 0<|k (L 9) z) z) (k (ret<|Y 0) z) z)<|k (asg (L 10)<|If (P.C 0 (P.X (P.X (L 2)<|I 2)<|I 2)<|I 12) (Tu<|k (I 65033)<|k (I 0) z)<|Tu<|k (I 65036)<|k (M 6 (P.X (L 0)<|Z 40)<|k (I 2)<|k (Ng<|I 1) z) z) body)
 (E6 p (.tup [.int kind,.int lid,pL<|some wv,x]) cl (some<|.int jH) b c e f) (Wk q st v es sn td r) k0=wX X body (E6 p (.tup [.int kind,.int lid,pL<|some wv,x]) cl (some<|.int jH) (some<|.tup [.int<|JO wv,.int<|Sq st.ϳ wv]) c e f) (Wk q st v es sn td r) k0:=by
 have g1 {K:KV R}:runC X.k (Wk q st v es sn td r) 66 6 [.int p] K=K (.obj j1) (Wk q st v es sn td r):=xM h1
 have g2 {K:KV R}:runC X.k (Wk q st v es sn td r) 66 6 [.int<|p+1000] K=K (.obj j2) (Wk q st v es sn td r):=xM h3
 have g3 {K:KV R}:runC X.k (Wk q st v es sn td r) 43 6 [.int 2,.int<|-1] K=K (.int<|bX st.ϳ 2) (Wk q st v es sn td r):=C2
 unfold JO Sq
 by_cases h:wv=12
 ·have e:(((wv:Nat):Int)==12)=true:=by rw[h];rfl
  rw[if_pos h,if_pos h]
  simp[pL,s1,g1,h2,g2,h4,e]
 ·have e:(((wv:Nat):Int)==12)=false:=beq_eq_false_iff_ne.mpr<|tH rfl rfl h
  rw[if_neg h,if_neg h]
  simp[pL,s1,g1,h2,g2,h4,e,g3]
noncomputable abbrev Yk:E:=If (O 1<|k (L 12)<|k (O 0<|k (L 11)<|k (P.C 0 (P.X (L 2)<|I 0)<|Ng<|I 1) z) z) (I 1)<|I 0
theorem VL{kind:Int}{lid w x:D}{su:Bool}{bit:Int}:wE X Yk (E6 p (.tup [.int kind,lid,w,x]) cl a b (some<|.bool su) (some<|.int bit) f) H K=K (.int (if bit !=0&&(su||kind== -1) then 1 else 0)) H:=by
 induction h:(bit !=0) with
 |false=>simp[BN h,h]
 |true=>
  induction su with
  |true=>simp[uz h]
  |false=>induction e:(kind== -1)<;>simp[uz h,e]
noncomputable abbrev P5:E:=k (asg (L 13) Yk)<|k (ifs (P.C 1 (Fn 96<|k (L 0)<|k (L 8)<|k (L 11)<|k (L 12)<|k (L 9)<|k (L 10) z)<|L 13) (k (ret<|Y 0) z) z) z
theorem VK{kind rop rn:Int}{fx:Nat}{lid w x:D}(hf:cl.ex=fx)(F:Oe v.c kind jH rop rn fx){r0:Option R}(hd: ∀y:Option V×Option V×Option V,k0 .next (E6 p (.tup [.int kind,lid,w,x]) cl (some<|.int jH) (some<|.tup [.int rop,.int rn]) y.1 y.2.1 y.2.2) (Wk q st v es sn td r)=r0)(y:Option V×Option V×Option V):lq (Tu<|k (L 11)<|k (L 12) z) (wX ⟨Μ,Β Μ (n+1) false,false⟩ P5) (E6 p (.tup [.int kind,lid,w,x]) cl (some<|.int jH) (some<|.tup [.int rop,.int rn]) y.1 y.2.1 y.2.2) k0 [.tup [.bool true,.int 0],.tup [.bool true,.int 1],.tup [.bool true,.int 2],.tup [.bool false,.int 2]] none (Wk q st v es sn td r)=r0:=by
 have one (su:Bool) (i:Nat) (y:Option V×Option V×Option V):turn (Tu<|k (L 11)<|k (L 12) z) (wX ⟨Μ,Β Μ (n+1) false,false⟩ P5) (.tup [.bool su,.int i]) (E6 p (.tup [.int kind,lid,w,x]) cl (some<|.int jH) (some<|.tup [.int rop,.int rn]) y.1 y.2.1 y.2.2) (Wk q st v es sn td r)=some (.next,E6 p (.tup [.int kind,lid,w,x]) cl (some<|.int jH) (some<|.tup [.int rop,.int rn]) (some<|.bool su) (some<|.int i)<|some<|.int (if(i:Int) !=0&&(su||kind== -1) then 1 else 0),Wk q st v es sn td r):=by
  refine x_1.trans<|x_asg.trans<|VL.trans ?_
  obtain⟨m,hm,r1⟩:=Gq F<|Ϧ i
  rw[show(if 0<(i:Int)/\(su=true∨kind= -1) then(1:Int) else 0)=if(i:Int) !=0&&(su||kind== -1) then 1 else 0 from ite_congr (propext (by simp[Nat.pos_iff_ne_zero])) (λ_=>rfl) λ_=>rfl] at r1
  generalize(if(i:Int) !=0&&(su||kind== -1) then(1:Int) else 0)=y at r1
  have ca {K:KV (Fl×Env×Hp)}:un (Β Μ (n+1) false 96 [.obj 65,.int fx,.bool su,.int i,.int jH,.tup [.int rop,.int rn]]<|Wk q st v es sn td r) K=K (.int y) (Wk q st v es sn td r):=Ga rfl r1 hm
  rw[<-hf] at ca
  simp[ca,beq_self_eq_true y]
 exact yJ (eW.mpr ⟨λy=>⟨(_,_,_),one true 0 y⟩,eW.mpr ⟨λy=>⟨(_,_,_),one true 1 y⟩,eW.mpr ⟨λy=>⟨(_,_,_),one true 2 y⟩,eW.mpr ⟨λy=>⟨(_,_,_),one false 2 y⟩,λ_ h=>absurd h ϑ⟩⟩⟩⟩) hd y
theorem BQ{row:Option Row}(hc:v.cls=st.clauses)(hk:nT v.kp ks es r)(hp:v.cls[p]? =some cl)(h:tQ v ks st.ϳ p cl row):un (Β Μ (n+2) false 98 [.obj 65,.int p,.d<|qx row]<|Wk q st v es sn td r) K=K (.bool true) (Wk q st v es sn td r):=by
 refine go rfl rfl<|(VI hc hp).trans ?_
 have e0 (r:Row):qx (some r)= .tup [.int r.kind,.int r.lid,pL r.wh,r.b]:=rfl
 have e1 (r:Row):iw 1 (.tup [.int r.kind,.int r.lid,pL r.wh,r.b])=false:=rfl
 induction h with
 |YK h1 h2=>
  have e:iL (.tup [.int 2,.int 0]) (.tup [.int 2,.int 0])=some true:=rfl
  have e1:iw 1 (.d<|qx none)=true:=rfl
  simp[h1,h2,e1,e]
 |tL h1 h2 h3=>
  have e:iL (.tup [.int 4,.int 0]) (.tup [.int 4,.int 0])=some true:=rfl
  have e2:((-2:Int)== -2)=true:=rfl
  simp[h1,h2,h3,e0,e1,e,e2]
 | @YO row h1 h2 h3 hw s0 sx kp=>
  rw[e0,hw]
  obtain⟨j,j1,j2⟩:=r7 (q:=q) (st:=st) (sn:=sn) (td:=td) hk h3 kp
  refine(P6 h1 h2).trans ?_
  have ee (x:Int):iL (.tup [.int 0,.int x]) (.tup [.int 0,.int x])=some true:=congrArg some<|((Bool.true_and _).trans<|ri _).trans<|beq_self_eq_true x
  have g {K:KV (V×Hp)}:=xM (q:=q) (st:=st) (v:=v) (sn:=sn) (td:=td) (r:=r) (u:=false) (K:=K) j1
  have sx:cl.ex=if row.kind== -1 then 12 else row.kind:=sx.trans (by unfold nE;simp)
  revert sx
  induction e3:(row.kind==(-1:Int))<;>intro sx<;>simp[pL,s0,sx,e3,ee,g,j2]
 | @Au row w f h1 h2 h3 hw s1 k1 k2 k3 fx F=>
  rw[e0,hw]
  obtain⟨j1,a1,a2⟩:=r7 (td:=td) hk h3 k1
  obtain⟨j2,b1,b2⟩:=r7 (q:=q) (st:=st) (sn:=sn) (td:=td) hk k2 k3
  refine(P6 h1 h2).trans<|(VJ (beq_iff_eq.mpr s1) a1 a2 b1 b2).trans ?_
  exact x_1.trans<|VK fx F (λ_=>by simp) (none,none,none)
end
end J.Internal
namespace J.Internal
open P
noncomputable def W2(rows:List D)(dt:List (List D×V))(a b c:List D):List PO:=[.at [(57,.ins 0 1),(73,.obj 7),(72,.obj 8),(71,.obj 9),(70,.obj 10),(69,.obj 11),(68,.int 0)],
 .at [(5,.obj 2),(4,.obj 3),(3,.obj 4),(2,.obj 5),(0,.obj 6)],.list rows,.dt dt,.list a,.list b,.list c,.vl [.none],.vl [.none],.vl [.none],.di [],.list []]
noncomputable def iA(k:Nat):Hp:=⟨True,W2 (qZ.take k) (Yo.take k) (Ω k<|.int 1) (Ω k<|.int 1)<|(Ω 17 (D.int 0)++[D.int 1,D.int 1,D.int 0]).take k⟩
variable [Key]
inductive Start(Μ:List Int)(n:Nat):Prop
 |mk (store:Β Μ (n+10) true 81 [.ins 18 0] ⟨True,[.at []]⟩=some (.none,iA 16)) (first:Β Μ (n+10) true 9 [.ins 0 1,.int 70,.tup []] (iA 16)=some (.int 16,iA 17)) (mv:Β Μ (n+10) true 11 [.ins 0 1,.int 0] (iA 17)=some (.int 17,iA 18)) (va:Β Μ (n+10) true 10 [.ins 0 1,.int 0] (iA 18)=some (.int 18,iA 19)) (last:Β Μ (n+10) true 9 [.ins 0 1,.int 71,.tup []] (iA 19)=some (.int 19,iA 20))
section
variable{R:Type}{K:KV R}{k0:KS R}{u:Bool}{Μ:List Int}{n:Nat}{x0:Int}{rest:List Int}{l:List D}{H:Hp}{body:E}{a b c d e f g h i j b1 b2 b3 b4 b5:Option V}{X:Cx}
noncomputable def fill:List Int:=[5,5,20,2,18,5,18,0,2,0,0,42,0,0,3,16]
noncomputable def pad(Μ:List Int):List Int:=Μ.take 16++fill.drop (Μ.take 16).length
noncomputable abbrev fX(v1 v2 v3 v4 v5 v6 v7 v8 v9 va vb vc vd ve vf:Option V):Env:=[some .Μ,v1,v2,v3,v4,v5,v6,v7,v8,v9,va,vb,vc,vd,ve,vf]
theorem Zz{f:Run R (KV R)}{s:List Int}{v:V}:Ry f s K v H=f H (C5 s v K):=rfl
theorem RD{C:Call}{b0:Bool}:wX ⟨Μ,C,b0⟩ (k (asg (L 1)<|Bu 1<|P.St (L 0)<|I 16)<|k (asg (L 1)<|B 0 (L 1)<|Bu 1<|Sf 1 (Gx 5)<|Bu 0<|L 1)<|body) (fX none a b c d e f g h i j b1 b2 b3 b4) ⟨True,[]⟩ k0=wX ⟨Μ,C,b0⟩ body (fX (some<|.lst<|(pad Μ).map .int) a b c d e f g h i j b1 b2 b3 b4) ⟨True,[]⟩ k0:=by
 obtain⟨s,hs⟩: ∃s,s=Μ.take 16:=⟨_,rfl⟩
 have e1 {K:KV R} {H:Hp}:C5 Μ .Μ K (.int 16) H=K (.lst<|s.map .int) H:=by
  show K (.lst<|(Μ.map D.int).take 16) ((H.ϴ<|jK 16).ϴ<|((Μ.map D.int).take 16).length<=big)=_
  rw[bJ<|show jK 16 by decide,bJ<|η (jT ..) (by decide),hs,List.map_take]
 have l1:s.length<=16:=by rw[hs];exact jT ..
 have e2 {l:List Int} {K:KV R} {H:Hp} (h:l.length<=16):builtin 1 (.lst<|l.map .int) H K=K (.lst<|l.map .int) H:=by
  show K (.lst<|l.map .int) (H.ϴ<|(l.map D.int).length<=big)=_
  rw[ς,bJ<|η h (by decide)]
 have e3 {l:List Int} {K:KV R} {H:Hp} (h:l.length<=16):builtin 1 (.tup<|l.map .int) H K=K (.lst<|l.map .int) H:=by
  show K (.lst<|l.map .int) (H.ϴ<|(l.map D.int).length<=big)=_
  rw[ς,bJ<|η h (by decide)]
 have e4 {K:KV R} {H:Hp}:AD 1 (qs 5) K (.int s.length) H=K (.tup<|(fill.drop s.length).map .int) H:=by
  show(if 0<=(s.length:Int)/\(s.length:Int)<=((fill.map D.int).length:Nat) then K (.tup<|(fill.map D.int).drop (s.length:Int).toNat) H else none)=_
  rw[if_pos ⟨Ϧ _,vz.mpr l1⟩,ϡ,List.map_drop]
 have l2:(fill.drop s.length).length<=16:=by rw[m7];exact qH _ _
 have ep:pad Μ=s++fill.drop s.length:=by unfold pad;rw[hs]
 rw[ep]
 obtain⟨d',hd⟩: ∃d',d'=fill.drop s.length:=⟨_,rfl⟩
 rw[<-hd] at e4 l2⊢
 simp[Zz,e1,e2 l1,e4,e3 l2]
 rw[BA (by rw[<-Ξ,ς,θ];exact η (cL l1 l2) (by decide))]
 simp
theorem WR:AA X 18 K [] H=un (X.C 81 [.ins 18 H.c.length]<|H.new<|.at []) (Ju 18 H.c.length K):=rfl
@[simp high] theorem kin_{c n:Nat}:Ju c n K .none H=K (.ins c n) H:=rfl
@[simp high] theorem nw_{c:Nat}{l:E}{env:Env}:wE X (Nw c l) env H K=wL X l env H (AA X c K):=rfl
@[simp high] theorem pK57{k:Nat}:ϸ (iA k) 57 (.ins 18 0)=some (.ins 0 1):=rfl
@[simp high] theorem new0{o:PO}:(⟨True,[]⟩:Hp).new o=⟨True,[o]⟩:=rfl
theorem Zy{x:D}{l:List D}(h:l.length<=big):AD 1 (.lst<|x::l) K (.int 1) H=K (.obj H.c.length) (H.new<|.list l):=by
 show K (.obj H.c.length) (((H.ϴ<|jK 1).ϴ<|l.length<=big).new<|.list l)=_
 rw[bJ<|show jK 1 by decide,bJ h]
noncomputable abbrev gI(x:Int):Bool:=x%2 !=0
theorem RE(hs:Start Μ n)(hl:rest.length<=100):wX ⟨Μ,Β Μ (n+10) true,true⟩ (k (asg (L 2)<|Nw 18 z)<|k (asg (L 3)<|Fn 9<|k (A 57<|L 2)<|k (I 70)<|k (Tu z) z)<|k (asg (L 4)<|Li 0<|k (Fn 11<|k (A 57<|L 2)<|k (I 0) z)<|k (Fn 10<|k (A 57<|L 2)<|k (I 0) z) z)<|k (asg (L 5)<|Tu<|k (I 0)<|k (I 9)<|k (I 1)<|k (I 7)<|k (I 13)<|k (L 3)<|k (P.X (L 4)<|I 0)<|k (I 12)<|k (L 3)<|k (Fn 9<|k (A 57<|L 2)<|k (I 71)<|k (Tu z) z)<|k (P.X (L 4)<|I 0)<|k (P.X (L 4)<|I 1)<|k (I 1)<|k (P.X (L 4)<|I 1) z)<|k (asg (L 6)<|Dc 1 [74,54,75,76]<|k (Sf 1 (L 1)<|I 1)<|k (I 0)<|k (L 5)<|k (B 5 (P.X (L 1)<|I 0)<|I 2) z)<|body) (fX (some<|.lst<|.int x0::rest.map .int) none none none none none g h i j b1 b2 b3 b4 b5) ⟨True,[]⟩ k0=
 wX ⟨Μ,Β Μ (n+10) true,true⟩ body (fX (some<|.lst<|.int x0::rest.map .int) (some<|.ins 18 0) (some<|.int 16) (some<|.lst [.int 17,.int 18]) (some<|.tup kinds) (some<|.obj 13) g h i j b1 b2 b3 b4 b5) (Bh (gI x0) ⟨rest,0⟩ []) k0:=by
 have hl:(rest.map D.int).length<=big:=by rw[ς];exact η hl (by decide)
 have e5 {K:KV R} {H:Hp}:bA 5 (.int x0) K (.int 2) H=K (.int<|x0%2) H:=Kz (by decide) (by decide)
 simp[WR,uc hs.1,uc hs.2,uc hs.3,uc hs.4,uc hs.5,Zy hl,e5]
 have eg:x0%2=if gI x0 then 1 else 0:=by
  unfold gI
  rcases Int.emod_two_eq x0 with h|h<;>rw[h]<;>rfl
 rw[eg]
 rfl
end
end J.Internal
namespace J.Internal
open P
noncomputable def q9(fns vars:List V):List PO:=[.at [(37,.ins 18 0),(36,.int 0),(35,.obj 15),(34,.obj 16),(33,.obj 17),(32,.ins 2 18),(31,.obj 20),(30,.obj 21),(29,.obj 22)],
 .vl fns,.vl vars,.di [],.at [(5,.obj 19)],.list [],.di [],.di [],.di []]
noncomputable def Zd(ret:Int)(lids:List D):List PO:=[.at [(28,.int 1),(27,.int 0),(26,.obj 24),(25,.obj 25),(24,.int<|-1),(9,.int ret),(23,.none),(22,.int 0),(21,.int 0),(20,.int<|-1),(19,.int 0)],.list lids,.list []]
noncomputable def AJ(q:Fx):List PO:=(pre q).take 14
noncomputable def Hv(q:Fx)(ret:Int)(m:Nat):Hp:=⟨True,AJ q++q9 [.none,.ins 4 23] (.none::(ϗ m).map λi=>.ins 3<|26+i)++Zd ret ((ϗ m).map λ(i:Nat)=>.int<|(i:Int)+1)++(ϗ m).map λi=>lG<|i+1⟩
noncomputable def An(q:Fx)(a b c:List (Int×V))(s:List PO):Hp:=⟨True,pre q++ .at (Yp St.init):: .list []:: .di []:: .list []:: .di []:: .di a:: .di []:: .list []:: .list []:: .di []:: .di b:: .di []:: .di []:: .di []:: .di c::s⟩
variable [Key]
inductive g9(Μ:List Int)(n:Nat)(q:Fx):Prop
 |mk (unit:Β Μ (n+10) true 24 [.ins 5 14,.ins 18 0,.int 0] ⟨True,AJ q++[.at []]⟩=some (.none,⟨True,AJ q++q9 [.none] [.none]⟩)) (fn:Β Μ (n+10) true 25 [.ins 5 14,.int 0,.int 0,.int 0] ⟨True,AJ q++q9 [.none] [.none]⟩=some (.int 1,Hv q 0 0)) (var: ∀m:Nat,m<13->Β Μ (n+10) true 26 [.ins 5 14,.int 1,.d<|.str 82,.int<|kd<|m+1,.int 0] (Hv q (if q.g then 13 else 0) m)=some (.int<|(m:Int)+1,Hv q (if q.g then 13 else 0)<|m+1)) (emi:Β Μ (n+10) true 27 [em,.ins 5 14,.ins 4 23] ⟨True,pre q++[.at []]⟩=some (.none,An q [] [] [] [])) (inst:Β Μ (n+10) true 72 [em] (An q [(12,.int 0)] [(2,.ins 17 54)] [] [.at []])=some (.none,W q St.init []))
section
variable{R:Type}{K:KV R}{k0:KS R}{u:Bool}{Μ:List Int}{n m:Nat}{x0:Int}{q:Fx}{l:List D}{H:Hp}{body:E}{a b c d e f g h i j b1 b2 b3 b4 b5:Option V}{X:Cx}{t:D}{ret:Int}
theorem YL{c:Nat}{f:Nat}(h:dZ c=some f){l:List V}:AA X c K l H=un (X.C f (.ins c H.c.length::l)<|H.new<|.at []) (Ju c H.c.length K):=by
 show(match dZ c with
  |some f=>un (X.C f (.ins c H.c.length::l) (H.new (.at []))) (Ju c H.c.length K)|none=>_)=_
 rw[h]
theorem Zs{f:Run R (KV R)}{z:KI R}{v:V}:UO f z v H=f H (Jv v z):=rfl
theorem Zk:Hv q (if q.g then 13 else 0) 13=⟨True,pre q⟩:=rfl
theorem Ma{H:Hp}{i:Nat}(h:i<=13):ϩ H (.tup kinds) (.int (i:Int))=some (.int<|kd i):=by
 rw[ixTI,oU h];rfl
noncomputable abbrev XH:E:=k (ex<|Fn 26<|k (L 8)<|k (I 1)<|k (Z 82)<|k (P.X (L 5)<|L 10)<|k (I 0) z) z
noncomputable abbrev vE(a b c t:Option V)(m:Nat)(b1 b2 b3 b4 b5:Option V):Env:=fX a (some<|.ins 18 0) b c (some<|.tup kinds) (some<|.obj 13) t (some<|.ins 5 14) (some<|.ins 4 23) (if m=0 then none else some (.int m)) b1 b2 b3 b4 b5
theorem C_(hs:g9 Μ n q){k0:KS R}:lq (L 10) (wX ⟨Μ,Β Μ (n+10) true,true⟩ XH) (vE a b c d 0 b1 b2 b3 b4 b5) k0 (Ϫ 1 14) none (Hv q (if q.g then 13 else 0) 0)=k0 .next (vE a b c d 13 b1 b2 b3 b4 b5) (Hv q (if q.g then 13 else 0) 13):=by
 refine(Jd (m:=13) (f:=λj=>D.int<|1+(j:Int)) (en:=λm=>vE a b c d m b1 b2 b3 b4 b5) (hp:=λm=>Hv q (if q.g then 13 else 0) m) (λi m=>m=i) (λ_ _ _ _=>rfl) (λi m hi e=>?_) 13 0 0 rfl rfl).casesOn λm e h=>e▸h
 subst e
 have e0:(1:Int)+(m:Int)=((m+1:Nat):Int):=Of ..
 refine⟨.next,m+1,rfl,.inl rfl,?_⟩
 rw[bT,e0]
 show wX _ _ (vE a b c d (m+1) b1 b2 b3 b4 b5) _ _=_
 have e2 {H:Hp}:ϩ H (.tup kinds) (.int<|(m:Int)+1)=some (.int<|kd<|m+1):=Ma (i:=m+1) hi
 simp[e2,uc<|hs.3 m hi]
theorem RO{env:Env}{x y:Nat}(h:env[6]? =some (some<|.obj 13))(h1:H.get 13=We q):wE X (If (P.X (L 6)<|Z 76) (I x)<|I y) env H K=K (.int (if q.g then x else y)) H:=by
 have e1:ϩ H (.obj 13) (.d<|.str 76)=some (.int (if q.g then 1 else 0)):=by
  exact congrArg (GH<|.str 76) h1
 have e2:H.get 13= .ds [(74,.obj 12),(54,.int q.lb),(75,.tup kinds),(76,.int (if q.g then 1 else 0))]:=h1
 have e3:((if q.g then(1:Int) else 0) !=0)=q.g:=by cases q.g<;>rfl
 simp[h,e2,e1,e3]
 cases q.g<;>simp
theorem RH(hs:g9 Μ n q):wX ⟨Μ,Β Μ (n+10) true,true⟩ (k (asg (L 8)<|Nw 5<|k (L 2)<|k (I 0) z)<|k (asg (L 9)<|P.X (A 35<|L 8)<|Fn 25<|k (L 8)<|k (I 0)<|k (I 0)<|k (I 0) z)<|k (asg (A 9<|L 9)<|If (P.X (L 6)<|Z 76) (I 13)<|I 0)<|k (P.fr (L 10) (Ra (I 1)<|I 14)<|k (ex<|Fn 26<|k (L 8)<|k (I 1)<|k (Z 82)<|k (P.X (L 5)<|L 10)<|k (I 0) z) z)<|body) (fX a (some<|.ins 18 0) b c (some<|.tup kinds) (some<|.obj 13) d none none none b1 b2 b3 b4 b5) ⟨True,AJ q⟩ k0=
 wX ⟨Μ,Β Μ (n+10) true,true⟩ body (fX a (some<|.ins 18 0) b c (some<|.tup kinds) (some<|.obj 13) d (some<|.ins 5 14) (some<|.ins 4 23) (some<|.int 13) b1 b2 b3 b4 b5) ⟨True,pre q⟩ k0:=by
 have e1:(⟨True,AJ q⟩:Hp).new (.at [])=⟨True,AJ q++[.at []]⟩:=rfl
 have e2:(⟨True,AJ q⟩:Hp).c.length=14:=rfl
 have e3:ϸ ⟨True,AJ q++q9 [.none] [.none]⟩ 35 (.ins 5 14)=some (.obj 15):=rfl
 have e6:(Hv q 0 0).get 13=We q:=rfl
 have e8 (x:Int):setattr true (Hv q 0 0) 9 (.int x) (.ins 4 23)=some (Hv q x 0):=rfl
 have lv {k0:KS R}:=C_ (R:=R) (a:=a) (b:=b) (c:=c) (d:=d) (b1:=b1) (b2:=b2) (b3:=b3) (b4:=b4) (b5:=b5) (k0:=k0) hs
 have sm:jK 1/\jK 14:=by decide
 have p1: ∀body,wX ⟨Μ,Β Μ (n+10) true,true⟩ (k (asg (L 8)<|Nw 5<|k (L 2)<|k (I 0) z)<|k (asg (L 9)<|P.X (A 35<|L 8)<|Fn 25<|k (L 8)<|k (I 0)<|k (I 0)<|k (I 0) z)<|body) (fX a (some<|.ins 18 0) b c (some<|.tup kinds) (some<|.obj 13) d none none none b1 b2 b3 b4 b5) ⟨True,AJ q⟩ k0=wX ⟨Μ,Β Μ (n+10) true,true⟩ body (vE a b c d 0 b1 b2 b3 b4 b5) (Hv q 0 0) k0:=λbody=>by
  simp[YL (c:=5) rfl,e1,e2,uc hs.1,e3,uc hs.2,(rfl:(Hv q 0 0).get 15= .vl [.none,.ins 4 23]),(rfl:ϩ (Hv q 0 0) (.obj 15) (.int 1)=some (.ins 4 23))]
  rfl
 have p2: ∀body,wX ⟨Μ,Β Μ (n+10) true,true⟩ (k (asg (A 9<|L 9)<|If (P.X (L 6)<|Z 76) (I 13)<|I 0) body) (vE a b c d 0 b1 b2 b3 b4 b5) (Hv q 0 0) k0=wX ⟨Μ,Β Μ (n+10) true,true⟩ body (vE a b c d 0 b1 b2 b3 b4 b5) (Hv q (if q.g then 13 else 0) 0) k0:=λbody=>by
  refine x_1.trans<|x_asg.trans<|(RO rfl e6).trans ?_
  simp[e8]
 refine(p1 _).trans<|(p2 _).trans ?_
 simp[Zs]
 rw[JL sm]
 refine(lv (k0:=pX (wX ⟨Μ,Β Μ (n+10) true,true⟩ body) k0)).trans ?_
 rfl
theorem DZ{j:Nat}{i:Int}{w:V}{es:List (Int×V)}(h:H.get j= .di es)(h1:es.length<big)(h2:look i es=none):bF true H (.obj j) (.int i) w=some (H.put j<|.di<|es++[(i,w)]):=by
 have m:may true w=true:=by induction w<;>rfl
 refine(ϥ _).trans ?_
 rw[m]
 refine(show _=Fc H j (.int i) w (H.get j) from rfl).trans<|(congrArg (Fc H j (.int i) w) h).trans ?_
 exact congrArg (λz=>some<|Hp.put z j<|.di<|es++[(i,w)])<|bJ (H:=H) (p:=es.length<big/\look i es=none) ⟨h1,h2⟩
theorem WQ:AA X 17 K [] H=K (.ins 17 H.c.length) (H.new<|.at []):=rfl
theorem RI(hs:g9 Μ n q){w:Option V}:wX ⟨Μ,Β Μ (n+10) true,true⟩ (k (asg (L 11)<|Nw 6<|k (L 8)<|k (L 9) z)<|k (asg (P.X (A 50<|L 11)<|I 12)<|I 0)<|k (asg (P.X (A 42<|L 11)<|I 2)<|Nw 17 z)<|k (ex<|Fn 72<|k (L 11) z)<|body) (fX a (some<|.ins 18 0) b c (some<|.tup kinds) (some<|.obj 13) d (some<|.ins 5 14) (some<|.ins 4 23) w none b2 b3 b4 b5) ⟨True,pre q⟩ k0=
 wX ⟨Μ,Β Μ (n+10) true,true⟩ body (fX a (some<|.ins 18 0) b c (some<|.tup kinds) (some<|.obj 13) d (some<|.ins 5 14) (some<|.ins 4 23) w (some em) b2 b3 b4 b5) (W q St.init []) k0:=by
 have e1:(⟨True,pre q⟩:Hp).new (.at [])=⟨True,pre q++[.at []]⟩:=rfl
 have e2:(⟨True,pre q⟩:Hp).c.length=39:=rfl
 have e3:ϸ (An q [] [] [] []) 50 em=some (.obj 44):=rfl
 have e4:bF true (An q [] [] [] []) (.obj 44) (.int 12) (.int 0)=some (An q [(12,.int 0)] [] [] []):=DZ (es:=[]) rfl (by decide) rfl
 have e5:(An q [(12,.int 0)] [] [] []).new (.at [])=An q [(12,.int 0)] [] [] [.at []]:=rfl
 have e6:(An q [(12,.int 0)] [] [] []).c.length=54:=rfl
 have e7:ϸ (An q [(12,.int 0)] [] [] [.at []]) 42 em=some (.obj 49):=rfl
 have e8:bF true (An q [(12,.int 0)] [] [] [.at []]) (.obj 49) (.int 2) (.ins 17 54)=some (An q [(12,.int 0)] [(2,.ins 17 54)] [] [.at []]):=DZ (es:=[]) rfl (by decide) rfl
 simp[YL (c:=6) rfl,e1,e2,uc hs.4,e3,e4,WQ,e5,e6,e7,e8,uc hs.5]
end
end J.Internal
namespace J.Internal
open P
noncomputable def St.wd(st:St)(g:Bool)(kp:Nat->Int):WD:=⟨st.sc,st.clauses,st.locals,λi=>partsFrom 0 i st.clauses,if g then [.v 13] else [],kp⟩
noncomputable def mU(g:Bool):Int:=if g then 1 else 0
inductive qC(g:Bool)(t:Tr)(st:St)(kp:Nat->Int)(roots:List Nat)(dep:Nat->Int)(Al:Nat->List Slot->Prop)(nt:Nat->Nat->Prop)(rows:List (Option Row)):Prop
 |mk (wf: ∃(z:Int)(m:Nat),Ws g (.s false false) [] 0 z 63 m t) (es:st=oF g t) (io: ∀i∈st.code,yk st i) (ww:WW (st.wd g kp) st roots (mU g) dep Al nt) (dk:Oc st.sc st.clauses roots dep (mU g)) (want:fL t=rows.map qx) (len:rows.length=st.clauses.length) (cl: ∀(ks:List Nat),(∀i key,eS st.sc roots i->nt i key->key∈ks)->∀(p:Nat)(cl:Cl)(row:Option Row),st.clauses[p]? =some cl->rows[p]? =some row->tQ (st.wd g kp) ks st.ϳ p cl row)
variable [Key]
section
variable{R:Type}{K:KV R}{k0:KS R}{u:Bool}{Μ:List Int}{n m:Nat}{x0:Int}{r:List D}{lb:Int}{g:Bool}{st:St}{t:Tr}{l:List D}{H:Hp}{body:E}{a b c d e f h i j b1 b2 b3 b4 b5 w:Option V}{X:Cx}{kp:Nat->Int}{roots:List Nat}{dep:Nat->Int}{Al:Nat->List Slot->Prop}{nt:Nat->Nat->Prop}{rows:List (Option Row)}
theorem M8{j k:Nat}{w:V}{es:List (Nat×V)}(h:H.get j= .ds es)(h1:es.length<big):bF true H (.obj j) (.d<|.str k) w=some (H.put j<|.ds<|put k w es):=by
 have m:may true w=true:=by induction w<;>rfl
 refine(ϥ _).trans ?_
 rw[m]
 refine(show _=Fc H j (.str k) w (H.get j) from rfl).trans<|(congrArg (Fc H j (.str k) w) h).trans ?_
 exact congrArg (λz=>some<|Hp.put z j<|.ds<|Internal.put k w es)<|bJ (H:=H) h1
noncomputable def UK(c:List D):List (Nat×V):=[(55,.lst c),(48,.obj 46),(83,.obj 42),(81,.lst [.int 17,.int 18]),(88,.int 16)]
theorem RJ(lo:qC g t st kp roots dep Al nt rows)(hd:63<=n+9):wX ⟨Μ,Β Μ (n+10) true,true⟩ (k (ex<|Fn 71<|k (L 11)<|k (L 7) z)<|k (asg (L 12)<|Dc 1 [55,48,83,81,88]<|k (Fn 97<|k (L 11) z)<|k (A 48<|L 11)<|k (A 52<|L 11)<|k (L 4)<|k (L 3) z)<|body) (fX a (some<|.ins 18 0) (some<|.int 16) (some<|.lst [.int 17,.int 18]) c d (some<|.d t.dv) e f w (some em) none b3 b4 b5) (W ⟨g,r,lb⟩ St.init []) k0=
 wX ⟨Μ,Β Μ (n+10) true,true⟩ body (fX a (some<|.ins 18 0) (some<|.int 16) (some<|.lst [.int 17,.int 18]) c d (some<|.d t.dv) e f w (some em) (some<|.obj 65) b3 b4 b5) (W ⟨g,r,lb⟩ st [.ds<|UK<|f_ st.sc]) k0:=by
 have e1 {K:KV R}:un (Β Μ (n+10) true 71 [em,.d t.dv]<|W ⟨g,r,lb⟩ St.init []) K=K .none (W ⟨g,r,lb⟩ st []):=by
  rw[cu (f:=71) rfl,lo.2]
  refine lo.1.elim λz q_=>q_.elim λm w=>?_
  exact uC (n:=n+6) w hd
 have e2 {K:KV R}:un (Β Μ (n+10) true 97 [em]<|W ⟨g,r,lb⟩ st []) K=K (.lst<|f_ st.sc) (W ⟨g,r,lb⟩ st []):=by
  rw[cu (f:=97) rfl]
  refine Ah lo.3 ?_
  have:=lo.4.4
  have h:(st.wd g kp).c.length=st.code.length:=ς ..
  rw[h] at this
  exact η this (by decide)
 simp[e1,e2]
 rfl
noncomputable def Lu(st:St):D->D
 | .int i=>.lst<|(partsFrom 0 i st.clauses).map iI
 |x=>x
theorem GZ{q:Fx}{s:List PO}{X1:Cx}{f:Env->Run (Option D×Hp) (KV<|Option D×Hp)}{env:Env}(sz:st.code.length<=big)(h: ∀i:Nat,(ob (rY 1 0 env<|.int i) λe=>wC X1 z e (W q st s)<|qt<|f e)=some (some<|Lu st<|.int i,W q st s)):CZ f (wC X1 z) 1 0 env K (Ϫ 0 st.code.length) none (W q st s)=K (.lst<|(ϗ st.sc.length).map λ(i:Nat)=>.lst<|(partsFrom 0 i st.clauses).map iI) (W q st s):=by
 refine(C0 (gq:=Lu st) (λx mx=>?_) (by rw[aa,ς,ϲ];exact sz)).trans ?_
 ·rw[aa] at mx
  obtain⟨i,_,rfl⟩:=Ϗ.mp mx
  exact h i
 ·rw[aa,Ϲ,show st.sc.length=st.code.length from ς ..]
  rfl
theorem RK(lo:qC g t st kp roots dep Al nt rows)(h6:d=some (.obj 13)):wX ⟨Μ,Β Μ (n+10) true,true⟩ (k (asg (P.X (L 12)<|Z 77)<|Co 1 0 (Fn 88<|k (A 48<|L 11)<|k (L 16) z) (Rl<|A 55<|L 11) z)<|k (asg (P.X (L 12)<|Z 80)<|Dc 0 [] z)<|k (asg (P.X (L 12)<|Z 40)<|A 51<|L 11)<|k (asg (P.X (L 12)<|Z 89)<|If (P.X (L 6)<|Z 76) (Li 0<|k (Tu<|k (Z 82)<|k (I 13) z) z)<|Li 0 z)<|body) (fX a b1 (some<|.int 16) (some<|.lst [.int 17,.int 18]) c d b e f w (some em) (some<|.obj 65) b3 b4 b5) (W ⟨g,r,lb⟩ st [.ds<|UK<|f_ st.sc]) k0=
 wX ⟨Μ,Β Μ (n+10) true,true⟩ body (fX a b1 (some<|.int 16) (some<|.lst [.int 17,.int 18]) c d b e f w (some em) (some<|.obj 65) b3 b4 b5) (W ⟨g,r,lb⟩ st [.ds<|wD<|st.wd g kp,.di []]) k0:=by
 have sz:st.code.length<=big:=by
  have:=lo.4.4
  have h:(st.wd g kp).c.length=st.code.length:=ς ..
  rw[h] at this
  exact η this (by decide)
 have e1 {K:KI R} {s:List PO}:C4 K (.obj 40) (W ⟨g,r,lb⟩ st s)=K (Ϫ 0 st.code.length) none (W ⟨g,r,lb⟩ st s):=by
  rw[W5 g40,ς]
 have e2 {K:KV (Option D×Hp)} {s:List PO} (i:Nat):un (Β Μ (n+10) true 88 [.obj 46,.int i]<|W ⟨g,r,lb⟩ st s) K=K (.d<|Lu st<|.int i) (W ⟨g,r,lb⟩ st s):=by
  rw[cu (f:=88) rfl,Gd,zE]
  ·rfl
  ·rw[ς];exact lo.4.7 i
 simp[h6,e1]
 refine(GZ sz λi=>?_).trans ?_
 ·simp[rY,nZ,e2]
 obtain⟨P,hP⟩: ∃P,P=(ϗ st.sc.length).map λ(i:Nat)=>D.lst ((partsFrom 0 i st.clauses).map iI):=⟨_,rfl⟩
 rw[<-hP]
 have s1 {es es':List (Nat×V)} {s:List PO} {k:Nat} (v:V) (h:es.length<big) (h2:put k v es=es'):bF true (W ⟨g,r,lb⟩ st<|.ds es::s) (.obj 65) (.d<|.str k) v=some (W ⟨g,r,lb⟩ st<|.ds es'::s):=by
  subst h2;exact M8 rfl h
 have b9: ∀k,k<=9->k<big:=λk h=>Τ h (by decide)
 obtain⟨d1,h1⟩: ∃d1,d1=UK (f_ st.sc)++[(77,V.lst P)]:=⟨_,rfl⟩
 obtain⟨d2,h2⟩: ∃d2,d2=d1++[(80,V.obj 66)]:=⟨_,rfl⟩
 obtain⟨d3,h3⟩: ∃d3,d3=d2++[(40,V.obj 43)]:=⟨_,rfl⟩
 have t2:bF true (W ⟨g,r,lb⟩ st [.ds d1,Ai 0 [] []]) (.obj 65) (.d<|.str 80) (.obj 66)=some (W ⟨g,r,lb⟩ st [.ds d2,.di []]):=s1 _ (h1▸(b9 6 (by decide))) (by rw[h2,h1];rfl)
 have t4:bF true (W ⟨g,r,lb⟩ st [.ds d3,.di []]) (.obj 65) (.d (.str 89)) (.lst ((st.wd g kp).back.map Slot.dv))=some (W ⟨g,r,lb⟩ st [.ds (wD (st.wd g kp)),.di []]):=s1 _ (by rw[h3,h2,h1];exact b9 8 (by decide)) (by
  rw[h3,h2,h1]
  show _=wD _
  unfold wD St.wd
  rw[<-hP];rfl)
 have g13:(W ⟨g,r,lb⟩ st [.ds d3,.di []]).get 13= .ds [(74,.obj 12),(54,.int lb),(75,.tup kinds),(76,.int (if g then 1 else 0))]:=rfl
 have i76:ϩ (W ⟨g,r,lb⟩ st [.ds d3,.di []]) (.obj 13) (.d<|.str 76)=some (.int (if g then 1 else 0)):=rfl
 have e3:((if g then(1:Int) else 0) !=0)=g:=by induction g<;>rfl
 have eb:(st.wd g kp).back.map Slot.dv=if g then [.tup [.str 82,.int 13]] else []:=by unfold St.wd;induction g<;>rfl
 rw[eb] at t4
 simp[(s1 _ (b9 5 (by decide)) (by rw[h1];rfl):bF true (W ⟨g,r,lb⟩ st [.ds<|UK<|f_ st.sc]) (.obj 65) (.d<|.str 77) (.lst P)=some (W ⟨g,r,lb⟩ st [.ds d1])),t2,(s1 _ (by rw[h2,h1];exact b9 7 (by decide)) (by rw[h3,h2,h1];rfl):bF true (W ⟨g,r,lb⟩ st [.ds d2,.di []]) (.obj 65) (.d<|.str 40) (.obj 43)=some (W ⟨g,r,lb⟩ st [.ds d3,.di []])),g13,i76,e3]
 cases g
 ·rw[if_neg ϟ] at t4
  simp[t4]
 ·rw[if_pos rfl] at t4
  simp[t4]
end
end J.Internal
namespace J.Internal
open P
variable [Key]
section
variable{R:Type}{K:KV R}{k0:KS R}{u:Bool}{Μ:List Int}{n m m0:Nat}{x0:Int}{q:Fx}{g:Bool}{st:St}{v:WD}{es sn:List (Int×V)}{td:List D}{r r2:List PO}{t:Tr}{l:List D}{H:Hp}{body:E}{a b c d e e0 f h i j b1 b2 b3 b4 b5 w:Option V}{X:Cx}{kp:Nat->Int}{roots:List Nat}{dep:Nat->Int}{Al:Nat->List Slot->Prop}{nt:Nat->Nat->Prop}{rows:List (Option Row)}{o o':PO}{l2:List V}
theorem vj{j k:Nat}{c:Nat}{x:V}{es:List (Nat×V)}(h:H.get j= .at es)(hm:gT c k=none)(hl:es.length<200):setattr true H k x (.ins c j)=some (H.put j<|.at (put k x es)):=by
 have:may true x=true:=by induction x<;>rfl
 show(match gT c k,may true x with
  |none,true=>UW H j k x<|H.get j
  |_,_=>none)=_
 rw[hm,this,h]
 exact if_pos hl
theorem Jy:(Wk q st v es sn td<|r++[o,o']).get (r.length+70)=o':=by
 have:=j8 (q:=q) (st:=st) (v:=v) (es:=es) (sn:=sn) (td:=td) (r:=r++[o]) (o:=o') (r2:=[])
 rw[Α,θ] at this
 exact this
theorem Jz{o2:PO}:(Wk q st v es sn td<|r++[o,o']).put (r.length+70) o2=Wk q st v es sn td (r++[o,o2]):=by
 have:=mu (q:=q) (st:=st) (v:=v) (es:=es) (sn:=sn) (td:=td) (r:=r++[o]) (o:=o') (r2:=[]) (o':=o2)
 rw[Α,θ,Α] at this
 exact this
noncomputable def Ei(r:List PO)(gv:Int):PO:=.at [(10,.obj<|r.length+69),(9,.int gv)]
theorem B5{gv:Int}:un (Β Μ (n+1) true 13 [.ins 1<|r.length+70,.obj<|r.length+69,.int gv]<|Wk q st v es sn td<|r++[o,.at []]) K=K .none (Wk q st v es sn td<|r++[o,Ei r gv]):=by
 refine qR rfl rfl rfl ?_
 simp[((vj Jy rfl (by decide)).trans (congrArg some Jz):setattr true (Wk q st v es sn td<|r++[o,.at []]) 10 (.obj<|r.length+69) (.ins 1<|r.length+70)=some (Wk q st v es sn td<|r++[o,.at [(10,.obj<|r.length+69)]])),((vj (es:=[(10,.obj<|r.length+69)]) Jy rfl<|show 1<200 by decide).trans (congrArg some Jz):setattr true (Wk q st v es sn td<|r++[o,.at [(10,.obj<|r.length+69)]]) 9 (.int gv) (.ins 1<|r.length+70)=some (Wk q st v es sn td<|r++[o,Ei r gv]))]
theorem RL(lo:qC g t st kp roots dep Al nt rows)(hd:63<=n+10){lb:Int}{rs:List D}: ∃(m:Int)(ks:List Nat)(es sn:List (Int×V))(r:List PO),fS st.sc roots (mU g) dep m/\nT kp ks es r/\(∀i key,eS st.sc roots i->nt i key->key∈ks)/\∀{R:Type}{k0:KS R}{body:E}{a b c d e f h i j b4:Option V},wX ⟨Μ,Β Μ (n+10) true,true⟩ (k (asg (L 13)<|Fn 87<|k (L 7) z)<|k (asg (L 14)<|Fn 95<|k (L 12) z)<|body) (fX a b c d e f (some<|.d t.dv) h i j (some em) (some<|.obj 65) none none b4) (W ⟨g,rs,lb⟩ st [.ds<|wD<|st.wd g kp,.di []]) k0=
 wX ⟨Μ,Β Μ (n+10) true,true⟩ body (fX a b c d e f (some<|.d t.dv) h i j (some em) (some<|.obj 65) (some<|.lst<|fL t) (some<|.int m) b4) (Wk ⟨g,rs,lb⟩ st (st.wd g kp) es sn [] r) k0:=by
 obtain⟨m,ks,es,sn,r,h1,h2,h3,h4⟩:=KR (Μ:=Μ) (n:=n+5) (q:=⟨g,rs,lb⟩) lo.4
 refine⟨m,ks,es,sn,r,h1,h2,h3,λ{R k0 body a b c d e f h i j b4}=>?_⟩
 have e1 {K:KV R} {H:Hp}:un (Β Μ (n+10) true 87 [.d t.dv] H) K=K (.lst<|fL t) H:=by
  refine lo.1.elim λz q_=>q_.elim λm w=>?_
  rw[cu rfl,(T5 w _ hd)]
  refine congrArg (K _)<|bJ ?_
  rw[lo.6,ς,lo.7]
  exact η lo.4.5 (by decide)
 simp[e1,h4]
@[simp high] theorem kA48:ϸ (Wk q st v es sn td r) 48 em=some (.obj 46):=rfl
@[simp high] theorem kG13:(Wk q st v es sn td r).get 13= .ds [(74,.obj 12),(54,.int q.lb),(75,.tup kinds),(76,.int<|mU q.g)]:=rfl
@[simp high] theorem kI76:ϩ (Wk q st v es sn td r) (.obj 13) (.d<|.str 76)=some (.int<|mU q.g):=rfl
theorem WT:AA X 1 K l2 H=un (X.C 13 (.ins 1 H.c.length::l2)<|H.new<|.at []) (Ju 1 H.c.length K):=rfl
theorem RM(lo:qC g t st kp roots dep Al nt rows){ks:List Nat}{m:Int}(im:fS st.sc roots (mU g) dep m)(hk:nT kp ks es r)(hn: ∀i key,eS st.sc roots i->nt i key->key∈ks){lb:Int}{rs:List D}: ∃H',H'.ok=st.ok/\wX ⟨Μ,Β Μ (n+10) true,true⟩ (k (ifs (O 0<|k (P.C 2 (L 14)<|I 0)<|k (P.C 1 (Bu 0<|L 13)<|Bu 0<|A 48<|L 11) z) (k (ret<|Y 0) z) z)<|k (ifs (P.C 1 (Fn 80<|k (P.X (L 12)<|Z 55)<|k (A 48<|L 11)<|k (Nw 1<|k (Dc 0 [] z)<|k (P.X (L 6)<|Z 76) z) z)<|L 14) (k (ret<|Y 0) z) z)<|k (P.fr (L 15) (Rl<|L 13)<|k (ifs (P.Nt<|Fn 98<|k (L 12)<|k (L 15)<|k (P.X (L 13)<|L 15) z) (k (ret<|Y 0) z) z) z)<|k (ret<|Y 1) z) (fX a b c d e0 (some<|.obj 13) (some<|.d t.dv) h i j (some em) (some<|.obj 65) (some<|.lst<|fL t) (some<|.int m) none) (Wk ⟨g,rs,lb⟩ st (st.wd g kp) es sn [] r) (dS true m0)=some (.bool true,H'):=by
 have lw:(fL t).length=st.clauses.length:=by rw[lo.6,ς,lo.7]
 have z0:=decide_eq_false<|Ϭ.mpr im.2
 have z1:(((fL t).length)==(st.clauses.length:Int))=true:=by rw[lw];exact beq_self_eq_true _
 obtain⟨r2,hr⟩: ∃r2,r2=r++[.di [],Ei r<|mU g]:=⟨_,rfl⟩
 have ct {K:KV (V×Hp)}:un (Β Μ (n+10) true 13 [.ins 1<|r.length+70,.obj<|r.length+69,.int<|mU g]<|Wk ⟨g,rs,lb⟩ st (st.wd g kp) es sn []<|r++[Ai 0 [] [],.at []]) K=K .none (Wk ⟨g,rs,lb⟩ st (st.wd g kp) es sn [] r2):=(B5).trans (by subst hr;rfl)
 have ms {K:KV (V×Hp)}:un (Β Μ (n+10) true 80 [.lst<|f_ (st.wd g kp).c,.obj 46,.ins 1<|r.length+70]<|Wk ⟨g,rs,lb⟩ st (st.wd g kp) es sn [] r2) K=K (.int m) (Wk ⟨g,rs,lb⟩ st (st.wd g kp) es sn [] r2):=by
  rw[cu rfl]
  have tc:(Wk ⟨g,rs,lb⟩ st (st.wd g kp) es sn [] r2).c[r.length+70]? =some (Ei r<|mU g):=by
   show r2[r.length+1]? =_
   rw[hr,aA<|ϰ _]
   show [PO.di [],Ei r<|mU g][r.length+1-r.length]? =_
   rw[dz];rfl
  exact uE lo.5 ⟨rfl,_,tc,rfl,rfl⟩ im
 refine⟨Wk ⟨g,rs,lb⟩ st (st.wd g kp) es sn [] r2,rfl,?_⟩
 have p1: ∀body,wX ⟨Μ,Β Μ (n+10) true,true⟩ (k (ifs (O 0<|k (P.C 2 (L 14)<|I 0)<|k (P.C 1 (Bu 0<|L 13)<|Bu 0<|A 48<|L 11) z) (k (ret<|Y 0) z) z)<|body) (fX a b c d e0 (some<|.obj 13) (some<|.d t.dv) h i j (some em) (some<|.obj 65) (some<|.lst<|fL t) (some<|.int m) none) (Wk ⟨g,rs,lb⟩ st (st.wd g kp) es sn [] r) (dS true m0)=wX ⟨Μ,Β Μ (n+10) true,true⟩ body (fX a b c d e0 (some<|.obj 13) (some<|.d t.dv) h i j (some em) (some<|.obj 65) (some<|.lst<|fL t) (some<|.int m) none) (Wk ⟨g,rs,lb⟩ st (st.wd g kp) es sn [] r) (dS true m0):=λbody=>by
  simp
  rw[z0]
  simp[PS k46]
  rw[z1]
  simp
 have p2: ∀body,wX ⟨Μ,Β Μ (n+10) true,true⟩ (k (ifs (P.C 1 (Fn 80<|k (P.X (L 12)<|Z 55)<|k (A 48<|L 11)<|k (Nw 1<|k (Dc 0 [] z)<|k (P.X (L 6)<|Z 76) z) z)<|L 14) (k (ret<|Y 0) z) z)<|body) (fX a b c d e0 (some<|.obj 13) (some<|.d t.dv) h i j (some em) (some<|.obj 65) (some<|.lst<|fL t) (some<|.int m) none) (Wk ⟨g,rs,lb⟩ st (st.wd g kp) es sn [] r) (dS true m0)=wX ⟨Μ,Β Μ (n+10) true,true⟩ body (fX a b c d e0 (some<|.obj 13) (some<|.d t.dv) h i j (some em) (some<|.obj 65) (some<|.lst<|fL t) (some<|.int m) none) (Wk ⟨g,rs,lb⟩ st (st.wd g kp) es sn [] r2) (dS true m0):=λbody=>by
  simp[WT]
  rw[show r.length+1+69=r.length+70 from rfl,ct]
  simp
  rw[ms]
  simp
 refine(p1 _).trans<|(p2 _).trans ?_
 simp
 have hk2:=hr▸hk.app _
 refine yJ (λx hx w=>?_) (λw=>by simp) none
 ·refine(mV hx).elim λp q_=>⟨some<|.int p,?_⟩
  have hp:=q_.1
  rw[q_.2,bT]
  rw[lw] at hp
  have hc:=ϊ hp
  obtain⟨row,hr'⟩: ∃row,rows[p]? =some row:=⟨_,ϊ<|lo.7.symm▸hp⟩
  have cl:=lo.8 ks hn p _ _ hc hr'
  have ix {H:Hp}:ϩ H (.lst<|fL t) (.int p)=some (.d<|qx row):=by
   show(at? (fL t) p).map V.d=_
   rw[cP,lo.6,ϒ,hr'];rfl
  have cc {K:KV (Fl×Env×Hp)}:un (Β Μ (n+10) true 98 [.obj 65,.int p,.d<|qx row]<|Wk ⟨g,rs,lb⟩ st (st.wd g kp) es sn [] r2) K=K (.bool true) (Wk ⟨g,rs,lb⟩ st (st.wd g kp) es sn [] r2):=by
   rw[cu rfl]
   exact BQ rfl hk2 hc cl
  simp[ix,cc]
end
section
variable{R:Type}{k0:KS R}{Μ:List Int}{n m0:Nat}{g:Bool}{st:St}{t:Tr}{body:E}{a b c d e f h i j b1 b2 b3 b4 b5 w:Option V}{kp:Nat->Int}{roots:List Nat}{dep:Nat->Int}{Al:Nat->List Slot->Prop}{nt:Nat->Nat->Prop}{rows:List (Option Row)}{b0:BS}
theorem RP(hn:14<=n):wX ⟨Μ,Β Μ (n+10) true,true⟩ (k (asg (L 7)<|Fn 84<|k (L 6)<|k (I 0)<|k (Li 0 z)<|k (Tu<|k (I 0)<|k (I 0) z) z)<|body) (fX a b c d e (some<|.obj 13) none f h i j b1 b2 b3 b4) (Bh g b0 []) k0=
 wX ⟨Μ,Β Μ (n+10) true,true⟩ body (fX a b c d e (some<|.obj 13) (some<|.d (bL g 2 [] (0,0) b0).1.dv) f h i j b1 b2 b3 b4) (Bh g (bL g 2 [] (0,0) b0).2 []) k0:=by
 have e1 {K:KV R}:un (Β Μ (n+10) true 84 [.obj 13,.int 0,.lst [],.tup [.int 0,.int 0]]<|Bh g b0 []) K=K (.d (bL g 2 [] (0,0) b0).1.dv) (Bh g (bL g 2 [] (0,0) b0).2 []):=by
  rw[cu (f:=84) rfl]
  exact PU 2 (n+10) (Nat.le_add_of_sub_le hn) [] (0,0) b0 [] (by decide)
 simp[e1]
theorem PW{x0:Int}{rest:List Int}(hp:pad Μ=x0::rest)(hl:rest.length<=100)(hn:14<=n)(s1:Start Μ n)(s2: ∀q,g9 Μ n q)(et:t=(bL (gI x0) 2 [] (0,0) ⟨rest,0⟩).1)(hd:63<=n+9)(lo:qC (gI x0) t st kp roots dep Al nt rows): ∃H',H'.ok=st.ok/\Β Μ (n+11) true 99 [.Μ] ⟨True,[]⟩=some (.bool true,H'):=by
 obtain⟨b',hb⟩: ∃b',b'=(bL (gI x0) 2 [] (0,0) ⟨rest,0⟩).2:=⟨_,rfl⟩
 refine(RL (Μ:=Μ) (n:=n) lo (Ι hd) (lb:=b'.dw) (rs:=b'.rest.map .int)).elim λm q_=>q_.elim λks q_=>q_.elim λes q_=>q_.elim λsn q_=>q_.elim λr q_=>q_.elim λh1 q_=>q_.elim λh2 q_=>q_.elim λh3 h4=>?_
 obtain⟨H',e1,e2⟩:=RM (Μ:=Μ) (n:=n) (m0:=0) (a:=some<|.lst<|.int x0::rest.map .int) (b:=some<|.ins 18 0) (c:=some<|.int 16) (d:=some<|.lst [.int 17,.int 18]) (e0:=some<|.tup kinds) (h:=some<|.ins 5 14) (i:=some<|.ins 4 23) (j:=some<|.int 13) (es:=es) (sn:=sn) lo h1 h2 h3 (lb:=b'.dw) (rs:=b'.rest.map .int)
 refine⟨H',e1,(yx rfl rfl).trans ?_⟩
 refine RD.trans ?_
 rw[hp]
 refine(RE s1 hl).trans ?_
 refine(RP hn).trans ?_
 rw[<-et,<-hb]
 refine(RH (q:=⟨gI x0,b'.rest.map .int,b'.dw⟩)<|s2 _).trans ?_
 refine(RI<|s2 _).trans ?_
 refine(RJ lo hd).trans ?_
 refine(RK lo rfl).trans ?_
 refine h4.trans ?_
 exact e2
end
end J.Internal
namespace J.Internal
set_option maxHeartbeats 0
set_option maxRecDepth 1000000
open P
noncomputable def ZE:Option (V×Hp)->Option V
 |some r=>some r.1
 |none=>none
noncomputable def Y9:Option (V×Hp)->List PO
 |some r=>r.2.c
 |none=>[]
noncomputable def WV:Option (V×Hp)->Prop
 |some r=>r.2.ok
 |none=>False
theorem gF{m:Option (V×Hp)}{v:V}{cs:List PO}(h1:ZE m=some v)(h2:Y9 m=cs)(h3:WV m):m=some (v,⟨True,cs⟩):=by
 induction m with
 |none=>cases h1
 |some r=>
  obtain⟨w,ok,c⟩:=r
  cases h1
  cases h2
  rw[eq_true<|show ok from h3];rfl
section
variable{Μ:List Int}{n:Nat}
theorem Eb: @Β uM Μ (n+10) true 81 [.ins 18 0] ⟨True,[.at []]⟩=some (.none,iA 16):=by
 refine gF ?_ ?_ ?_
 ·rfl
 ·rfl
 ·repeat' first
   |apply cH
   |decide+kernel
   |exact trivial
theorem D9: @Β uM Μ (n+10) true 9 [.ins 0 1,.int 70,.tup []] (iA 16)=some (.int 16,iA 17):=by
 refine gF ?_ ?_ ?_
 ·rfl
 ·rfl
 ·repeat' first
   |apply cH
   |decide+kernel
   |exact trivial
theorem Te: @Β uM Μ (n+10) true 11 [.ins 0 1,.int 0] (iA 17)=some (.int 17,iA 18):=by
 refine gF ?_ ?_ ?_
 ·rfl
 ·rfl
 ·repeat' first
   |apply cH
   |decide+kernel
   |exact trivial
theorem Tf: @Β uM Μ (n+10) true 10 [.ins 0 1,.int 0] (iA 18)=some (.int 18,iA 19):=by
 refine gF ?_ ?_ ?_
 ·rfl
 ·rfl
 ·repeat' first
   |apply cH
   |decide+kernel
   |exact trivial
theorem HQ: @Β uM Μ (n+10) true 9 [.ins 0 1,.int 71,.tup []] (iA 19)=some (.int 19,iA 20):=by
 refine gF ?_ ?_ ?_
 ·rfl
 ·rfl
 ·repeat' first
   |apply cH
   |decide+kernel
   |exact trivial
noncomputable def qB:Fx:=@jL Fx ⟨⟨true,[],0⟩⟩ λq=>¬∀Μ n,@g9 uM Μ n q
theorem AP(h: ∀Μ n,@g9 uM Μ n qB)(Μ:List Int)(n:Nat)(q:Fx): @g9 uM Μ n q:=
 Ϻ λhq=>@gG Fx (λq=>¬∀Μ n,@g9 uM Μ n q) ⟨q,λz=>hq<|z Μ n⟩ h
theorem HT: @Β uM Μ (n+10) true 24 [.ins 5 14,.ins 18 0,.int 0] ⟨True,AJ qB++[.at []]⟩=some (.none,⟨True,AJ qB++q9 [.none] [.none]⟩):=by
 refine gF ?_ ?_ ?_
 ·rfl
 ·rfl
 ·repeat' first
   |apply cH
   |decide+kernel
   |exact trivial
theorem Td: @Β uM Μ (n+10) true 25 [.ins 5 14,.int 0,.int 0,.int 0] ⟨True,AJ qB++q9 [.none] [.none]⟩=some (.int 1,Hv qB 0 0):=by
 refine gF ?_ ?_ ?_
 ·rfl
 ·rfl
 ·repeat' first
   |apply cH
   |decide+kernel
   |exact trivial
theorem Tc: @Β uM Μ (n+10) true 27 [em,.ins 5 14,.ins 4 23] ⟨True,pre qB++[.at []]⟩=some (.none,An qB [] [] [] []):=by
 refine gF ?_ ?_ ?_
 ·rfl
 ·rfl
 ·repeat' first
   |apply cH
   |decide+kernel
   |exact trivial
theorem HP: @Β uM Μ (n+10) true 72 [em] (An qB [(12,.int 0)] [(2,.ins 17 54)] [] [.at []])=some (.none,W qB St.init []):=by
 refine gF ?_ ?_ ?_
 ·rfl
 ·rfl
 ·repeat' first
   |apply cH
   |decide+kernel
   |exact trivial
theorem NF: ∀m:Nat,m<13->@Β uM Μ (n+10) true 26 [.ins 5 14,.int 1,.d<|.str 82,.int<|kd<|m+1,.int 0] (Hv qB (if qB.g then 13 else 0) m)=some (.int<|(m:Int)+1,Hv qB (if qB.g then 13 else 0)<|m+1):=by
 intro m h
 match m,h with
 |0,_|1,_|2,_|3,_|4,_|5,_|6,_|7,_|8,_|9,_|10,_|11,_|12,_=>
  refine gF ?_ ?_ ?_
  ·rfl
  ·rfl
  ·repeat' first
    |apply cH
    |decide+kernel
    |exact trivial
 |m+13,h=>exact absurd h<|ϯ.mpr<|ϣ 13 m
theorem starts{Μ:List Int}{n:Nat}: @Start uM Μ n/\∀q,@g9 uM Μ n q:=⟨⟨Eb,D9,Te,Tf,HQ⟩,AP (λΜ n=>⟨HT,Td,NF,Tc,HP⟩) Μ n⟩
end
end J.Internal
namespace J.Internal
theorem aM{α:Type}{l:List α}{i:Nat}{x:α}(h:l[i]? =some x):i<l.length:=(Δ.mp h).1
theorem sD{β:Type}{k:Int}(b:List (Int×β)): ∀a:List (Int×β),lk k (a++b)=match lk k a with
 |some v=>some v
 |none=>lk k b:=λa=>by
 induction a with
 |nil=>rfl
 |cons x a ih=>
  show(if x.1=k then some x.2 else lk k (a++b))=match(if x.1=k then some x.2 else lk k a) with|some v=>some v|none=>lk k b
  split
  ·rfl
  ·exact ih
theorem oV{β:Type}{k:Int}{a b:List (Int×β)}{v:β}(e:lk k a=some v):lk k (a++b)=some v:=by rw[sD,e]
theorem cY{β:Type}{k:Int}{a:List (Int×β)}{v:β}(e:lk k a=none):lk k (a++[(k,v)])=some v:=by rw[sD,e];exact if_pos rfl
theorem sF{β:Type}{k j:Int}{a:List (Int×β)}{v w:β}(e:lk k (a++[(j,v)])=some w):lk k a=some w∨(j=k/\v=w):=by
 rw[sD] at e
 induction h:lk k a with
 |some x=>rw[h] at e;exact .inl e
 |none=>
  rw[h] at e
  have e:(if j=k then some v else none)=some w:=e
  by_cases c:j=k
  ·rw[if_pos c] at e;exact .inr ⟨c,ξ e⟩
  ·rw[if_neg c] at e;exact Ϝ e
theorem G0{β:Type}{k j:Int}{a:List (Int×β)}{v:β}(e:lk k a=none)(h:j≠k):lk k (a++[(j,v)])=none:=by rw[sD,e];exact if_neg h
theorem snoc_inv{α:Type}{l:List α}{i:Nat}{x y:α}(h:(l++[y])[i]? =some x):l[i]? =some x∨(i=l.length/\y=x):=by
 by_cases c:i<l.length
 ·rw[Ϥ c] at h;exact .inl h
 ·have e:i=l.length:=by have:=aM h;rw[θ,bu] at this;exact Nat.eq_of_lt_succ_of_not_lt this c
  subst e
  rw[Ϟ] at h
  exact .inr ⟨rfl,ξ h⟩
theorem kN{α:Type}{l:List α}{i:Nat}{x:α}(h:l[i]? =some x)(t:List α):(l++t)[i]? =some x:=(Ϥ<|aM h).trans h
inductive Ex(p:Pa):Pa->Prop
 |mk {X:Pa}:(∀x∈X,x.2=0)->Ex p (p++X)
theorem Ex.refl{p:Pa}:Ex p p:=by have:=Ex.mk (p:=p) (λx m=>ay m);rwa [Ν] at this
inductive F(st:St)(i:Nat)(p:Pa)(s:List Slot):Prop
 |nx {x:d_}:st.code[i+1]? =some x->x.st=s->Ex p x.pa->F st i p s
 |en:i+1=st.code.length->st.cur=s->Ex p st.pa->F st i p s
inductive Ag:List Slot->List Slot->Prop
 |eq {s:List Slot}:Ag s s
 |cb:Ag [.c 0] [.b]
inductive Lv(op:Int):Pa->Pa->Prop
 |eq {p:Pa}:Lv op p p
 |out {p X:Pa}:op=221->(∀x∈X,x.2<=1)->Lv op (p++X) p
inductive Jp(st:St)(op l:Int)(p:Pa)(s:List Slot):Prop
 |mk {e:Lb}:e∈st.lg->e.l=l->Ag s e.s->Lv op p e.p->Jp st op l p s
inductive Fw:Int->Int->List Slot->List Slot->Prop
 |arg:Fw 65033 0 [] [.v 1]
 |nul:Fw 20 0 [] [.v 14]
 |c0:Fw 32 0 [] [.c 0]
 |c1:Fw 32 0 [.v 1] [.v 1,.c 0]
 |GO {key:Nat} {n:Int}:Fw 117 n [.x key 12] [.x key n]
 |Ez {key:Nat} {n:Int}:pW n=true->Fw 165 n [.x key n] [.u key n]
 |box {n:Int}:pW n=true->Fw 140 n [.v n] [.g n]
 |gt:Fw 65027 0 [.v 1,.c 0] [.b]
 |Dy:Fw 0 0 [] []
 |dup {key:Nat} {n:Int}:Fw 37 0 [.x key n] [.x key n,.x key n]
 |pv {n:Int}:Fw 38 0 [.v n] []
 |pz:Fw 38 0 [.z] []
inductive En(g:Bool):Pa->Int->List Slot->Prop
 |fin {P:Pa} {r:Int}:En g (P++[(r,3)]) 220 []
 |OP {P Y:Pa} {r:Int}:(∀y∈Y,y.2=0)->En g (P++(r,1)::Y) 65050 []
 |ret:En g [] 42 (if g then [.v 13] else [])
 |lO {p:Pa} {t:Slot}:(t= .v 14∨t= .v 16∨∃k,t= .g k)->En g p 122 [t]
 |Ao {P:Pa} {r:Int}:En g (P++[(r,2)]) 65041 [.b]
inductive Ti(g:Bool)(st:St)(i:Nat):Pa->Int->Od->List Slot->Prop
 |gQ {p:Pa} {op x:Int} {s s':List Slot}:Fw op x s s'->F st i p s'->Ti g st i p op (.i x) s
 |ld {p:Pa} {x:Nat} {k:Int}:st.locals[x]? =some k->F st i p [.v k]->Ti g st i p 65036 (.i x) []
 |sv {p:Pa} {x:Nat} {k:Int}:st.locals[x]? =some k->F st i p []->Ti g st i p 65038 (.i x) [.v k]
 |sx {P:Pa} {x:Nat} {r k:Int} {m:Nat}:st.locals[x]? =some k->pW k=false->lk r st.nt=some (x:Int)->0<m->m<3->F st i (P++[(r,m)]) []->Ti g st i (P++[(r,m)]) 65038 (.i x) [.x r.toNat k]
 |su {P:Pa} {x:Nat} {r k:Int} {m:Nat}:st.locals[x]? =some k->lk r st.nt=some (x:Int)->0<m->m<3->F st i (P++[(r,m)]) []->Ti g st i (P++[(r,m)]) 65038 (.i x) [.u r.toNat k]
 |px {P:Pa} {r k:Int} {m:Nat}:lk r st.nt=some (-1)->0<m->m<3->F st i (P++[(r,m)]) []->Ti g st i (P++[(r,m)]) 38 (.i 0) [.x r.toNat k]
 |en {p:Pa} {op:Int} {s:List Slot}:En g p op s->Ti g st i p op (.i 0) s
 |br {p:Pa} {l:Int} {s:List Slot}:(s=[]∨s=[.c 0])->Jp st 56 l p s->Ti g st i p 56 (.i l) s
 |lv {p:Pa} {l:Int}:Jp st 221 l p []->Ti g st i p 221 (.i l) []
 |bb {p:Pa} {op l:Int}:(op=57∨op=58)->Jp st op l p []->F st i p []->Ti g st i p op (.i l) [.v 1]
 |bx {p:Pa} {l k:Int} {key:Nat}:Jp st 58 l p [.x key k]->F st i p [.z]->Ti g st i p 58 (.i l) [.x key k,.x key k]
 |sw {p:Pa} {ls:List Int}:ls.length<=2->(∀l∈ls,Jp st 69 l p [])->F st i p []->Ti g st i p 69 (.ts ls) [.v 7]
theorem Fw.ne{op x:Int}{s s':List Slot}(h:Fw op x s s'):bK op=false:=by induction h with|_=>rfl
section
variable{g:Bool}{st st':St}{i:Nat}{p:Pa}{op:Int}{od:Od}{s:List Slot}
theorem Ti.mono(h:Ti g st i p op od s)(hl: ∀(x:Nat)(k:Int),st.locals[x]? =some k->st'.locals[x]? =some k)(hn: ∀r x,lk r st.nt=some x->lk r st'.nt=some x)(hg: ∀e∈st.lg,e∈st'.lg)(hF:bK op=false->∀s,F st i p s->F st' i p s):Ti g st' i p op od s:=by
 have jp {op l:Int} {s:List Slot}:Jp st op l p s->Jp st' op l p s:=λ⟨a,b,c,d⟩=>⟨hg _ a,b,c,d⟩
 induction h with
 |gQ a f=>exact .gQ a<|hF a.ne _ f
 |ld a f=>exact .ld (hl _ _ a)<|hF rfl _ f
 |sv a f=>exact .sv (hl _ _ a)<|hF rfl _ f
 |sx a b c d e f=>exact .sx (hl _ _ a) b (hn _ _ c) d e<|hF rfl _ f
 |su a c d e f=>exact .su (hl _ _ a) (hn _ _ c) d e<|hF rfl _ f
 |px c d e f=>exact .px (hn _ _ c) d e<|hF rfl _ f
 |en a=>exact .en a
 |br a b=>exact .br a<|jp b
 |lv b=>exact .lv<|jp b
 |bb a b f=>exact .bb a (jp b)<|hF (a.elim (λe=>e▸rfl) λe=>e▸rfl) _ f
 |bx b f=>exact .bx (jp b)<|hF rfl _ f
 |sw a b f=>exact .sw a (λl m=>jp<|b l m)<|hF rfl _ f
end
inductive M(st:St)(e:Lb):Prop
 |nx {p:Nat} {x:d_}:lk e.l st.ϙ=some (p:Int)->st.code[p]? =some x->x.st=e.s->x.pa=e.p->M st e
 |en:lk e.l st.ϙ=some (st.code.length:Int)->st.cur=e.s->st.pa=e.p->M st e
inductive Un(st:St)(e:Lb):Prop
 |mk (i:e∈st.lg) (u: ∀f∈st.lg,f.l=e.l->f=e) (n:lk e.l st.ϙ=none) (m:st.made<=e.l) (z:e.l<0)
def Np(st:St):Prop:=∀l p,lk l st.ϙ=some p->p≠st.code.length
inductive Cd(st:St):Prop
 |mk (e: ∀i x,st.code[i]? =some x->i+1=st.code.length->bK x.op=true) (n:Np st)
noncomputable def Cl.own(c:Cl):List Int:=c.rh::if c.sort=1 then [c.rh-1] else []
noncomputable def Cl.ids(c:Cl):List Int:=c.rt::c.own
structure vZ(a st:St):Prop where
 code:a.code<+:st.code
 nw: ∀i x,a.code.length<=i->st.code[i]? =some x->∃X:Pa,x.pa=a.pa++X/\∀z∈X,a.rc<z.1
 pn: ∀z∈st.pa,z∈a.pa∨a.rc<z.1
 rc:a.rc<=st.rc
 lg: ∀e∈a.lg,e∈st.lg
 dw: ∀l p,lk l a.ϙ=some p->lk l st.ϙ=some p
 loc: ∀(x:Nat)(k:Int),a.locals[x]? =some k->st.locals[x]? =some k
 ol: ∀l p,lk l a.ϳ=some p->lk l st.ϳ=some p
 nt: ∀r x,lk r a.nt=some x->lk r st.nt=some x
structure Up(a st:St):Prop extends vZ a st where
 cp:a.clauses<+:st.clauses
 cl: ∀c∈st.clauses,c∈a.clauses∨∀r∈c.ids,a.rc<r
section
variable{a b c st:St}
theorem Up.trans(h:Up a b)(k:Up b c)(e: ∃Z:Pa,b.pa=a.pa++Z/\∀z∈Z,a.rc<z.1):Up a c:=by
 refine e.elim λZ q_=>q_.elim λe hz=>?_
 refine⟨⟨h.code.trans k.code,λi x l e'=>?_,λz m=>(k.pn z m).elim (h.pn z) λm=>.inr<|aI h.rc m,Ϯ h.rc k.rc,λe m=>k.lg e<|h.lg e m,λl p q=>k.dw l p<|h.dw l p q,λl p q=>k.loc l p<|h.loc l p q,λl p q=>k.ol l p<|h.ol l p q,λl p q=>k.nt l p<|h.nt l p q⟩,h.cp.trans k.cp,λc m=>(k.cl c m).elim (h.cl c) λq=>.inr λr m=>aI h.rc<|q r m⟩
 by_cases hi:i<b.code.length
 ·obtain⟨t,ht⟩:=k.code
  rw[<-ht,Ϥ hi] at e'
  exact h.nw i x l e'
 ·obtain⟨X,hx,hX⟩:=k.nw i x (bW hi) e'
  refine⟨Z++X,by rw[hx,e,Α],λz m=>?_⟩
  exact(Ζ.mp m).elim (hz z) λm=>aI h.rc<|hX z m
theorem vZ.get{i:Nat}{x:d_}(h:vZ a b)(e:a.code[i]? =some x):b.code[i]? =some x:=by
 refine h.code.elim λt ht=>?_
 rw[<-ht];exact kN e t
theorem vZ.len(h:vZ a b):a.code.length<=b.code.length:=h.code.length_le
end
inductive Iv(st:St)(up:Pa)(r:Int)(k:Nat)(x y:Int):Prop
 |mk (hx: ∃q:Nat,x=q/\q<st.code.length) (hy: ∃q:Nat,y=q/\q<=st.code.length) (hr:r<=st.rc) (no: ∀z∈st.pa,z.1≠r) (mem: ∀(i:Nat)(s:d_),st.code[i]? =some s->(x<=i/\(i:Int)<y↔(r,k)∈s.pa)) (pre: ∀(i:Nat)(s:d_),st.code[i]? =some s->(r,k)∈s.pa->∃Y,s.pa=up++(r,k)::Y)
section
variable{a b st:St}{up:Pa}{r x y:Int}{k:Nat}
theorem Iv.gk(h:Iv a up r k x y)(u:vZ a b):Iv b up r k x y:=by
 have old: ∀(i:Nat)(s:d_),b.code[i]? =some s->a.code[i]? =some s∨(a.code.length<=i/\(r,k)∉s.pa):=λi s e=>by
  by_cases c:i<a.code.length
  ·refine u.code.elim λt ht=>?_
   rw[<-ht,Ϥ c] at e;exact .inl e
  ·refine(u.nw i s (bW c) e).elim λX q_=>q_.elim λe1 e2=>?_
   refine .inr ⟨bW c,λm=>?_⟩
   rw[e1] at m
   exact(Ζ.mp m).elim (λm=>h.4 _ m rfl) λm=>absurd (e2 _ m)<|Ϭ.mpr h.3
 refine⟨h.1.imp λq e=>⟨e.1,bw e.2 u.len⟩,h.2.imp λq e=>⟨e.1,η e.2 u.len⟩,Ϯ h.3 u.rc,λz m e=>(u.pn z m).elim (λm=>h.4 z m e) λm=>absurd (e▸m)<|Ϭ.mpr h.3,λi s e=>?_,λi s e m=>(old i s e).elim (λe=>h.6 i s e m) λq=>absurd m q.2⟩
 refine(old i s e).elim (h.5 i s) λq=>⟨λq'=>?_,λm=>absurd m q.2⟩
 obtain⟨n,e1,e2⟩:=h.2
 have:=q.1
 omega
end
inductive Ic(st:St)(p:Nat)(op x:Int)(s:List Slot):Prop
 |mk {pa:Pa}:st.code[p]? =some ⟨op,.i x,s,pa⟩->Ic st p op x s
inductive Fj(st:St)(p:Int)(s:List Slot):Prop
 |mk {q:Nat} {x:d_}:p=q->st.code[q]? =some x->x.st=s->Fj st p s
inductive Tk(st:St)(r k:Int)(lid:Nat)(p:Nat):Nat->Prop
 |pop:lid=0->Ic st p 38 0 [.x r.toNat k]->lk r st.nt=some (-1)->Tk st r k lid p (p+1)
 |st {x:Nat}:lid≠0->lk lid st.ϳ=some (x:Int)->Ic st p 65038 x [.x r.toNat k]->lk r st.nt=some (x:Int)->Tk st r k lid p (p+1)
 |un {x:Nat}:lid≠0->lk lid st.ϳ=some (x:Int)->Ic st p 165 k [.x r.toNat k]->Ic st (p+1) 65038 x [.u r.toNat k]->lk r st.nt=some (x:Int)->Tk st r k lid p (p+2)
inductive Tl(st:St)(w p:Nat):Prop
 |mk (a:(w=12/\Ic st p 65033 0 [])∨∃x:Nat,w=2/\lk 2 st.ϳ=some (x:Int)/\Ic st p 65036 x []) (b:Ic st (p+1) 32 0 [.v 1]) (c:Ic st (p+2) 65027 0 [.v 1,.c 0]) (d:Ic st (p+3) 65041 0 [.b])
inductive Fi(st:St)(r kind:Int)(lid w:Nat)(f:Nat):Prop
 |all {p:Nat}:kind= -1->Tk st r 12 lid f p->Tl st w p->Fi st r kind lid w f
 |ask {p:Nat} {y n:Int}:kind≠ -1->Ic st f 117 kind [.x r.toNat 12]->Ic st (f+1) 37 0 [.x r.toNat kind]->Ic st (f+2) 58 y [.x r.toNat kind,.x r.toNat kind]->Ic st (f+3) 38 0 [.z]->Ic st (f+4) 32 0 []->Ic st (f+5) 56 n [.c 0]->lk y st.ϙ=some ((f+6:Nat):Int)->lk n st.ϙ=some ((p+3:Nat):Int)->Tk st r kind lid (f+6) p->Tl st w p->Fi st r kind lid w f
inductive Sh(st:St)(c:Cl):Nat->Prop
 |fin:c.row=none->c.sort=2->c.ex=0->Fj st c.h0 []->Sh st c 3
 |tL {r:Row}:c.row=some r->r.kind= -2->c.sort=4->c.ex=0->Fj st c.h0 []->Sh st c 3
 |NK {r:Row} {p q:Nat}:c.row=some r->RowW r.kind r.lid r.wh->r.wh=none->c.sort=0->c.ex=nE r.kind->c.h0=q->Tk st c.rh (nE r.kind) r.lid q p->Sh st c 1
 |Au {r:Row} {w q f:Nat}:c.row=some r->RowW r.kind r.lid r.wh->r.wh=some w->c.sort=1->c.h0=q->Ic st q 38 0 [.x c.rh.toNat 12]->lk c.rh st.nt=some (-1)->c.ex=f->Iv st c.up (c.rh-1) 2 c.ex c.h0->Fi st (c.rh-1) r.kind r.lid w f->Sh st c 1
inductive Kc(st:St)(c:Cl):Prop
 |mk {k:Nat}:0<c.rt->c.rt<c.rh->(c.sort=1->c.rt<c.rh-1)->Iv st c.up c.rt 0 c.t0 c.t1->Iv st c.up c.rh k c.h0 c.h1->Sh st c k->Kc st c
section
variable{a b:St}{op x r k kind:Int}{p p2 lid w f:Nat}{s:List Slot}{c:Cl}
theorem Ic.gk(h:Ic a p op x s)(u:vZ a b):Ic b p op x s:=h.casesOn λh=>⟨u.get h⟩
theorem Tk.gk(h:Tk a r k lid p p2)(u:vZ a b):Tk b r k lid p p2:=by
 induction h with
 |pop a b c=>exact .pop a (b.gk u)<|u.nt _ _ c
 |st a b c d=>exact .st a (u.ol _ _ b) (c.gk u)<|u.nt _ _ d
 |un a b c d e=>exact .un a (u.ol _ _ b) (c.gk u) (d.gk u)<|u.nt _ _ e
theorem Tl.gk(h:Tl a w p)(u:vZ a b):Tl b w p:=⟨h.1.imp (λh=>⟨h.1,h.2.gk u⟩) λ⟨x,h⟩=>⟨x,h.1,u.ol _ _ h.2.1,h.2.2.gk u⟩,h.2.gk u,h.3.gk u,h.4.gk u⟩
theorem Fi.gk(h:Fi a r kind lid w f)(u:vZ a b):Fi b r kind lid w f:=by
 induction h with
 |all a b c=>exact .all a (b.gk u)<|c.gk u
 |ask a b c d e f g h i j k=>exact .ask a (b.gk u) (c.gk u) (d.gk u) (e.gk u) (f.gk u) (g.gk u) (u.dw _ _ h) (u.dw _ _ i) (j.gk u)<|k.gk u
theorem Fj.gk{p:Int}(h:Fj a p s)(u:vZ a b):Fj b p s:=h.casesOn λe h q=>⟨e,u.get h,q⟩
theorem Kc.gk(h:Kc a c)(u:vZ a b):Kc b c:=by
 obtain⟨h1,h2,h3,i1,i2,sh⟩:=h
 refine⟨h1,h2,h3,i1.gk u,i2.gk u,?_⟩
 induction sh with
 |fin a b c d=>exact .fin a b c<|d.gk u
 |tL a b c d e=>exact .tL a b c d<|e.gk u
 |NK a b c d e f g=>exact .NK a b c d e f<|g.gk u
 |Au a b c d e f g h i j=>exact .Au a b c d e (f.gk u) (u.nt _ _ g) h (i.gk u)<|j.gk u
variable{m:Nat}{up:Pa}{y:Int}
theorem Iv.go(h:Iv a up r m x y)(u:Up a b):Iv b up r m x y:=h.gk u.tovZ
theorem Ic.go(h:Ic a p op x s)(u:Up a b):Ic b p op x s:=h.gk u.tovZ
theorem Tk.go(h:Tk a r k lid p p2)(u:Up a b):Tk b r k lid p p2:=h.gk u.tovZ
theorem Kc.go(h:Kc a c)(u:Up a b):Kc b c:=h.gk u.tovZ
end
inductive Ow(c:Cl):Int×Nat->Prop
 |h1:c.sort<=1->Ow c (c.rh,1)
 |h3:1<c.sort->Ow c (c.rh,3)
 |f:c.sort=1->Ow c (c.rh-1,2)
inductive Pw(c d:Cl):Prop
 |mk (o: ∀r∈c.ids,r∉d.own) (u: ∀r∈c.ids,∀z∈d.up,z.1≠r)
inductive Rg(rc:Int)(st:St):Prop
 |mk (c:st.rc=rc) (c0:0<=st.rc) (id: ∀z∈st.pa,z.1<=st.rc) (cid: ∀(i:Nat)(x:d_),st.code[i]? =some x->∀z∈x.pa,z.1<=st.rc) (nk: ∀r x,lk r st.nt=some x->r<=st.rc) (pd:st.pa.Pairwise λa b=>a.1<b.1) (cd: ∀(i:Nat)(x:d_),st.code[i]? =some x->x.pa.Pairwise λa b=>a.1<b.1)
inductive Tg(g:Bool)(O:List Lb)(y:Int)(st:St):Prop
 |mk (ty: ∀(i:Nat)(x:d_),st.code[i]? =some x->Ti g st i x.pa x.op x.n x.st) (m0:st.made<=0) (y0:0<=y) (lbk: ∀e∈st.lg,st.made<=e.l/\e.l<y) (lbl: ∀l p,lk l st.ϙ=some p->(st.made<=l/\l<y)/\∃q:Nat,p=q/\q<=st.code.length) (op: ∀e∈O,Un st e) (od:O.Pairwise λe f=>e.l≠f.l) (rl: ∀k,st.bZ=some k->Un st ⟨k,[],[]⟩/\∀e∈O,e.l≠k) (km: ∀e∈st.lg,e∈O∨st.bZ=some e.l∨M st e)
inductive Vg(g:Bool)(st:St):Prop
 |mk (lo: ∀lid p,lk lid st.ϳ=some p->∃n l:Nat,p=n/\lid=l/\1<=l/\st.locals[n]? =some (kd l)) (rp:0<=st.fJ->∃n:Nat,st.fJ=n/\st.locals[n]? =some 13) (rr:g=true->st.bZ≠none->0<=st.fJ)
inductive Kg(Q:Pa)(w:List (Option Row))(st:St):Prop
 |mk (own: ∀(i:Nat)(x:d_),st.code[i]? =some x->∀z∈x.pa,0<z.2->z∈Q∨∃c∈st.clauses,Ow c z) (qp: ∀z∈st.pa,0<z.2->z∈Q) (cls: ∀c∈st.clauses,Kc st c) (pw:st.clauses.Pairwise Pw) (row:st.clauses.map Cl.row=w)
inductive Dg(n:Nat)(st:St):Prop
 |mk (c:st.code.length<=n) (l:st.ϙ.length<=n) (v:st.locals.length<=n) (o:st.ϳ.length<=n) (k:st.clauses.length<=n) (p:st.pa.length<=n) (ok:n<=400000->st.ok)
inductive Inv(g:Bool)(O:List Lb)(Q:Pa)(w:List (Option Row))(n:Nat)(y:Int×Int)(st:St):Prop
 |mk (r:Rg y.2 st) (t:Tg g O y.1 st) (v:Vg g st) (k:Kg Q w st) (d:Dg n st)
inductive F0(a st:St):Prop
 |no:st.code=a.code->st.cur=a.cur->F0 a st
 |yes {x:d_}:st.code[a.code.length]? =some x->x.st=a.cur->F0 a st
inductive S(g:Bool)(a:St)(O:List Lb)(Q:Pa)(w:List (Option Row))(n:Nat)(y:Int×Int)(st:St):Prop
 |mk (up:Up a st) (pa:st.pa=a.pa) (d9:st.d9=a.d9) (f0:F0 a st) (i:Inv g O Q w n y st)
theorem JC{α:Type}{l:List α}{x:α}{n:Nat}(h:l.length<=n):(l++[x]).length<=n+1:=by rw[θ];exact cS h
theorem Zn{m n:Nat}(h:m<=n)(k:n<=400000):m<big:=Τ (η h k) (by decide)
theorem sI{m n:Nat}(h:m<=n)(k:n+1<=400000):m<big:=Zn h<|Ϩ k
section
variable{g:Bool}{a st st':St}{O:List Lb}{Q:Pa}{w:List (Option Row)}{n m:Nat}{y:Int×Int}{u:Int}{op:Int}{od:Od}{nx:List Slot}{e:Lb}
theorem Dg.up(h:Dg n st):Dg (n+1) st:=⟨Ι h.1,Ι h.2,Ι h.3,Ι h.4,Ι h.5,Ι h.6,λk=>h.7<|Ϩ k⟩
theorem Dg.le(h:Dg n st)(k:n<=m):Dg m st:=⟨η h.1 k,η h.2 k,η h.3 k,η h.4 k,η h.5 k,η h.6 k,λq=>h.7<|η k q⟩
theorem Inv.le(h:Inv g O Q w n y st)(k:n<=m):Inv g O Q w m y st:=⟨h.1,h.2,h.3,h.4,h.5.le k⟩
theorem S.le(h:S g a O Q w n y st)(k:n<=m):S g a O Q w m y st:=⟨h.1,h.2,h.3,h.4,h.5.le k⟩
theorem Up.refl:Up st st:=⟨⟨ϓ _,λi x l e=>absurd (aM e)<|ϯ.mpr l,λz m=>.inl m,ϛ _,λe m=>m,λl p h=>h,λx k h=>h,λl p h=>h,λr x h=>h⟩,ϓ _,λc m=>.inl m⟩
theorem S.refl(h:Inv g O Q w n y st):S g st O Q w n y st:=⟨.refl,rfl,rfl,.no rfl rfl,h⟩
theorem S.ut(h:S g a O Q w n y st)(u:Up st st'):Up a st':=h.1.trans u ⟨[],by rw[h.2,Ν],λz m=>ay m⟩
theorem F0.go(h:F0 a st)(hc:st.code<+:st'.code)(hn:st.code=a.code->st.cur=a.cur->F0 a st'):F0 a st':=by
 induction h with
 |no e1 e2=>exact hn e1 e2
 |yes e1 e2=>
  refine hc.elim λt ht=>?_
  exact .yes (ht▸(kN e1 t)) e2
theorem F0.same(h:F0 a st)(hc:st'.code=st.code)(hn:st'.cur=st.cur):F0 a st':=h.go (hc▸ϓ _) λe1 e2=>.no (hc.trans e1)<|hn.trans e2
theorem Up.add:Up st (st.add op od nx):=⟨⟨aH _ _,λi x l e=>(snoc_inv e).elim (λe=>absurd (aM e)<|ϯ.mpr l) λq=>⟨[],by rw[<-q.2,Ν],λz m=>ay m⟩,λz m=>.inl m,ϛ _,λe m=>m,λl p h=>h,λx k h=>h,λl p h=>h,λr x h=>h⟩,ϓ _,λc m=>.inl m⟩
theorem F.add{i:Nat}{p:Pa}{s:List Slot}(h:F st i p s):F (st.add op od nx) i p s:=by
 induction h with
 |nx a b c=>exact .nx (kN a _) b c
 |en a b c=>exact .nx (a▸(Ϟ)) b c
theorem M.add(h:M st e):M (st.add op od nx) e:=by
 induction h with
 |nx a b c d=>exact .nx a (kN b _) c d
 |en a b c=>exact .nx a Ϟ b c
theorem Un.of(h:Un st e)(h1:st'.lg=st.lg)(h2:st'.ϙ=st.ϙ)(h3:st'.made=st.made):Un st' e:=⟨h1▸h.1,h1▸h.2,h2▸h.3,h3▸h.4,h.5⟩
theorem F.new:F (st.add op od nx) st.code.length st.pa nx:=.en (by rw[St.add,θ];rfl) rfl .refl
theorem S.add(h:S g a O Q w n y st)(ti:Ti g (st.add op od nx) st.code.length st.pa op od st.cur):S g a O Q w (n+1) y (st.add op od nx):=by
 refine⟨h.ut .add,h.2,h.3,h.4.go (aH _ _) λe1 e2=>.yes (x:=⟨op,od,st.cur,st.pa⟩) (e1▸(Ϟ)) e2,⟨h.5.1.1,h.5.1.2,h.5.1.3,λj x e=>(snoc_inv e).elim (h.5.1.4 j x) λq=>q.2▸h.5.1.3,h.5.1.5,h.5.1.6,λj x e=>(snoc_inv e).elim (h.5.1.7 j x) λq=>q.2▸h.5.1.6⟩,
  ⟨λj x e=>(snoc_inv e).elim (λe=>(h.5.2.1 j x e).mono (λ_ _ h=>h) (λ_ _ h=>h) (λ_ h=>h) λ_ _=>F.add) λq=>q.2▸q.1▸ti,h.5.2.2,h.5.2.3,h.5.2.4,λl p e=>(h.5.2.5 l p e).imp_right λ⟨q,e,l⟩=>⟨q,e,by rw[St.add,θ];exact Ι l⟩,λe m=>(h.5.2.6 e m).of rfl rfl rfl,h.5.2.7,λk e=>(h.5.2.8 k e).imp_left λu=>u.of rfl rfl rfl,λe m=>(h.5.2.9 e m).imp_right λq=>q.imp_right M.add⟩,
  ⟨h.5.3.1,h.5.3.2,h.5.3.3⟩,⟨λj x e=>(snoc_inv e).elim (h.5.4.1 j x) λq=>q.2▸λz m p=>.inl (h.5.4.2 z m p),h.5.4.2,λc m=>(h.5.4.3 c m).go .add,h.5.4.4,h.5.4.5⟩,⟨JC h.5.5.1,Ι h.5.5.2,Ι h.5.5.3,Ι h.5.5.4,Ι h.5.5.5,Ι h.5.5.6,λk=>⟨h.5.5.7 (Ϩ k),sI h.5.5.1 k⟩⟩⟩
theorem S.cd(h:S g a O Q w n y st)(e:bK op=true):Cd (st.add op od nx):=⟨λi x q l=>(snoc_inv q).elim (λq=>absurd (aM q) (by rw[St.add,θ,bu] at l;omega)) λq=>q.2▸e,λl p q=>by
 obtain⟨k,e1,e2⟩:=(h.5.2.5 l p q).2
 rw[St.add,θ,bu];omega⟩
theorem S.gQ{x:Int}(h:S g a O Q w n y st)(f:Fw op x st.cur nx):S g a O Q w (n+1) y (st.add op (.i x) nx):=h.add<|.gQ f .new
theorem S.end_(h:S g a O Q w n y st)(f:En g st.pa op st.cur):S g a O Q w (n+1) y (st.add op (.i 0) nx):=h.add<|.en f
theorem S.br{l:Int}(h:S g a O Q w n y st)(s:st.cur=[]∨st.cur=[.c 0])(j:Jp st 56 l st.pa st.cur):S g a O Q w (n+1) y (st.add 56 (.i l) nx):=h.add<|.br s<|j.casesOn λa b c d=>⟨a,b,c,d⟩
theorem S.lv{l:Int}(h:S g a O Q w n y st)(s:st.cur=[])(j:Jp st 221 l st.pa []):S g a O Q w (n+1) y (st.add 221 (.i l) nx):=h.add<|s▸.lv (j.casesOn λa b c d=>⟨a,b,c,d⟩)
theorem Up.of(h1:st'.code=st.code)(h2:st'.pa=st.pa)(h3:st.rc<=st'.rc)(h4: ∀e∈st.lg,e∈st'.lg)(h5: ∀l p,lk l st.ϙ=some p->lk l st'.ϙ=some p)(h6: ∀(x:Nat)(k:Int),st.locals[x]? =some k->st'.locals[x]? =some k)(h7: ∀l p,lk l st.ϳ=some p->lk l st'.ϳ=some p)(h8: ∀r x,lk r st.nt=some x->lk r st'.nt=some x)(h9:st'.clauses=st.clauses):Up st st':=
 ⟨⟨h1▸ϓ _,λi x l e=>absurd (aM<|h1▸e)<|ϯ.mpr l,λz m=>.inl<|h2▸m,h3,h4,h5,h6,h7,h8⟩,h9▸ϓ _,λc m=>.inl<|h9▸m⟩
variable{x:List Slot}{p:Pa}
theorem Up.nl:Up st (st.nl x p):=.of rfl rfl (ϛ _) (λe m=>Κ _ m) (λ_ _ h=>h) (λ_ _ h=>h) (λ_ _ h=>h) (λ_ _ h=>h) rfl
theorem F.of{i:Nat}{p:Pa}{s:List Slot}(h:F st i p s)(h1:st'.code=st.code)(h2:st'.cur=st.cur)(h3:st'.pa=st.pa):F st' i p s:=by
 induction h with
 |nx a b c=>exact .nx (h1▸a) b c
 |en a b c=>exact .en (h1▸a) (h2.trans b)<|h3▸c
theorem Un.nl(h:Un st e):Un (st.nl x p) e:=⟨Κ _ h.1,λf m q=>(Ζ.mp m).elim (λm=>h.2 f m q) λm=>(by have:=h.4;rw[υ.mp m] at q;have q:st.made-1=e.l:=q;omega),h.3,Ϯ (iV _ (by decide)) h.4,h.5⟩
theorem M.of(h:M st e)(h1:st'.code=st.code)(h2:st'.cur=st.cur)(h3:st'.pa=st.pa)(h4: ∀l p,lk l st.ϙ=some p->lk l st'.ϙ=some p):M st' e:=by
 induction h with
 |nx a b c d=>exact .nx (h4 _ _ a) (h1▸b) c d
 |en a b c=>exact .en (h1▸h4 _ _ a) (h2.trans b)<|h3.trans c
theorem Tg.new(h:Tg g O u st):Un (st.nl x p) ⟨st.made-1,x,p⟩:=by
 refine⟨Ε _<|.head _,λf m q=>(Ζ.mp m).elim (λm=>?_) υ.mp,?_,ϛ _,cj (Ft _ (by decide)) h.2⟩
 ·have:=(h.4 f m).1
  omega
 ·induction e:lk (st.made-1) st.ϙ with
  |none=>exact e
  |some p=>have:=(h.5 _ p e).1.1;omega
theorem Tg.nl(h:Tg g O u st):Tg g (⟨st.made-1,x,p⟩::O) u (st.nl x p):=by
 have ne: ∀e:Lb,st.made<=e.l->st.made-1≠e.l:=λe q=>by omega
 refine⟨λj z e=>(h.1 j z e).mono (λ_ _ h=>h) (λ_ _ h=>h) (λe m=>Κ _ m) λ_ _ f=>f.of rfl rfl rfl,Ϯ (iV _ (by decide)) h.2,h.3,λe m=>(Ζ.mp m).elim (λm=>⟨Ϯ (iV _ (by decide)) (h.4 e m).1,(h.4 e m).2⟩) λm=>?_,λl p e=>⟨⟨Ϯ (iV _ (by decide)) (h.5 l p e).1.1,(h.5 l p e).1.2⟩,(h.5 l p e).2⟩,λe m=>?_,bk.mpr ⟨λe m=>ne e (h.6 e m).4,h.7⟩,λk e=>⟨(h.8 k e).1.nl,λf m=>?_⟩,λe m=>?_⟩
 ·rw[υ.mp m]
  exact⟨ϛ _,cj (cj (Ft _ (by decide)) h.2) h.3⟩
 ·exact(Θ.mp m).elim (λe=>e▸h.new) λm=>(h.6 e m).nl
 ·exact(Θ.mp m).elim (λq=>q▸ne _ (h.8 k e).1.4) λm=>(h.8 k e).2 f m
 ·exact(Ζ.mp m).elim (λm=>(h.9 e m).imp (.tail _) λq=>q.imp_right λq=>q.of rfl rfl rfl λ_ _ h=>h) λm=>.inl<|υ.mp m▸.head _
theorem S.nl(h:S g a O Q w n y st):S g a (⟨st.made-1,x,p⟩::O) Q w n y (st.nl x p):=
 ⟨h.ut .nl,h.2,h.3,h.4.same rfl rfl,⟨h.5.1.1,h.5.1.2,h.5.1.3,h.5.1.4,h.5.1.5,h.5.1.6,h.5.1.7⟩,h.5.2.nl,⟨h.5.3.1,h.5.3.2,h.5.3.3⟩,⟨h.5.4.1,h.5.4.2,λc m=>(h.5.4.3 c m).go .nl,h.5.4.4,h.5.4.5⟩,⟨h.5.5.1,h.5.5.2,h.5.5.3,h.5.5.4,h.5.5.5,h.5.5.6,h.5.5.7⟩⟩
theorem Up.mark{l:Int}:Up st (st.mark l):=.of rfl rfl (ϛ _) (λe m=>Κ _ m) (λ_ _ h=>oV h) (λ_ _ h=>h) (λ_ _ h=>h) (λ_ _ h=>h) rfl
theorem S.JF{l y':Int}{O':List Lb}(h:S g a O Q w n y st)(hn:lk l st.ϙ=none)(hk:(st.made<=l/\l<y')/\y.1<=y')(hu: ∀f∈st.lg,f.l=l->f=⟨l,st.cur,st.pa⟩)(hO: ∀e∈O',e∈O/\e.l≠l)(hod:O'.Pairwise λe f=>e.l≠f.l)(hO2: ∀e∈O,e∈O'∨e.l=l)(hr: ∀k,st.bZ=some k->k≠l):S g a O' Q w (n+1) (y',y.2) (st.mark l):=by
 have i:=h.5
 have un {e:Lb} (u:Un st e) (q:e.l≠l):Un (st.mark l) e:=⟨Κ _ u.1,λf m q'=>(Ζ.mp m).elim (λm=>u.2 f m q') λm=>absurd (by rw[υ.mp m] at q';exact q'.symm) q,G0 u.3 q.symm,u.4,u.5⟩
 have mm:M (st.mark l) ⟨l,st.cur,st.pa⟩:=.en (cY hn) rfl rfl
 refine⟨h.ut .mark,h.2,h.3,h.4.same rfl rfl,⟨i.1.1,i.1.2,i.1.3,i.1.4,i.1.5,i.1.6,i.1.7⟩,
  ⟨λj z e=>(i.2.1 j z e).mono (λ_ _ h=>h) (λ_ _ h=>h) (λe m=>Κ _ m) λ_ _ f=>f.of rfl rfl rfl,i.2.2,Ϯ i.2.3 hk.2,λe m=>(Ζ.mp m).elim (λm=>(i.2.4 e m).imp_right λq=>cj q hk.2) λm=>(υ.mp m).symm▸hk.1,λl' p e=>(sF e).elim (λe=>(i.2.5 l' p e).imp_left λq=>q.imp_right λq=>cj q hk.2) λq=>⟨q.1▸hk.1,_,q.2.symm,ώ _⟩,λe m=>un (i.2.6 e (hO e m).1) (hO e m).2,hod,λk e=>⟨un (i.2.8 k e).1<|hr k e,λf m=>(i.2.8 k e).2 f (hO f m).1⟩,λe m=>(Ζ.mp m).elim (λm=>?_) λm=>.inr<|.inr<|υ.mp m▸mm⟩,
  ⟨i.3.1,i.3.2,i.3.3⟩,⟨i.4.1,i.4.2,λc m=>(i.4.3 c m).go .mark,i.4.4,i.4.5⟩,⟨Ι i.5.1,JC i.5.2,Ι i.5.3,Ι i.5.4,Ι i.5.5,Ι i.5.6,λk=>⟨i.5.7 (Ϩ k),sI i.5.2 k,hn⟩⟩⟩
 refine(eN<|e.l=l).elim (λq=>?_) λq=>?_
 ·exact .inr<|.inr<|hu e m q▸mm
 ·exact(i.2.9 e m).elim (λm=>(hO2 e m).imp id λz=>absurd z q) λz=>.inr<|z.imp id λz=>z.of rfl rfl rfl λ_ _ h=>oV h
theorem S.mark{l:Int}{s:List Slot}{p:Pa}(h:S g a (⟨l,s,p⟩::O) Q w n y st)(hs:st.cur=s)(hp:st.pa=p):S g a O Q w (n+1) y (st.mark l):=by
 subst hs hp
 have u:=h.5.2.6 _<|.head _
 have od:=bk.mp h.5.2.7
 exact h.JF u.3 ⟨⟨u.4,cj u.5 h.5.2.3⟩,ϛ _⟩ u.2 (λe m=>⟨.tail _ m,(od.1 e m).symm⟩) od.2 (λe m=>(Θ.mp m).elim (λe=>.inr<|e▸rfl) .inl) λk e=>((h.5.2.8 k e).2 _<|.head _).symm
theorem S.dw(h:S g a O Q w n y st):S g a O Q w (n+1) (y.1+1,y.2) (st.mark y.1):=by
 have ne: ∀e:Lb,e.l<0->e.l≠y.1:=λe q=>by have:=h.5.2.3;omega
 refine h.JF ?_ ⟨⟨Ϯ h.5.2.2 h.5.2.3,av _⟩,cQ<|av _⟩ (λf m q=>absurd (h.5.2.4 f m).2<|q▸kI _) (λe m=>⟨m,ne e (h.5.2.6 e m).5⟩) h.5.2.7 (λe m=>.inl m) λk e=>ne ⟨k,[],[]⟩ (h.5.2.8 k e).1.5
 induction e:lk y.1 st.ϙ with
 |none=>rfl
 |some p=>exact absurd (h.5.2.5 _ p e).1.2<|kI _
inductive T(g:Bool)(a:St)(O:List Lb)(Q:Pa)(w:List (Option Row))(n:Nat)(y:Int×Int)(st:St):Prop
 |mk (up:Up a st) (pa:st.pa=a.pa) (d9:st.d9=a.d9) (i:Inv g O Q w n y st)
variable{b:St}{O':List Lb}{Q':Pa}{w':List (Option Row)}{n':Nat}{y':Int×Int}
theorem S.t(h:S g a O Q w n y st):T g a O Q w n y st:=⟨h.1,h.2,h.3,h.5⟩
theorem T.le(h:T g a O Q w n y st)(k:n<=m):T g a O Q w m y st:=⟨h.1,h.2,h.3,h.4.le k⟩
theorem T.ut(h:T g a O Q w n y b)(u:Up b st):Up a st:=h.1.trans u ⟨[],by rw[h.2,Ν],λz m=>ay m⟩
theorem T.tr(h:T g a O Q w n y b)(k:T g b O' Q' w' n' y' st):T g a O' Q' w' n' y' st:=⟨h.1.trans k.1 ⟨[],by rw[h.2,Ν],λz m=>ay m⟩,k.2.trans h.2,k.3.trans h.3,k.4⟩
theorem S.ZC(h:S g a O Q w n y b)(f:F0 a st)(k:T g b O' Q' w' n' y' st):S g a O' Q' w' n' y' st:=⟨(h.t.tr k).1,k.2.trans h.2,k.3.trans h.3,f,k.4⟩
theorem F0.tr(h:F0 a b)(k:F0 b st)(u:b.code<+:st.code):F0 a st:=by
 induction k with
 |no e1 e2=>exact h.same e1 e2
 |yes e1 e2=>exact h.go u λq1 q2=>.yes (q1▸e1)<|e2.trans q2
theorem S.tr(h:S g a O Q w n y b)(k:S g b O' Q' w' n' y' st):S g a O' Q' w' n' y' st:=h.ZC (h.4.tr k.4 k.1.code) k.t
theorem F0.grown(h:F0 a b)(l:a.code.length<b.code.length)(u:b.code<+:st.code):F0 a st:=h.go u λe _=>absurd l<|e▸a_ _
end
section
variable{g:Bool}{a st st':St}{O O':List Lb}{Q:Pa}{w:List (Option Row)}{n m lid:Nat}{y:Int×Int}{op:Int}{od:Od}{nx:List Slot}{e:Lb}
theorem S.ϴ{p:Prop}(h:S g a O Q w n y st)(hp:p):S g a O Q w n y (st.ϴ p):=by rw[zE hp];exact h
theorem S.perm(h:S g a O Q w n y st)(p:O.Perm O'):S g a O' Q w n y st:=
 ⟨h.1,h.2,h.3,h.4,h.5.1,⟨h.5.2.1,h.5.2.2,h.5.2.3,h.5.2.4,h.5.2.5,λe m=>h.5.2.6 e<|p.mem_iff.mpr m,(p.pairwise_iff λq=>E1 q).mp h.5.2.7,λk e=>(h.5.2.8 k e).imp_right λq f m=>q f<|p.mem_iff.mpr m,λe m=>(h.5.2.9 e m).imp_left p.mem_iff.mp⟩,h.5.3,h.5.4,h.5.5⟩
theorem lz{k:Int}{x:Nat}{v:Int}(h:st.locals[x]? =some v):(st.locals++[k])[x]? =some v:=kN h _
theorem S.vs(h:S g a O Q w n y st)(u:Up st st')(h1:st'.code=st.code)(h2:st'.ϙ=st.ϙ)(h3:st'.made=st.made)(h4:st'.clauses=st.clauses)(h5:st'.pa=st.pa)(h6:st'.rc=st.rc)(h7:st'.d9=st.d9)(h8:st'.bZ=st.bZ)(h9:st'.cur=st.cur)(h10:st'.lg=st.lg)(nk: ∀r x,lk r st'.nt=some x->r<=st.rc)(v:Vg g st')(d:Dg m st'):S g a O Q w m y st':=
 ⟨h.ut u,h5.trans h.2,h7.trans h.3,h.4.same h1 h9,⟨h6.trans h.5.1.1,h6▸h.5.1.2,h6▸h5▸h.5.1.3,h6▸h1▸h.5.1.4,λr x e=>h6▸nk r x e,h5▸h.5.1.6,h1▸h.5.1.7⟩,
  ⟨λj z e=>(h.5.2.1 j z<|h1▸e).mono u.loc u.nt u.lg λ_ _ f=>f.of h1 h9 h5,h3▸h.5.2.2,h.5.2.3,h10▸h3▸h.5.2.4,λl p e=>by rw[h3,h1];exact h.5.2.5 l p<|h2▸e,λe m=>(h.5.2.6 e m).of h10 h2 h3,h.5.2.7,λk e=>(h.5.2.8 k<|h8▸e).imp_left λq=>q.of h10 h2 h3,λe m=>(h.5.2.9 e<|h10▸m).imp_right λq=>q.imp (λq=>h8.trans q) λq=>q.of h1 h9 h5 u.dw⟩,
  v,⟨h4▸h1▸h.5.4.1,h5▸h.5.4.2,λc m=>(h.5.4.3 c (h4▸m)).go u,h4▸h.5.4.4,h4▸h.5.4.5⟩,d⟩
theorem Dg.Bd{k:Int}(d:Dg n st):Dg (n+1) (st.Bd k):=⟨Ι d.1,Ι d.2,JC d.3,Ι d.4,Ι d.5,Ι d.6,λk=>⟨d.7<|Ϩ k,sI d.3 k⟩⟩
theorem S.loc(h:S g a O Q w n y st)(h1:1<=lid):S g a O Q w (n+2) y (st.loc lid):=by
 unfold St.loc
 induction hl:lk lid st.ϳ with
 |some x=>exact h.le<|Ρ n 2
 |none=>
  refine h.vs (.of rfl rfl (ϛ _) (λ_ h=>h) (λ_ _ h=>h) (λx k h=>lz h) (λ_ _ h=>oV h) (λ_ _ h=>h) rfl) rfl rfl rfl rfl rfl rfl rfl rfl rfl rfl h.5.1.5 ⟨λl p e=>(sF e).elim (λe=>?_) λq=>⟨_,lid,q.2.symm,q.1.symm,h1,Ϟ⟩,λq=>(h.5.3.2 q).imp λx q=>q.imp_right lz,h.5.3.3⟩
   (have d:=h.5.5.Bd;⟨Ι d.1,Ι d.2,Ι d.3,JC d.4,Ι d.5,Ι d.6,λk=>⟨d.7<|Ϩ k,sI d.4 k,hl⟩⟩)
  refine(h.5.3.1 l p e).elim λx q_=>?_
  exact q_.elim λl' q=>⟨x,l',q.1,q.2.1,q.2.2.1,lz q.2.2.2⟩
theorem sH(h:S g a O Q w n y st): ∃x:Nat,st.lo lid=x/\(st.loc lid).locals[x]? =some (kd lid)/\lk lid (st.loc lid).ϳ=some (x:Int):=by
 unfold St.loc St.lo
 induction hl:lk lid st.ϳ with
 |some p=>
  obtain⟨x,l,e1,e2,_,e3⟩:=h.5.3.1 _ _ hl
  exact⟨x,e1,(aO.mp e2)▸e3,hl.trans<|congrArg some e1⟩
 |none=>exact⟨st.locals.length,rfl,Ϟ,cY hl⟩
theorem oW:(st.loc lid).cur=st.cur/\(st.loc lid).pa=st.pa/\(st.loc lid).code=st.code/\(st.loc lid).nt=st.nt:=by
 unfold St.loc
 cases lk lid st.ϳ<;>exact⟨rfl,rfl,rfl,rfl⟩
theorem S.rd(h:S g a O Q w n y st)(hc:st.cur=[])(h1:1<=lid):S g a O Q w (n+3) y (st.rd lid):=by
 unfold St.rd
 split
 ·exact S.le (h.gQ<|hc▸.arg)<|Ρ _ 2
 ·refine(sH (lid:=lid) h).elim λx q_=>q_.elim λe1 q_=>q_.elim λe2 _=>?_
  rw[e1]
  exact(h.loc h1).add (by rw[oW.1.trans hc];exact .ld e2 .new)
theorem j_:(st.rd lid).cur=[.v<|kd lid]:=by
 unfold St.rd
 split
 ·next e=>rw[e];rfl
 ·rfl
theorem S.eff(h:S g a O Q w n y st)(hc:st.cur=[]):S g a O Q w (n+4) y st.eff:=(h.rd hc<|ώ 1).gQ<|j_▸.pv
theorem S.jmp{wh:Bool}{l:Int}(h:S g a O Q w n y st)(hc:st.cur=[])(hl:lid=2∨lid=12)(j: ∀s:St,(∀e∈st.lg,e∈s.lg)->∀op,Jp s op l st.pa []):S g a O Q w (n+4) y (st.jmp lid wh l):=by
 have h2:=h.rd (lid:=lid) hc (by omega)
 refine h2.add ?_
 rw[j_,h2.2,<-h.2,show kd lid=1 by rcases hl with e|e<;>rw[e]<;>rfl]
 have h3:=(S.refl h.5).rd (lid:=lid) hc (by omega)
 exact .bb (by induction wh<;>simp) (j ((st.rd lid).add (if wh then 58 else 57) (.i l) []) h3.1.lg _)<|h3.2▸.new
theorem S.box{k:Int}(h:S g a O Q w n y st)(hc:st.cur=[.v k]):S g a O Q w (n+1) y (st.box k)/\(st.box k).cur=[if pW k then .g k else .v k]:=by
 unfold St.box
 induction e:pW k with
 |true=>exact⟨h.gQ<|hc▸.box e,rfl⟩
 |false=>exact⟨h.le<|ϰ n,hc⟩
inductive Sc(st:St)(l:Int):Prop
 |mk {p X:Pa}:⟨l,[],p⟩∈st.lg->st.pa=p++X->(∀x∈X,x.2<=1)->st.path l=p.map Ϣ->Sc st l
inductive Ar(st:St)(sc:List Int)(b1 b2:Bool):Prop
 |mk (s: ∀l∈sc,Sc st l) (r:b1=false->∀x∈st.pa,x.2<=1) (t:b2=true->∃(P Y:Pa)(r:Int),st.pa=P++(r,1)::Y/\∀x∈Y,x.2=0)
theorem Sc.go{l:Int}(h:Sc st l)(h1: ∀e∈st.lg,e∈st'.lg)(h2:st'.pa=st.pa)(h3:st'.d9=st.d9):Sc st' l:=
 h.casesOn λi e q p=>⟨h1 _ i,h2.trans e,q,(congrArg (λz=>(lk l z).getD []) h3).trans p⟩
theorem DF{l:Int}(h:Sc st l):st.path l<+:st.regions:=by
 obtain⟨i,e,_,p⟩:=h
 unfold St.regions
 rw[p,e,Ξ]
 exact aH _ _
theorem Sc.jp{l:Int}(h:Sc st l):(st.same l=true->∀s:St,(∀e∈st.lg,e∈s.lg)->∀op,Jp s op l st.pa [])/\∀s:St,(∀e∈st.lg,e∈s.lg)->Jp s 221 l st.pa []:=by
 obtain⟨i,e,q,p⟩:=h
 refine⟨λhs s k op=>?_,λs k=>⟨k _ i,rfl,.eq,by rw[e];exact .out rfl q⟩⟩
 unfold St.same St.regions at hs
 rw[beq_iff_eq,p,ς,ς,e,θ] at hs
 refine⟨k _ i,rfl,.eq,?_⟩
 rw[e,tG.mp<|Nat.left_eq_add.mp hs,Ν]
 exact .eq
theorem S.pb{l:Int}(h:S g a O Q w n y st)(s:Sc st l):S g a O Q w n y (st.pb l):=h.ϴ<|DF s
theorem S.goto{l:Int}(h:S g a O Q w n y st)(hc:st.cur=[])(s:Sc st l):S g a O Q w (n+1) y (st.goto l):=by
 unfold St.goto
 induction e:st.same l with
 |true=>exact(h.pb s).br (.inl hc) (by show Jp (st.pb l) 56 l st.pa st.cur;rw[hc];exact s.jp.1 e (st.pb l) (λ_ m=>m) _)
 |false=>exact(h.pb s).lv hc<|s.jp.2 (st.pb l) λ_ m=>m
theorem Jp.new{x:List Slot}{p:Pa}{s:St}{op l:Int}(h:l=st.made-1)(k: ∀e∈(st.nl x p).lg,e∈s.lg):Jp s op l p x:=⟨k ⟨st.made-1,x,p⟩<|Ε _<|.head _,h.symm,.eq,.eq⟩
theorem S.w9{wv l:Int}(h:S g a O Q w n y st)(hc:st.cur=[])(hl:lid=2∨lid=12)(s:Sc st l):S g a O Q w (n+6) y (st.w9 lid wv l)/\(st.w9 lid wv l).cur=[]:=by
 unfold St.w9
 induction e:st.same l with
 |true=>exact⟨((h.pb s).jmp hc hl<|s.jp.1 e).le<|Ρ _ 2,rfl⟩
 |false=>
  have k:=(S.refl (h.nl).5).jmp (wh:=1-wv !=0) hc hl λs k op=>.new rfl k
  exact⟨(((h.nl).jmp hc hl λs k op=>.new rfl k).goto rfl<|s.go (λe m=>k.1.lg e<|Κ _ m) k.2 k.3).mark rfl k.2,rfl⟩
theorem S.lO{o:Option Nat}(h:S g a O Q w n y st)(hc:st.cur=[])(ho:match o with
 |none=>∃(P Y:Pa)(r:Int),st.pa=P++(r,1)::Y/\∀x∈Y,x.2=0
 |some lid=>lid=5∨lid=6∨lid=13):S g a O Q w (n+5) y (st.lO o)/\(st.lO o).cur=[]:=by
 induction o with
 |none=>
  obtain⟨P,Y,r,e,q⟩:=ho
  exact⟨S.le (h.end_ (by rw[hc,e];exact .OP q))<|Ρ _ 4,rfl⟩
 |some lid=>
  have h2:=(h.rd (lid:=lid) hc (by omega)).box j_
  refine⟨h2.1.end_ ?_,rfl⟩
  rw[h2.2]
  rcases ho with rfl|rfl|rfl
  ·exact .lO<|.inr<|.inl rfl
  ·exact .lO<|.inr<|.inr ⟨17,rfl⟩
  ·exact .lO<|.inr<|.inr ⟨18,rfl⟩
noncomputable abbrev fO(p:Pa)(f:List (Int×Int)):List Lb:=f.map λx=>⟨x.1,[],p⟩
inductive Gi(g:Bool)(a st0:St)(O:List Lb)(Q:Pa)(w:List (Option Row))(n:Nat)(y:Int×Int)(r:Nat)(q:List Int×List (Int×Int)×St):Prop
 |mk (s:S g a (fO a.pa q.2.1++O) Q w n y q.2.2) (c:q.2.2.cur=[]) (u: ∀e∈st0.lg,e∈q.2.2.lg) (j: ∀l∈q.1,∀s:St,(∀e∈q.2.2.lg,e∈s.lg)->Jp s 69 l a.pa []) (f: ∀x∈q.2.1,Sc st0 x.2) (z:q.1.length+r<=2/\q.2.1.length<=q.1.length)
theorem CH{st0:St}(h0:st0.pa=a.pa/\st0.d9=a.d9): ∀(ls gs:List Int)(f:List (Int×Int))(st:St),Gi g a st0 O Q w n y ls.length (gs,f,st)->(∀l∈ls,Sc st0 l)->Gi g a st0 O Q w n y 0 (St.goals ls gs f st):=by
 intro ls
 induction ls with
 |nil=>exact λgs f st i _=>i
 |cons l r ih=>
  intro gs f st i hs
  have sl:Sc st l:=(hs l<|.head _).go i.3 (i.1.2.trans h0.1.symm)<|i.1.3.trans h0.2.symm
  have z:(gs.length+(r.length+1)<=2)/\f.length<=gs.length:=i.6
  have zb:gs.length<big:=Τ (η (Ρ _ _) z.1) (by decide)
  have z2:(gs++[l]).length+r.length<=2:=by rw[θ,bu];omega
  unfold St.goals
  split
  ·next e=>
   refine ih _ _ _ ⟨(i.1.pb sl).ϴ zb,i.2,i.3,λl' m=>(Ζ.mp m).elim (i.4 l') λm s k=>?_,i.5,z2,η z.2<|θ▸(Ρ _ _)⟩ λl m=>hs l<|.tail _ m
   rw[υ.mp m,<-i.1.2]
   exact sl.jp.1 e s k _
  ·next e=>
   refine ih _ _ _ ⟨?_,i.2,λe m=>Κ _<|i.3 e m,λl' m=>(Ζ.mp m).elim (λm s k=>i.4 l' m s λe m=>k e<|Κ _ m) λm s k=>?_,λx m=>(Ζ.mp m).elim (i.5 x) λm=>υ.mp m▸hs l (.head _),by rw[θ,bu];omega,by rw[θ,θ];exact bM z.2 _⟩ λl m=>hs l<|.tail _ m
   ·refine(((i.1.nl).ϴ zb).ϴ<|Τ z.2 zb).perm ?_
    unfold fO
    rw[Ξ,Α,show st.pa=a.pa from i.1.2]
    exact Bl.symm
   ·rw[υ.mp m,<-i.1.2]
    exact .new rfl k
theorem Ed{st0:St}(h0:st0.pa=a.pa/\st0.d9=a.d9): ∀(f:List (Int×Int))(n:Nat)(st:St),S g a (fO a.pa f++O) Q w n y st->st.cur=[]->(∀e∈st0.lg,e∈st.lg)->(∀x∈f,Sc st0 x.2)->S g a O Q w (n+2*f.length) y (St.pJ f st)/\(St.pJ f st).cur=[]:=by
 intro f
 induction f with
 |nil=>exact λn st h c _ _=>⟨h,c⟩
 |cons x r ih=>
  intro n st h c u hs
  have:=ih _ _ ((S.mark h c h.2).goto (l:=x.2) c<|(hs x<|.head _).go (λe m=>Κ _<|u e m) (h.2.trans h0.1.symm)<|h.3.trans h0.2.symm) rfl (λe m=>Κ _<|u e m) λx m=>hs x<|.tail _ m
  exact⟨this.1.le (by rw[Bk];omega),this.2⟩
theorem S.tab{ls:List Int}(h:S g a O Q w n y st)(hc:st.cur=[])(hz:ls.length<=2)(hs: ∀l∈ls,Sc st l):S g a O Q w (n+10) y (st.tab ls)/\(st.tab ls).cur=[]:=by
 have i:=CH ⟨h.2,h.3⟩ ls [] [] st ⟨h,hc,λ_ m=>m,λl m=>(ay m),λx m=>(ay m),⟨by rw[EX,aP];exact hz,ώ _⟩⟩ hs
 unfold St.tab
 generalize St.goals ls [] [] st=q at i
 obtain⟨gs,f,sq⟩:=q
 have h1:=(i.1.rd (lid:=3) i.2 (by decide)).ϴ (p:=gs.length<=big)<|η i.6.1 (by decide)
 have k1:=((S.refl i.1.5).rd (lid:=3) i.2 (by decide)).1.lg
 have h2:S g a (fO a.pa f++O) Q w (n+4) y (((sq.rd 3).ϴ (gs.length<=big)).add 69 (.ts gs) []):=h1.add (by
  rw[show((sq.rd 3).ϴ<|gs.length<=big).cur=[.v<|kd 3] from j_,h1.2]
  exact .sw i.6.1 (λl m=>i.4 l m _ k1) (h1.2▸.new))
 dsimp only
 induction f with
 |nil=>exact⟨h2.le<|Ρ _ 6,rfl⟩
 |cons x f=>
  generalize hst:((sq.rd 3).ϴ<|gs.length<=big).add 69 (.ts gs) []=s1 at h2
  have c1:s1.cur=[]:=hst▸rfl
  have u1: ∀e∈st.lg,e∈s1.lg:=λe m=>hst▸k1 e (i.3 e m)
  have h4:=Ed (st0:=st) ⟨h.2,h.3⟩ (x::f) _ _ (((h2.nl (x:=[]) (p:=s1.pa)).br (l:=s1.made-1) (nx:=[]) (.inl c1) (by show Jp _ _ _ s1.pa s1.cur;rw[c1];exact .new rfl λ_ m=>m)).perm Bl.symm) rfl (λe m=>Κ _<|u1 e m) i.5
  exact⟨(h4.1.mark h4.2<|h4.1.2.trans h2.2.symm).le (by have:=η i.6.2 (Nat.le_of_add_right_le i.6.1);omega),h4.2⟩
theorem S.sL{l:Int}(h:S g a (⟨l,[],[]⟩::O) Q w n y st)(hr:st.bZ=none)(hp:g=true->0<=st.fJ):S g a O Q w n y (st.sL l):=by
 have t:=h.5.2
 have od:=bk.mp t.7
 refine⟨h.ut (.of rfl rfl (ϛ _) (λ_ h=>h) (λ_ _ h=>h) (λ_ _ h=>h) (λ_ _ h=>h) (λ_ _ h=>h) rfl),h.2,h.3,h.4.same rfl rfl,⟨h.5.1.1,h.5.1.2,h.5.1.3,h.5.1.4,h.5.1.5,h.5.1.6,h.5.1.7⟩,⟨λj z e=>(t.1 j z e).mono (λ_ _ h=>h) (λ_ _ h=>h) (λ_ h=>h) λ_ _ f=>f.of rfl rfl rfl,t.2,t.3,t.4,t.5,λe m=>(t.6 e (.tail _ m)).of rfl rfl rfl,od.2,λk e=>?_,λe m=>(t.9 e m).elim (λm=>(Θ.mp m).elim (λe=>.inr (.inl (congrArg (λz=>some (Lb.l z)) e.symm))) .inl) λq=>.inr (q.imp (λq=>by rw[hr] at q;exact Ϝ q) λq=>q.of rfl rfl rfl λ_ _ h=>h)⟩,
  ⟨h.5.3.1,h.5.3.2,λq _=>hp q⟩,⟨h.5.4.1,h.5.4.2,λc m=>(h.5.4.3 c m).go (.of rfl rfl (ϛ _) (λ_ h=>h) (λ_ _ h=>h) (λ_ _ h=>h) (λ_ _ h=>h) (λ_ _ h=>h) rfl),h.5.4.4,h.5.4.5⟩,⟨h.5.5.1,h.5.5.2,h.5.5.3,h.5.5.4,h.5.5.5,h.5.5.6,h.5.5.7⟩⟩
 have e:=ξ e
 subst e
 exact⟨(t.6 _<|.head _).of rfl rfl rfl,λf m=>(od.1 f m).symm⟩
theorem S.rl(h:S g a O Q w n y st)(hp:g=true->0<=st.fJ):S g a O Q w n y st.rl/\(∃k,st.rl.bZ=some k)/\st.rl.cur=st.cur:=by
 unfold St.rl
 induction e:st.bZ with
 |some k=>exact⟨h,⟨k,e⟩,rfl⟩
 |none=>exact⟨h.nl.sL e hp,⟨_,rfl⟩,rfl⟩
theorem S.rp(h:S g a O Q w n y st):S g a O Q w (n+1) y st.rp/\(∃x:Nat,st.rp.fJ=x/\st.rp.locals[x]? =some 13)/\st.rp.cur=st.cur:=by
 unfold St.rp
 split
 ·exact⟨h.vs (.of rfl rfl (ϛ _) (λ_ h=>h) (λ_ _ h=>h) (λx k h=>lz h) (λ_ _ h=>h) (λ_ _ h=>h) rfl) rfl rfl rfl rfl rfl rfl rfl rfl rfl rfl h.5.1.5 ⟨λl p e=>by
   refine(h.5.3.1 l p e).elim λx q_=>q_.elim λl' q=>?_
   exact⟨x,l',q.1,q.2.1,q.2.2.1,lz q.2.2.2⟩,λ_=>⟨_,rfl,Ϟ⟩,λ_ _=>Ϧ _⟩ (have d:=h.5.5.Bd;⟨d.1,d.2,d.3,d.4,d.5,d.6,d.7⟩),⟨_,rfl,Ϟ⟩,rfl⟩
 ·next e=>exact⟨h.le<|ϰ n,h.5.3.2<|Ϭ.mp e,rfl⟩
theorem S.out(h:S g a O Q w n y st)(hr: ∃k,st.bZ=some k)(hc:st.cur=[])(hp: ∀x∈st.pa,x.2<=1):S g a O Q w (n+1) y (st.add 221 (.i<|st.bZ.getD 0) []):=by
 refine hr.elim λk e=>?_
 rw[e]
 exact h.lv hc ⟨(h.5.2.8 k e).1.1,rfl,.eq,.out (p:=[]) rfl hp⟩
theorem S.ret(h:S g a O Q w n y st)(hc:st.cur=[])(hp: ∀x∈st.pa,x.2<=1):S g a O Q w (n+6) y (st.ret g)/\(st.ret g).cur=[]:=by
 have em {s:St} (q:s.regions.isEmpty=true):s.pa=[]:=List.map_eq_nil_iff.mp<|g5.mp q
 unfold St.ret
 induction g with
 |false=>
  dsimp only
  rw[if_neg ϟ]
  split
  ·next q=>exact⟨S.le (h.end_ (by rw[em q,hc];exact .ret))<|Ρ _ 5,rfl⟩
  ·have r:=h.rl<|λe=>ff e
   exact⟨(r.1.out r.2.1 (r.2.2.trans hc)<|r.1.2▸h.2▸hp).le<|Ρ _ 5,rfl⟩
 |true=>
  dsimp only
  rw[if_pos rfl]
  have h1:=h.rd (lid:=4) hc (by decide)
  split
  ·next q=>exact⟨(h1.end_ (by rw[em q,j_];exact .ret)).le<|Ρ _ 2,rfl⟩
  ·obtain⟨p1,⟨x,e1,e2⟩,p3⟩:=h1.rp
   have r:=p1.rl λ_=>by rw[e1];exact Ϧ _
   rw[if_pos rfl,e1]
   have h2:=r.1.add (by
    rw[r.2.2,p3,j_]
    exact .sv ((((S.refl p1.5).rl λ_=>by rw[e1];exact Ϧ _).1.1.loc) _ _ e2) .new)
   exact⟨h2.out r.2.1 rfl<|h2.2▸h.2▸hp,rfl⟩
variable{b s:St}{Q':Pa}{w':List (Option Row)}{k n':Nat}{y':Int×Int}{x:List Slot}{P:Pa}{r r' kind:Int}
theorem Ic.new{v:Int}(h:st.cur=x):Ic (st.add op (.i v) nx) st.code.length op v x:=by subst h;exact⟨Ϟ⟩
theorem Ic.add{p:Nat}{o v:Int}(h:Ic st p o v x):Ic (st.add op od nx) p o v x:=h.go .add
theorem Ic.of{p:Nat}{o v:Int}(h:Ic st p o v x)(e:st'.code=st.code):Ic st' p o v x:=h.casesOn λh=>⟨e▸h⟩
theorem cX:(st.add op od nx).code.length=st.code.length+1:=θ
theorem S.note{v:Int}(h:S g a O Q w n y st)(hr:r<=st.rc):S g a O Q w n y (st.note r v):=
 h.vs (.of rfl rfl (ϛ _) (λ_ h=>h) (λ_ _ h=>h) (λ_ _ h=>h) (λ_ _ h=>h) (λ_ _ h=>oV h) rfl) rfl rfl rfl rfl rfl rfl rfl rfl rfl rfl (λk x e=>(sF e).elim (h.5.1.5 k x) λq=>q.1▸hr) ⟨h.5.3.1,h.5.3.2,h.5.3.3⟩ ⟨h.5.5.1,h.5.5.2,h.5.5.3,h.5.5.4,h.5.5.5,h.5.5.6,h.5.5.7⟩
inductive Tn(g:Bool)(O:List Lb)(Q:Pa)(w:List (Option Row))(n:Nat)(y:Int×Int)(r kind:Int)(lid:Nat)(st v:St):Prop
 |mk (s:S g st O Q w (n+4) y v) (c:v.cur=[]) (t:Tk v r (nE kind) lid st.code.length v.code.length)
theorem Q3{l:Nat}{wh:Option Nat}(ro:RowW kind l wh)(h:pW kind=false):pW (nE kind)=false:=by
 unfold nE
 split
 ·rfl
 ·exact h
theorem Q9{l:Nat}{wh:Option Nat}(ro:RowW kind l wh)(h:pW kind=true):nE kind=kind:=if_neg λe=>by rw[e] at h;exact ff h
inductive Ke(g:Bool)(a:St)(O:List Lb)(Q:Pa)(w:List (Option Row))(n:Nat)(y:Int×Int)(r:Int)(lid:Nat)(x0:List Slot)(l:Nat)(v:St):Prop
 |mk (s:S g a O Q w (n+1) y v) (c:v.cur=[]) (x: ∃x:Nat,lk lid v.ϳ=some (x:Int)/\lk r v.nt=some (x:Int)/\Ic v l 65038 x x0) (l:v.code.length=l+1)
theorem S.Rz{k:Int}{z:Nat}(h:S g a O Q w n y s)(hn:lk r s.nt=none)(hr:r<=s.rc)(hp:s.pa=P++[(r,m)])(h1:0<m)(h2:m<3)(e2:s.locals[z]? =some k)(e3:lk lid s.ϳ=some (z:Int))(hc:(pW k=false/\s.cur=[.x r.toNat k])∨s.cur=[.u r.toNat k]):Ke g a O Q w n y r lid s.cur s.code.length ((s.add 65038 (.i z) []).note r z):=
 ⟨(h.note hr).add (hc.elim (λq=>by
  rw[show(s.note r z).cur=_ from q.2,show(s.note r z).pa=_ from hp]
  exact .sx e2 q.1 (cY hn) h1 h2 (hp▸.new (st:=s.note r z))) λq=>by
  rw[show(s.note r z).cur=_ from q,show(s.note r z).pa=_ from hp]
  exact .su e2 (cY hn) h1 h2 (hp▸.new)),rfl,⟨z,e3,cY hn,(Ic.new (nx:=[]) rfl).of rfl⟩,cX (nx:=[])⟩
theorem S.keep(h:S g a O Q w n y st)(hl:1<=lid)(hn:lk r st.nt=none)(hr:r<=st.rc)(hp:st.pa=P++[(r,m)])(h1:0<m)(h2:m<3)(hc:(pW (kd lid)=false/\st.cur=[.x r.toNat<|kd lid])∨st.cur=[.u r.toNat<|kd lid]):Ke g a O Q w (n+2) y r lid st.cur st.code.length (((st.loc lid).add 65038 (.i<|st.lo lid) []).note r<|st.lo lid):=by
 refine(sH (lid:=lid) h).elim λz q_=>q_.elim λe1 q_=>q_.elim λe2 e3=>?_
 refine(oW (st:=st) (lid:=lid)).elim λq1 q_=>q_.elim λq2 q_=>q_.elim λq3 q4=>?_
 have s2:=h.loc hl
 have k:=s2.Rz (q4▸hn) (s2.5.1.1.trans h.5.1.1.symm▸hr) (q2.trans hp) h1 h2 e2 e3<|q1▸hc
 rw[q1,q3] at k
 rw[e1]
 exact k
theorem Inv.taken{wh:Option Nat}(i:Inv g O Q w n y st)(ro:RowW kind lid wh)(hc:st.cur=[.x r.toNat<|nE kind])(hp:st.pa=P++[(r,m)])(h1:0<m)(h2:m<3)(hn:lk r st.nt=none):Tn g O Q w n y r kind lid st (st.taken kind lid r):=by
 have h:=S.refl i
 have hr:r<=st.rc:=i.1.3 (r,m)<|hp▸Ε _ (.head _)
 unfold St.taken
 by_cases l0:lid=0
 ·rw[if_pos l0]
  exact⟨S.le ((h.note hr).add (by
   rw[show(st.note r<|-1).cur=_ from hc,show(st.note r<|-1).pa=_ from hp]
   exact .px (cY hn) h1 h2 (hp▸.new))) (Ρ _ 3),rfl,(cX (nx:=[]))▸.pop l0 ((Ic.new (nx:=[]) hc).of rfl) (cY hn)⟩
 ·rw[if_neg l0]
  refine(ro.2.resolve_left l0).elim λhl1 q_=>q_.elim λ_ hl3=>?_
  induction e:pW kind with
  |true=>
   rw[if_pos rfl]
   have ek:=Q9 ro e
   rw[ek] at hc hl3
   have s1:=h.gQ (op:=165) (x:=kind) (nx:=[.u r.toNat kind])<|hc▸.Ez e
   obtain⟨k1,k2,⟨x,k3,k4,k5⟩,k6⟩:=(S.refl s1.5).keep hl1 hn hr hp h1 h2<|.inr (by rw[hl3];rfl)
   rw[cX] at k5 k6
   exact⟨s1.tr k1,k2,k6▸ek.symm▸.un l0 k3 ((Ic.new (nx:=[.u r.toNat kind]) hc).go k1.1) k5 k4⟩
  |false=>
   rw[if_neg ϟ]
   obtain⟨k1,k2,⟨x,k3,k4,k5⟩,k6⟩:=h.keep hl1 hn hr hp h1 h2<|.inl ⟨hl3▸Q3 ro e,hl3▸hc⟩
   exact⟨k1.le<|ϰ _,k2,k6▸.st l0 k3 (hc▸k5) k4⟩
theorem FW{α:Type}{l v:List α}{k:Nat}:(l++v)[l.length+k]? =v[k]? :=by rw[aA<|Ρ _ _,dz]
inductive Ak(g:Bool)(O:List Lb)(Q:Pa)(w:List (Option Row))(n:Nat)(y:Int×Int)(r kind no yes:Int)(st v:St):Prop
 |mk (s:S g st O Q w n y v) (c:v.cur=[.x r.toNat kind]) (l:v.code.length=st.code.length+6) (i0:Ic v st.code.length 117 kind [.x r.toNat 12]) (i1:Ic v (st.code.length+1) 37 0 [.x r.toNat kind]) (i2:Ic v (st.code.length+2) 58 yes [.x r.toNat kind,.x r.toNat kind]) (i3:Ic v (st.code.length+3) 38 0 [.z]) (i4:Ic v (st.code.length+4) 32 0 []) (i5:Ic v (st.code.length+5) 56 no [.c 0]) (y:lk yes v.ϙ=some ((st.code.length+6:Nat):Int))
theorem Inv.ask{no yes:Int}(i:Inv g (⟨yes,[.x r.toNat kind],st.pa⟩::⟨no,[.b],st.pa⟩::O) Q w n y st)(hc:st.cur=[.x r.toNat 12]):Ak g (⟨no,[.b],st.pa⟩::O) Q w (n+7) y r kind no yes st (st.ask kind r.toNat no yes):=by
 have ec:(st.ask kind r.toNat no yes).code=st.code++[⟨117,.i kind,[.x r.toNat 12],st.pa⟩,⟨37,.i 0,[.x r.toNat kind],st.pa⟩,⟨58,.i yes,[.x r.toNat kind,.x r.toNat kind],st.pa⟩,⟨38,.i 0,[.z],st.pa⟩,⟨32,.i 0,[],st.pa⟩,⟨56,.i no,[.c 0],st.pa⟩]:=by
  rw[<-hc]
  show(((((st.code++[_])++[_])++[_])++[_])++[_])++[_]=_
  rw[Α,Α,Α,Α,Α];rfl
 have el:(st.ask kind r.toNat no yes).code.length=st.code.length+6:=by rw[ec,θ];rfl
 have at_ {k:Nat}:=(congrArg (λl:List d_=>l[st.code.length+k]?) ec).trans FW
 exact⟨(((((((S.refl i).gQ<|hc▸.GO).gQ .dup).add<|.bx ⟨(i.2.6 _<|.head _).1,rfl,.eq,.eq⟩ .new).gQ .pz).gQ .c0).br (.inr rfl) ⟨(i.2.6 _<|.tail _<|.head _).1,rfl,.cb,.eq⟩).mark rfl rfl,rfl,el,⟨at_ (k:=0)⟩,⟨at_⟩,⟨at_⟩,⟨at_⟩,⟨at_⟩,⟨at_⟩,el▸cY (i.2.6 _<|.head _).3⟩
theorem Sl{wv:Nat}(h:S g a O Q w n y st)(hc:st.cur=[])(hw:wv=2∨wv=12):((st.rd wv).code.length=st.code.length+1)/\((wv=12/\Ic (st.rd wv) st.code.length 65033 0 [])∨∃x:Nat,wv=2/\lk 2 (st.rd wv).ϳ=some (x:Int)/\Ic (st.rd wv) st.code.length 65036 x []):=by
 rcases hw with rfl|rfl
 ·refine(sH (lid:=2) h).elim λx q_=>q_.elim λe1 q_=>q_.elim λe2 e3=>?_
  refine(oW (st:=st) (lid:=2)).elim λq1 q_=>q_.elim λq2 q_=>q_.elim λq3 q4=>?_
  rw[show st.rd 2=(st.loc 2).add 65036 (.i x) [.v<|kd 2] by unfold St.rd;rw[if_neg (by decide),e1],<-q3]
  exact⟨cX,.inr ⟨x,rfl,e3,.new<|q1.trans hc⟩⟩
 ·exact⟨cX,.inl ⟨rfl,.new hc⟩⟩
theorem zw{wv:Nat}(hw:wv=2∨wv=12):(st.rd wv).cur=[.v 1]:=j_.trans<|hw.elim (λe=>e▸rfl) λe=>e▸rfl
noncomputable abbrev St.tl(s:St)(no:Int):St:=(((s.add 32 (.i 0) [.v 1,.c 0]).add 65027 (.i 0) [.b]).mark no).add 65041 (.i 0) []
theorem Tq{no:Int}{wv l:Nat}(e:s.code.length=l+1)(q:(wv=12/\Ic s l 65033 0 [])∨∃x:Nat,wv=2/\lk 2 s.ϳ=some (x:Int)/\Ic s l 65036 x [])(c:s.cur=[.v 1])(hn:lk no s.ϙ=none)(u:vZ s (s.tl no)):Tl (s.tl no) wv l/\lk no (s.tl no).ϙ=some ((l+3:Nat):Int):=by
 have l2:(s.add 32 (.i 0) [.v 1,.c 0]).code.length=l+2:=cX.trans (congrArg (· +1) e)
 have l3:((s.add 32 (.i 0) [.v 1,.c 0]).add 65027 (.i 0) [.b]).code.length=l+3:=cX.trans (congrArg (· +1) l2)
 refine⟨⟨q.imp (λq=>⟨q.1,q.2.gk u⟩) λ⟨x,q⟩=>⟨x,q.1,u.ol _ _ q.2.1,q.2.2.gk u⟩,?_,?_,?_⟩,?_⟩
 ·exact e▸((((Ic.new c).add).go<|Up.mark).add)
 ·exact l2▸(((Ic.new (v:=0) (nx:=[.b]) rfl).go<|Up.mark (l:=no)).add)
 ·exact l3▸(Ic.new (st:=((s.add 32 (.i 0) [.v 1,.c 0]).add 65027 (.i 0) [.b]).mark no) (op:=65041) (v:=0) (nx:=[]) rfl)
 ·rw[<-l3]
  exact cY hn
inductive Fe(g:Bool)(O:List Lb)(Q:Pa)(w:List (Option Row))(n:Nat)(y:Int×Int)(r kind no:Int)(lid wv:Nat)(st v:St):Prop
 |mk (s:S g st O Q w n y v) (d:Cd v) (t: ∃p:Nat,Tk v r (nE kind) lid st.code.length p/\Tl v wv p/\lk no v.ϙ=some ((p+3:Nat):Int))
theorem S.tl{no:Int}{wv:Nat}(h:S g a (⟨no,[.b],st.pa⟩::O) Q w n y st)(hw:wv=2∨wv=12)(hc:st.cur=[])(hp:st.pa=P++[(r,2)]):S g a O Q w (n+7) y ((st.rd wv).tl no)/\Cd ((st.rd wv).tl no)/\Tl ((st.rd wv).tl no) wv st.code.length/\lk no ((st.rd wv).tl no).ϙ=some ((st.code.length+3:Nat):Int):=by
 have h1:=h.rd (lid:=wv) hc (by omega)
 have pe:=h1.2.trans h.2.symm
 have h3:=(((S.refl h1.5).gQ (op:=32) (x:=0)<|(zw hw)▸.c1).gQ .gt).mark rfl pe
 have h4:=h3.end_ (nx:=[]) (by rw[h3.2,pe,hp];exact .Ao)
 refine(Sl h hc hw).elim λe q=>?_
 exact⟨h1.tr h4,h3.cd rfl,Tq e q (zw hw) (h1.5.2.6 _<|.head _).3 h4.1.tovZ⟩
theorem Inv.QD{no:Int}{wh:Option Nat}{wv:Nat}(i:Inv g (⟨no,[.b],st.pa⟩::O) Q w n y st)(ro:RowW kind lid wh)(hw:wv=2∨wv=12)(hc:st.cur=[.x r.toNat<|nE kind])(hp:st.pa=P++[(r,2)])(hn:lk r st.nt=none):Fe g O Q w (n+11) y r kind no lid wv st (((st.taken kind lid r).rd wv).tl no):=by
 have t:=i.taken ro hc hp (by decide) (by decide) hn
 have s0:=t.1.5
 rw[<-t.1.2] at s0
 refine((S.refl s0).tl hw t.2<|t.1.2.trans hp).elim λe1 q_=>q_.elim λe2 q_=>q_.elim λe3 e4=>?_
 exact⟨t.1.tr e1,e2,_,t.3.go e1.1,e3,e4⟩
inductive YX(g:Bool)(O:List Lb)(Q:Pa)(w:List (Option Row))(n:Nat)(y:Int×Int)(r kind:Int)(lid wv:Nat)(st v:St):Prop
 |mk (s:S g st O Q w n y v) (f:Fi v r kind lid wv st.code.length) (d:Cd v)
theorem Inv.uI{wh:Option Nat}{wv:Nat}(i:Inv g O Q w n y st)(ro:RowW kind lid wh)(hw:wv=2∨wv=12)(hc:st.cur=[.x r.toNat 12])(hp:st.pa=P++[(r,2)])(hn:lk r st.nt=none):YX g O Q w (n+18) y r kind lid wv st (st.uI kind lid wv r):=by
 unfold St.uI
 have h0:=(S.refl i).nl (x:=[.b]) (p:=st.pa)
 dsimp only
 by_cases k1:kind= -1
 ·rw[if_pos k1]
  have e12:nE kind=12:=if_pos k1
  obtain⟨f1,f2,p,f3,f4,f5⟩:=Inv.QD (st:=st.nl [.b] st.pa) h0.5 ro hw (e12.symm▸hc) hp hn
  exact⟨(h0.tr f1).le<|Ρ _ 7,.all k1 (e12▸f3) f4,f2⟩
 ·rw[if_neg k1]
  have e12:nE kind=kind:=if_neg k1
  have h1:=h0.nl (x:=[.x r.toNat kind]) (p:=st.pa)
  have k:=h1.5.ask (st:=(st.nl [.b] st.pa).nl [.x r.toNat kind] st.pa) hc
  have s0:=k.1.5
  rw[<-k.1.2] at s0
  obtain⟨f1,f2,p,f3,f4,f5⟩:=s0.QD ro hw (e12.symm▸k.2) (k.1.2.trans hp) hn
  rw[e12,k.3] at f3
  exact⟨(h1.tr k.1).tr f1,.ask k1 (k.4.go f1.1) (k.5.go f1.1) (k.6.go f1.1) (k.7.go f1.1) (k.8.go f1.1) (k.9.go f1.1) (f1.1.dw _ _ k.10) f5 f3 f4,f2⟩
theorem S.np(h:S g a O Q w n y st):Np (st.add op od nx):=λl p q=>by
 obtain⟨k,e1,e2⟩:=(h.5.2.5 l p q).2
 rw[cX];omega
theorem Di{β:Type}{k:Int}{l:List (Int×β)}{v:β}(h:lk k l=some v): ∃x∈l,x.1=k:=by
 induction l with
 |nil=>exact Ϝ h
 |cons x l ih=>
  by_cases c:x.1=k
  ·exact⟨x,.head _,c⟩
  ·have h:(if x.1=k then some x.2 else lk k l)=some v:=h
   rw[if_neg c] at h
   exact(ih h).imp λy q=>⟨.tail _ q.1,q.2⟩
theorem S.As(h:S g a O Q w n y st)(hc:st.cur=[]):S g a O Q w (n+1) y st.As/\st.As.cur=[]/\Np st.As:=by
 unfold St.As
 cases e:st.pend with
 |true=>exact⟨h.gQ<|hc▸.Dy,rfl,h.np⟩
 |false=>
  refine⟨h.le<|ϰ n,hc,λl p (q:lk l st.ϙ=some p) z=>?_⟩
  obtain⟨x,m,e1⟩:=Di q
  have:st.pend=true:=aW.mpr ⟨x,m,by rw[e1,q,show p=st.code.length from z];exact beq_self_eq_true _⟩
  rw[e] at this;exact ff this
inductive Ok(st:St)(k:Nat)(x:List Slot):Prop
 |t:k=0->x=st.cur->Np st->Ok st k x
 |c:Cd st->Ok st k x
theorem Ok.np(h:Ok st k x):Np st:=by
 induction h with
 |t _ _ h=>exact h
 |c h=>exact h.2
theorem M.np(h:M st e)(n:Np st): ∃(p:Nat)(x:d_),lk e.l st.ϙ=some (p:Int)/\st.code[p]? =some x/\x.st=e.s/\x.pa=e.p:=by
 induction h with
 |nx a b c d=>exact⟨_,_,a,b,c,d⟩
 |en a _ _=>exact absurd rfl<|n _ _ a
theorem M.to(h:M st e)(n:Np st)(h1:st'.ϙ=st.ϙ)(h2:st'.code=st.code):M st' e:=by
 obtain⟨p,x,a,b,c,d⟩:=h.np n
 exact .nx (h1▸a) (h2▸b) c d
theorem Ex.out{p q:Pa}(h:Ex p q): ∃X,q=p++X/\∀z∈X,z.2=0:=by
 induction h with
 |mk h=>exact⟨_,rfl,h⟩
theorem j9{z:Int×Nat}{p:Pa}(m:z∈p++[(r,k)]):z∈p∨z=(r,k):=(Ζ.mp m).imp_right υ.mp
theorem Up.er:Up st (st.er k x):=⟨⟨ϓ _,λi x l e=>absurd (aM e)<|ϯ.mpr l,λz m=>(j9 m).imp_right λe=>by rw[e];exact av _,cQ<|av _,λ_ m=>m,λ_ _ h=>h,λ_ _ h=>h,λ_ _ h=>h,λ_ _ h=>h⟩,ϓ _,λc m=>.inl m⟩
theorem Up.lr:Up st st.lr:=⟨⟨ϓ _,λi x l e=>absurd (aM e)<|ϯ.mpr l,λz m=>.inl<|jC _ m,ϛ _,λ_ m=>m,λ_ _ h=>h,λ_ _ h=>h,λ_ _ h=>h,λ_ _ h=>h⟩,ϓ _,λc m=>.inl m⟩
theorem Inv.er(i:Inv g O Q w n y st)(o:Ok st k x)(hQ: ∀z∈Q,z∈Q')(hq:0<k->(st.rc+1,k)∈Q'):Inv g O Q' w (n+1) (y.1,y.2+1) (st.er k x):=by
 have rc:st.rc<=st.rc+1:=cQ<|av _
 refine⟨⟨congrArg (· +1) i.1.1,Ϯ i.1.2 rc,λz m=>(j9 m).elim (λm=>Ϯ (i.1.3 z m) rc) λe=>e▸ϛ _,λj x e z m=>Ϯ (i.1.4 j x e z m) rc,λk x e=>Ϯ (i.1.5 k x e) rc,eY.mpr ⟨i.1.6,g6 _ _,λz m e q=>by rw[υ.mp q];exact fu (i.1.3 z m)⟩,i.1.7⟩,
  ⟨λj z e=>(i.2.1 j z e).mono (λ_ _ h=>h) (λ_ _ h=>h) (λ_ h=>h) λne s f=>?_,i.2.2,i.2.3,i.2.4,i.2.5,λe m=>(i.2.6 e m).of rfl rfl rfl,i.2.7,λk e=>(i.2.8 k e).imp_left λq=>q.of rfl rfl rfl,λe m=>(i.2.9 e m).imp_right λq=>q.imp_right λq=>q.to o.np rfl rfl⟩,
  ⟨i.3.1,i.3.2,i.3.3⟩,⟨λj z e z' m p=>(i.4.1 j z e z' m p).imp_left (hQ _),λz m p=>(j9 m).elim (λm=>hQ _ (i.4.2 z m p)) λe=>by rw[e] at p⊢;exact hq p,λc m=>(i.4.3 c m).go .er,i.4.4,i.4.5⟩,⟨Ι i.5.1,Ι i.5.2,Ι i.5.3,Ι i.5.4,Ι i.5.5,JC i.5.6,λk=>⟨i.5.7 (Ϩ k),sI i.5.6 k⟩⟩⟩
 induction f with
 |nx a b c=>exact .nx a b c
 |en p q r=>
  induction o with
  |t k0 hx _=>
   refine .en p (hx.trans q) ?_
   obtain⟨X,eX,hX⟩:=r.out
   subst k0
   show Ex _ (st.pa++[(st.rc+1,0)])
   rw[eX,Α]
   exact .mk λz m=>(j9 m).elim (hX z) λe=>by rw[e]
  |c cd=>rw[cd.1 j z e p] at ne;exact ff ne.symm
inductive Lr(g:Bool)(O:List Lb)(Q:Pa)(w:List (Option Row))(n:Nat)(y:Int×Int)(k:Nat)(st v:St):Prop
 |mk (s:T g st O Q w n y v.lr) (d:Cd v.lr) (i:Iv v.lr st.pa (st.rc+1) k st.code.length v.code.length) (r:st.rc+1<=v.rc) (l:st.code.length<v.code.length)
theorem Inv.lr(h:Inv g O Q w n y st)(b:S g (st.er k x) O' Q' w' n' y' s)(cd:Cd s)(hg:st.code.length<s.code.length):Lr g O' Q' w' n' y' k st s:=by
 have i:=b.5
 have pe:s.pa=st.pa++[(st.rc+1,k)]:=b.2
 have pd:s.pa.dropLast=st.pa:=by rw[pe,jB]
 have u1:=Up.er.trans b.1 ⟨[(st.rc+1,k)],rfl,λz m=>υ.mp m▸av _⟩
 have u2:=u1.trans .lr ⟨[(st.rc+1,k)],pe,λz m=>υ.mp m▸av _⟩
 have old: ∀(j:Nat)(z:d_),s.code[j]? =some z->(st.code[j]? =some z/\j<st.code.length)∨(st.code.length<=j/\∃X,z.pa=st.pa++(st.rc+1,k)::X):=λj z e=>by
  by_cases c:j<st.code.length
  ·obtain⟨t,ht⟩:=u1.code
   rw[<-ht,Ϥ c] at e;exact .inl ⟨e,c⟩
  ·obtain⟨X,e1,_⟩:=b.1.nw j z (bW c) e
   exact .inr ⟨bW c,X,e1.trans<|Α _ [(st.rc+1,k)] X⟩
 refine⟨⟨u2,pd,b.3,⟨i.1.1,i.1.2,λz m=>i.1.3 z (jC _ m),i.1.4,i.1.5,i.1.6.sublist (List.dropLast_sublist _),i.1.7⟩,
  ⟨λj z e=>(i.2.1 j z e).mono (λ_ _ h=>h) (λ_ _ h=>h) (λ_ h=>h) λne s' f=>?_,i.2.2,i.2.3,i.2.4,i.2.5,λe m=>(i.2.6 e m).of rfl rfl rfl,i.2.7,λk e=>(i.2.8 k e).imp_left λq=>q.of rfl rfl rfl,λe m=>(i.2.9 e m).imp_right λq=>q.imp_right λq=>q.to cd.2 rfl rfl⟩,
  ⟨i.3.1,i.3.2,i.3.3⟩,⟨i.4.1,λz m=>i.4.2 z (jC _ m),λc m=>(i.4.3 c m).go .lr,i.4.4,i.4.5⟩,⟨i.5.1,i.5.2,i.5.3,i.5.4,i.5.5,η (by show s.pa.dropLast.length<=_;rw[vQ];exact qH _ _) i.5.6,λk=>⟨i.5.7 k,by rw[pe];exact dj _ (aq _ _)⟩⟩⟩,
  ⟨cd.1,cd.2⟩,⟨⟨_,rfl,hg⟩,⟨_,rfl,ώ _⟩,b.1.rc,λz m e=>?_,λj z e=>(old j z e).elim (λq=>⟨λq'=>absurd q.2 (by omega),λm=>absurd (h.1.4 j z q.1 _ m) (cy.mpr (av _))⟩) λq=>⟨λ_=>?_,λ_=>⟨vz.mpr q.1,iQ.mpr (aM e)⟩⟩,λj z e m=>(old j z e).elim (λq=>absurd (h.1.4 j z q.1 _ m) (cy.mpr (av _))) λq=>q.2⟩,b.1.rc,hg⟩
 ·induction f with
  |nx a b c=>exact .nx a b c
  |en p q r=>rw[cd.1 j z e p] at ne;exact ff ne.symm
 ·have m:z∈s.pa.dropLast:=m
  rw[pd] at m
  exact absurd (h.1.3 z m)<|cy.mpr<|e▸av _
 ·obtain⟨X,e⟩:=q.2
  rw[e];exact Ε _<|.head _
theorem RU(f:F0 (st.er k x) s)(hx:x=st.cur)(hg:st.code.length<s.code.length):F0 st s.lr:=by
 induction f with
 |no q _=>exact absurd hg (by rw[show s.code=st.code from q];exact a_ _)
 |yes q1 q2=>exact .yes q1<|q2.trans hx
theorem Inv.et(i:Inv g O Q w n y st)(hc:st.cur=[]):S g st O Q w (n+1) y st.As/\Inv g O Q w (n+2) (y.1,y.2+1) st.et/\st.As.cur=[]:=by
 have e:=(S.refl i).As hc
 exact⟨e.1,e.1.5.er (.t rfl e.2.1.symm e.2.2) (λ_ m=>m) λq=>absurd q<|a_ _,e.2.1⟩
theorem Inv.WK(h:Inv g O Q w n y st)(b:S g (st.er k x) O' Q' w' n' y' s)(b2:S g (st.er k x) O' Q' w' (n'+1) y' (s.add op od nx))(e:bK op=true):Lr g O' Q' w' (n'+1) y' k st (s.add op od nx):=
 h.lr b2 (b.cd e) (Τ b.1.len (by rw[cX];exact ϝ _))
variable{Qs:Pa}{c:Cl}
theorem S.uG{p:Prop}(h:S g a O Q w n y st)(hp:n<=400000->p):S g a O Q w n y (st.ϴ p):=
 h.vs (.of rfl rfl (ϛ _) (λ_ h=>h) (λ_ _ h=>h) (λ_ _ h=>h) (λ_ _ h=>h) (λ_ _ h=>h) rfl) rfl rfl rfl rfl rfl rfl rfl rfl rfl rfl h.5.1.5 ⟨h.5.3.1,h.5.3.2,h.5.3.3⟩ ⟨h.5.5.1,h.5.5.2,h.5.5.3,h.5.5.4,h.5.5.5,h.5.5.6,λk=>⟨h.5.5.7 k,hp k⟩⟩
theorem Kc.iv(h:Kc st c): ∀x∈c.ids,∃(up:Pa)(k:Nat)(p q:Int),Iv st up x k p q:=by
 obtain⟨h1,h2,h3,i1,i2,sh⟩:=h
 intro x m
 rcases Θ.mp m with e|m
 ·exact⟨_,_,_,_,e▸i1⟩
 ·rcases Θ.mp m with e|m
  ·exact⟨_,_,_,_,e▸i2⟩
  ·split at m
   ·next e=>
    rw[υ.mp m]
    induction sh with
    |fin _ q _ _=>rw[e] at q;exact nomatch q
    |tL _ _ q _ _=>rw[e] at q;exact nomatch q
    |NK _ _ _ q _ _ _=>rw[e] at q;exact nomatch q
    |Au _ _ _ _ _ _ _ _ i _=>exact⟨_,_,_,_,i⟩
   ·exact ay m
theorem Kc.no(h:Kc st c)(x:Int)(m:x∈c.ids):x<=st.rc/\∀z∈st.pa,z.1≠x:=by
 obtain⟨_,_,_,_,i⟩:=h.iv x m
 exact⟨i.3,i.4⟩
theorem vZ.ac:vZ st (st.ac c):=⟨ϓ _,λi x l e=>absurd (aM e)<|ϯ.mpr l,λz m=>.inl m,ϛ _,λ_ m=>m,λ_ _ h=>h,λ_ _ h=>h,λ_ _ h=>h,λ_ _ h=>h⟩
theorem T.ac(h:T g a O Q w n y st)(kc:Kc st c)(pw: ∀d∈st.clauses,Pw d c)(hi: ∀r∈c.ids,a.rc<r):T g a O Q (w++[c.row]) (n+1) y (st.ac c):=by
 have i:=h.4
 have mm {d:Cl} (m:d∈st.clauses++[c]):d∈st.clauses∨d=c:=(Ζ.mp m).imp_right υ.mp
 exact⟨⟨⟨h.1.code,h.1.nw,h.1.pn,h.1.rc,h.1.lg,h.1.dw,h.1.loc,h.1.ol,h.1.nt⟩,h.1.cp.trans (aH _ _),λd m=>(mm m).elim (h.1.cl d) λe=>.inr (e▸hi)⟩,h.2,h.3,⟨i.1.1,i.1.2,i.1.3,i.1.4,i.1.5,i.1.6,i.1.7⟩,
  ⟨λj z e=>(i.2.1 j z e).mono (λ_ _ h=>h) (λ_ _ h=>h) (λ_ h=>h) λ_ _ f=>f.of rfl rfl rfl,i.2.2,i.2.3,i.2.4,i.2.5,λe m=>(i.2.6 e m).of rfl rfl rfl,i.2.7,λk e=>(i.2.8 k e).imp_left λu=>u.of rfl rfl rfl,λe m=>(i.2.9 e m).imp_right λq=>q.imp_right λq=>q.of rfl rfl rfl λ_ _ h=>h⟩,
  ⟨i.3.1,i.3.2,i.3.3⟩,⟨λj z e z' m p=>(i.4.1 j z e z' m p).imp_right λ⟨d,q⟩=>⟨d,Κ _ q.1,q.2⟩,i.4.2,λd m=>(mm m).elim (λm=>(i.4.3 d m).gk .ac) λe=>by rw[e];exact kc.gk .ac,eY.mpr ⟨i.4.4,g6 _ _,λd m e q=>υ.mp q▸pw d m⟩,by rw[<-i.4.5];exact Ξ⟩,⟨Ι i.5.1,Ι i.5.2,Ι i.5.3,Ι i.5.4,JC i.5.5,Ι i.5.6,λk=>⟨i.5.7 (Ϩ k),sI i.5.5 k⟩⟩⟩
theorem FQ{cl:List Cl}: ∀{st:St},(st.fE<|c::cl)=(st.ac c).fE cl:=rfl
inductive Ad(a st:St)(cl:List Cl):Prop
 |mk (k: ∀c∈cl,Kc st c/\c.up=st.pa) (fr: ∀d∈st.clauses,∀x∈d.ids,∀c∈cl,x∉c.own) (pw:cl.Pairwise λc d=>∀x∈c.ids,x∉d.own) (hi: ∀c∈cl,∀r∈c.ids,a.rc<r)
theorem T.fE: ∀(cl:List Cl)(st:St)(w:List (Option Row))(n:Nat),T g a O Q w n y st->Ad a st cl->T g a O Q (w++cl.map Cl.row) (n+cl.length) y (st.fE cl)/\(st.fE cl).clauses=st.clauses++cl/\(st.fE cl).cur=st.cur/\(st.fE cl).pa=st.pa/\(st.fE cl).code=st.code:=by
 intro cl
 induction cl with
 |nil=>exact λst w n h _=>⟨by rw[J_,Ν];exact h,(Ν _).symm,rfl,rfl,rfl⟩
 |cons c cl ih=>
  intro st w n h d
  obtain⟨p1,p2⟩:=bk.mp d.3
  have kc:=d.1 c<|.head _
  have:=ih _ _ _ (h.ac kc.1 (λe m=>⟨λx q=>d.2 e m x q c<|.head _,λx q z m'=>((h.4.4.3 e m).no x q).2 z<|kc.2▸m'⟩)<|d.4 c<|.head _) ⟨λe m=>(d.1 e<|.tail _ m).imp_left λk=>k.gk .ac,λe m x q c' m'=>(Ζ.mp m).elim (λm=>d.2 e m x q c'<|.tail _ m') λm=>p1 c' m' x<|υ.mp m▸q,p2,λe m=>d.4 e<|.tail _ m⟩
  rw[FQ]
  refine⟨?_,this.2.1.trans (Α _ [c] cl),this.2.2⟩
  have q:=this.1
  rw[Α,aZ,Oi 1] at q
  exact q
theorem T.shrink(h:T g a O (Qs++Q) w n y st)(o: ∀z∈Qs,0<z.2->∃c∈st.clauses,Ow c z)(q: ∀z∈st.pa,0<z.2->z∈Q):T g a O Q w n y st:=
 ⟨h.1,h.2,h.3,h.4.1,h.4.2,h.4.3,⟨λj z e z' m p=>(h.4.4.1 j z e z' m p).elim (λm=>(Ζ.mp m).elim (λm=>.inr<|o z' m p) .inl) .inr,q,h.4.4.3,h.4.4.4,h.4.4.5⟩,h.4.5⟩
abbrev UA:=List Int->Int->List (Int×List Int)×Int
noncomputable def pC(n:Bool)(f g:UA):UA:=λR rc=>if n then f R rc else
 let p:=f (R++[rc+1])<|rc+1
 let q:=g R p.2
 (p.1++q.1,q.2)
noncomputable def Il(w:Option Nat)(rc:Int):Int:=match w with
 |some _=>rc+1
 |none=>rc
noncomputable def pD(t:Tr):UA:=@Tr.rec (λ_=>UA) (λ_ rc=>([],rc)) (λ_ _ f g R rc=>let p:=f R rc;let q:=g R p.2;(p.1++q.1,q.2)) (λ_ _ w _ _ f g R rc=>let p:=f (R++[Il w rc+1]) (Il w rc+1);let q:=g R p.2;(p.1++q.1,q.2))
 (λ_ rc=>([],rc)) (λ_ rc=>([],rc)) (λl R rc=>([(l,R)],rc)) (λ_ _ rc=>([],rc)) (λ_ _ _ _ rc=>([],rc)) (λ_ _ rc=>([],rc)) (λ_ _ rc=>([],rc)) (λ_ _ rc=>([],rc))
 (λ_ f=>f) (λ_ r f g=>pC r.fN f g) (λ_ r _ f g h R rc=>let p:=pC r.fN f g (R++[rc+1]) (rc+1);let q:=h (R++[p.2+1]) (p.2+1);(p.1++q.1,q.2)) t
def Pk(st:St)(l:List (Int×List Int)):Prop:=∀x∈l,st.path x.1=x.2
theorem Pk.go{l:List (Int×List Int)}(h:Pk st l)(e:st'.d9=st.d9):Pk st' l:=λx m=>(congrArg (λz=>(lk x.1 z).getD []) e).trans<|h x m
theorem fk:(st.er k x).regions=st.regions++[st.rc+1]:=Ξ
theorem ji(h:st'.pa=st.pa):st'.regions=st.regions:=congrArg (lP Ϣ) h
section
variable{sc:List Int}{b1 b2 b3:Bool}
theorem Ar.go(h:Ar st sc b1 b2)(h1: ∀e∈st.lg,e∈st'.lg)(h2:st'.pa=st.pa)(h3:st'.d9=st.d9):Ar st' sc b1 b2:=⟨λl m=>(h.1 l m).go h1 h2 h3,h2▸h.2,h2▸h.3⟩
theorem Ar.deep(h:Ar st sc b1 b2)(hk:k<=1)(h1: ∀e∈st.lg,e∈st'.lg)(h2:st'.pa=st.pa++[(r,k)])(h3:st'.d9=st.d9)(h4:b3=true->(k=0/\b2=true)∨k=1):Ar st' sc b1 b3:=by
 refine⟨λl m=>?_,λe z m=>?_,λe=>?_⟩
 ·obtain⟨i,e,q,p⟩:=h.1 l m
  exact⟨h1 _ i,h2.trans (by rw[e,Α]),λz m=>(j9 m).elim (q z) λe=>by rw[e];exact hk,(congrArg (λz=>(lk l z).getD []) h3).trans p⟩
 ·rw[h2] at m
  exact(j9 m).elim (h.2 e z) λe=>by rw[e];exact hk
 ·rcases h4 e with⟨k0,e2⟩|k1
  ·obtain⟨P,Y,r',e3,q⟩:=h.3 e2
   exact⟨P,Y++[(r,0)],r',by rw[h2,e3,k0,Α];rfl,λz m=>(j9 m).elim (q z) λe=>by rw[e]⟩
  ·exact⟨st.pa,[],r,by rw[h2,k1],λz m=>ay m⟩
theorem Ar.none:Ar st [] true false:=⟨λl m=>(ay m),λe=>(ff e.symm),λe=>(ff e)⟩
end
end
def Ps(g:Bool)(t:Tr)(sc:List Int)(b1 b2:Bool)(y z:Int)(m:Nat):Prop:=∀(zz:Rw){st:St}{O:List Lb}{Q:Pa}{w:List (Option Row)}{n:Nat}{u:Int},Inv g O Q w n (y,u) st->st.cur=[]->Ar st sc b1 b2->Pk st (pD t st.regions u).1->S g st O Q (w++t.want) (n+m) (z,(pD t st.regions u).2) (eT t zz st).1/\(eT t zz st).1.cur=[]
section
variable{g:Bool}{t ts:Tr}{sc:List Int}{b1 b2:Bool}{u y z:Int}{m k:Nat}
theorem WY(h:Lf g b1 b2 sc t)(hm:16<=m):Ps g t sc b1 b2 y y m:=by
 intro zz st O Q w n u i hc ar pk
 have s:=S.refl i
 have go {st':St} {j:Nat} (h:S g st O Q w (n+j) (y,u) st'/\st'.cur=[]) hj:S g st O Q (w++[]) (n+m) (y,u) st'/\st'.cur=[]:=⟨(Ν w).symm▸h.1.le (aT (η hj hm) n),h.2⟩
 induction h with
 |eff=>exact go ⟨s.eff hc,rfl⟩ (by decide)
 |Dy=>exact go (j:=0) ⟨s,hc⟩ (by decide)
 |go h=>exact go ⟨s.goto hc<|ar.1 _ h,rfl⟩ (by decide)
 |w9 h1 h2=>exact go (s.w9 hc h1<|ar.1 _ h2) (by decide)
 |tab h1 h2=>exact go (s.tab hc h1 λl m=>ar.1 l<|h2 l m) (by decide)
 |ret h=>exact go (s.ret hc<|ar.2 h) (by decide)
 |OP h=>exact go (s.lO (o:=none) hc<|ar.3 h) (by decide)
 |lO h=>exact go (s.lO (o:=some _) hc h) (by decide)
theorem MD:Ps g .nil sc b1 b2 y y 0:=λzz st O Q w n u i hc ar pk=>⟨(Ν w).symm▸S.refl i,hc⟩
theorem G_{x:Int}(h1:Ps g t sc b1 b2 y x m)(h2:Ps g ts sc b1 b2 x z k):Ps g (.cons t ts) sc b1 b2 y z (m+k):=by
 intro zz st O Q w n u i hc ar pk
 have p1:=h1 zz i hc ar λx m=>pk x<|Κ _ m
 have er:=ji p1.1.2
 have p2:=h2 zz p1.1.5 p1.2 (ar.go p1.1.1.lg p1.1.2 p1.1.3)<|er.symm▸Pk.go (λx m=>pk x<|Ε _ m) p1.1.3
 rw[er,Α,aZ] at p2
 exact p2.imp_left p1.1.tr
theorem R9(h2:Ps g ts (sc++[y]) b1 b2 (y+1) z k):Ps g (.cons (.dw y) ts) sc b1 b2 y z (1+k):=by
 intro zz st O Q w n u i hc ar pk
 have p1:=(S.refl i).dw
 have ar0:=ar.go (st':=st.mark y) (λe m=>Κ _ m) rfl rfl
 have p2:=h2 zz p1.5 hc ⟨λl m=>(Ζ.mp m).elim (ar0.1 l) λm=>by
  rw[υ.mp m]
  exact⟨Ε _ (hc▸.head _),(Ν _).symm,λx m=>(ay m),(pk (y,st.regions) (.head _))⟩,ar0.2,ar0.3⟩ λx m=>pk x (Ε _ m)
 rw[aZ] at p2
 exact p2.imp_left p1.tr
theorem R7(h:Ps g ts sc b1 b2 y z m)(hm:m<=k):Ps g (.qL ts) sc b1 b2 y z k:=λzz st O Q w n u i hc ar pk=>(h zz i hc ar pk).imp_left λh=>h.le<|aT hm n
theorem Ic.lt{st:St}{p:Nat}{o v:Int}{x:List Slot}(h:Ic st p o v x):p<st.code.length:=h.casesOn aM
end
theorem Fi.lt{st:St}{r kind:Int}{lid w f:Nat}(h:Fi st r kind lid w f):f<st.code.length:=by
 induction h with
 |all _ t _=>
  induction t with
  |pop _ i _=>exact i.lt
  |st _ _ i _=>exact i.lt
  |un _ _ i _ _=>exact i.lt
 |ask _ i _ _ _ _ _ _ _ _ _=>exact i.lt
inductive Tz(zz:Rw)(O:List Lb)(st:St):Prop
 |mk (i:Iv st st.pa zz.rt 0 zz.t0 zz.t1) (r:0<zz.rt) (f:⟨zz.fin,[],st.pa⟩∈O)
inductive Rr(g:Bool)(O:List Lb)(Q:Pa)(w:List (Option Row))(n:Nat)(y:Int×Int)(st:St)(rt:Int)(rows:List (Option Row))(q:St×List Cl):Prop
 |mk (s: ∃(Qs:Pa)(n0:Nat),n0+q.2.length<=n/\T g st O (Qs++Q) w n0 y q.1/\∀z∈Qs,0<z.2->∃c∈q.2,Ow c z) (d:Cd q.1) (c:q.1.cur=[]) (u:Up st q.1) (rw_:q.2.map Cl.row=rows) (k: ∀c∈q.2,Kc q.1 c/\c.up=st.pa) (rt: ∀c∈q.2,c.rt=rt/\∀x∈c.own,st.rc<x) (fr: ∀c∈q.1.clauses,∀x∈c.ids,∀d∈q.2,x∉d.own) (pw:q.2.Pairwise λc d=>∀x∈c.ids,x∉d.own)
def Pr(g:Bool)(t:Tr)(sc:List Int)(b1:Bool)(y z:Int)(m:Nat):Prop:=∀(zz:Rw){st:St}{O:List Lb}{Q:Pa}{w:List (Option Row)}{n:Nat}{u:Int},Inv g O Q w n (y,u) st->st.cur=[]->Cd st->Ar st sc b1 false->Pk st (pD t st.regions u).1->Tz zz O st->zz.i<=n->Rr g O Q (w++t.want) (n+m) (z,(pD t st.regions u).2) st zz.rt t.rows (eT t zz st)
section
variable{g:Bool}{a st s s' v:St}{O O':List Lb}{Q Q' Qs:Pa}{w w':List (Option Row)}{n m lid k n':Nat}{y y':Int×Int}{u rt kind:Int}{wh:Option Nat}{rows:List (Option Row)}{q:St×List Cl}{c:Cl}{x:List Slot}
theorem Rr.le{m:Nat}(h:Rr g O Q w n y st rt rows q)(l:n<=m):Rr g O Q w m y st rt rows q:=⟨h.1.imp λQs q=>q.imp λn0 q=>q.imp_left λs=>η s l,h.2,h.3,h.4,h.5,h.6,h.7,h.8,h.9⟩
theorem DA{sc:List Int}{b1:Bool}{y:Int}:Pr g .nil sc b1 y y 0:=λzz st O Q w n u i hc cd ar pk tz hi=>
 ⟨⟨[],n,ώ _,(Ν w).symm▸(S.refl i).t,λz m=>(ay m)⟩,cd,hc,.refl,rfl,λc m=>(ay m),λc m=>(ay m),λc m x q d m=>(ay m),.nil⟩
theorem Rr.cons(t:T g st O' Q' w' n' y' s)(r:Rr g O (Qs++Q) w n y s rt rows q)(kc:Kc s c)(e1:c.up=st.pa)(e2:c.rt=rt)(e3: ∀x∈c.own,st.rc<x)(fr: ∀d∈s.clauses,∀x∈d.ids,x∉c.own)(ow: ∀z∈Qs,0<z.2->Ow c z):Rr g O Q w (n+1) y st rt (c.row::rows) (q.1,c::q.2):=by
 refine⟨r.1.elim λQr h=>h.elim λn0 h=>⟨Qr++Qs,n0,cS h.1,by rw[Α];exact t.tr h.2.1,λz m p=>(Ζ.mp m).elim (λm=>(h.2.2 z m p).imp λc q=>⟨.tail _ q.1,q.2⟩) λm=>⟨c,.head _,ow z m p⟩⟩,r.2,r.3,t.ut r.4,congrArg (_:: ·) r.5,λd m=>(Θ.mp m).elim (λe=>by rw[e];exact⟨kc.go r.4,e1⟩) λm=>(r.6 d m).imp_right λe=>e.trans t.2,λd m=>(Θ.mp m).elim (λe=>by rw[e];exact⟨e2,e3⟩) λm=>(r.7 d m).imp_right λq x m=>aI t.1.rc<|q x m,λd m x q e m'=>(Θ.mp m').elim (λe=>?_) λm'=>r.8 d m x q e m',bk.mpr ⟨λd m x q q'=>?_,r.9⟩⟩
 ·rw[e]
  exact(r.4.cl d m).elim (λm=>fr d m x q) λl q'=>absurd (l x q)<|Ϭ.mpr (kc.no x<|.tail _ q').1
 ·exact absurd ((r.7 d m).2 x q')<|Ϭ.mpr (kc.no x q).1
noncomputable def Yu(wh:Option Nat)(u:Int):Pa:=match wh with
 |some _=>[(u+1,2)]
 |none=>[]
inductive Rf(g:Bool)(O:List Lb)(Q:Pa)(w:List (Option Row))(n:Nat)(y:Int)(kind:Int)(lid:Nat)(wh:Option Nat)(st v:St):Prop
 |mk (s:T g st O (Yu wh st.rc++Q) w (n+20) (y,Il wh st.rc) v) (d:Cd v) (c:v.clauses=st.clauses) (f: ∀wv,wh=some wv->Iv v st.pa (st.rc+1) 2 st.code.length v.code.length/\Fi v (st.rc+1) kind lid wv st.code.length)
theorem Rg.none{r:Int}(h:Rg r st):lk (st.rc+1) st.nt=none:=by
 induction e:lk (st.rc+1) st.nt with
 |none=>rfl
 |some x=>exact absurd (h.5 _ _ e)<|cy.mpr<|av _
theorem Hq{y:Int}(i:Inv g O Q w n (y,st.rc) st)(cd:Cd st)(ro:RowW kind lid wh):Rf g O Q w n y kind lid wh st (st.sW kind lid wh):=by
 induction wh with
 |none=>exact⟨(S.refl i).t.le<|Ρ _ _,cd,rfl,λ_ e=>Ϝ e⟩
 |some wv=>
  have f:=(i.er (.c cd) (λ_ m=>.tail _ m) λ_=>.head _).uI ro (ro.3 wv rfl) rfl rfl i.1.none
  have l:=i.lr f.1 f.3 f.2.lt
  exact⟨l.1.le<|ϰ _,l.2,(f.1.1.cp.eq_of_length<|(ς (f:=Cl.row)).symm.trans<|(congrArg au<|i.4.5.trans f.1.5.4.5.symm).trans<|ς _).symm,λw' e=>ξ e▸⟨l.3,f.2.gk Up.lr.tovZ⟩⟩
inductive Rh(g:Bool)(O:List Lb)(Q:Pa)(w:List (Option Row))(n:Nat)(y:Int)(kind:Int)(lid:Nat)(wh:Option Nat)(s0 v:St)(x:List Slot):Prop
 |mk (s:S g (s0.er 1 x) O ((s0.rc+1,1)::Q) w (n+6) (y,s0.rc+1) v) (c:v.cur=[]) (nn:wh=none->∃p,Tk v (s0.rc+1) (nE kind) lid s0.code.length p) (ww: ∀w',wh=some w'->Ic v s0.code.length 38 0 [.x (s0.rc+1).toNat 12]/\lk (s0.rc+1) v.nt=some (-1))
theorem Hr{y:Int}(i:Inv g O Q w n (y,s.rc) s)(cd:Cd s)(ro:RowW kind lid wh)(k2:kind≠ -2): ∃x,Rh g O Q w n y kind lid wh s (s.sX kind lid wh) x:=by
 unfold St.sX
 rw[if_neg k2]
 have ii (x:List Slot):=i.er (x:=x) (Q':=(s.rc+1,1)::Q) (.c cd) (λ_ m=>.tail _ m) λ_=>.head _
 induction wh with
 |none=>
  have t:=(ii [.x (s.rc+1).toNat<|nE kind]).taken ro rfl rfl (by decide) (by decide) i.1.none
  exact⟨_,t.1.le<|ϰ _,t.2,λ_=>⟨_,t.3⟩,λ_ e=>Ϝ e⟩
 |some w'=>
  exact⟨[.x (s.rc+1).toNat 12],S.le (((S.refl<|ii [.x (s.rc+1).toNat 12]).note<|ϛ _).add<|.px (cY i.1.none) (by decide) (by decide) .new)<|Ρ _ 4,rfl,λe=>(Ϝ e.symm),λ_ _=>⟨(Ic.new (st:=s.er 1 [.x (s.rc+1).toNat 12]) (nx:=[]) rfl).of rfl,cY i.1.none⟩⟩
inductive Ri(g:Bool)(O:List Lb)(Q:Pa)(w:List (Option Row))(n:Nat)(y:Int×Int)(kind:Int)(lid:Nat)(wh:Option Nat)(u:Int)(s0 v:St):Prop
 |mk (s:T g s0 O ((u+1,1)::Q) w n y v) (c:v.cur=[]) (d:Cd v) (i:Iv v s0.pa (u+1) 1 s0.code.length v.code.length) (cl: ∀d∈v.clauses,d∈s0.clauses∨∀x∈d.ids,u+1<x) (nn:wh=none->∃p,Tk v (u+1) (nE kind) lid s0.code.length p) (ww: ∀w',wh=some w'->Ic v s0.code.length 38 0 [.x (u+1).toNat 12]/\lk (u+1) v.nt=some (-1))
theorem MT{sc:List Int}{b1:Bool}{y z:Int}{b:Tr}{R:List Int}(hb:Ps g b sc b1 true y z m)(zz:Rw)(i:Inv g O Q w n (y,u) s)(cd:Cd s)(ro:RowW kind lid wh)(k2:kind≠ -2)(ar:Ar s sc b1 false)(hR:s.regions=R)(pk:Pk s (pD b (R++[u+1])<|u+1).1)(hf:⟨zz.fin,[],s.pa⟩∈O):
 Ri g O Q (w++b.want) (n+m+7) (z,(pD b (R++[u+1])<|u+1).2) kind lid wh u s ((eT b zz<|s.sX kind lid wh).1.x_ kind zz.fin):=by
 have e:=i.1.1
 subst e hR
 obtain⟨x,h⟩:=Hr i cd ro k2
 have rg:=(ji h.1.2).trans fk
 have h3:=hb zz h.1.5 h.2 (ar.deep (by decide) h.1.1.lg h.1.2 h.1.3 λ_=>.inr rfl)<|rg.symm▸Pk.go pk h.1.3
 rw[rg] at h3
 have h4:=h3.1.lv (l:=zz.fin) (nx:=[]) h3.2 ⟨(h3.1.5.2.6 _ hf).1,rfl,.eq,by rw[h3.1.2,h.1.2];exact .out rfl λz m=>by rw[υ.mp m];exact ώ _⟩
 have L:=i.WK (h.1.tr h3.1) (h.1.tr h4) rfl
 have u:=h4.t.ut Up.lr
 rw[show(eT b zz<|s.sX kind lid wh).1.x_ kind zz.fin=_ from if_neg k2]
 exact⟨L.1.le (by omega),rfl,L.2,L.3,(h.1.tr h4).1.cl,λe=>(h.3 e).imp λp t=>t.go u,λw' e=>⟨(h.4 w' e).1.go u,u.nt _ _ (h.4 w' e).2⟩⟩
inductive Rq(st v:St)(rt rc:Int)(Qs:Pa)(r:Option Row)(c:Cl):Prop
 |mk (k:Kc v c) (row:c.row=r) (up:c.up=st.pa) (rt:c.rt=rt) (own: ∀x∈c.own,st.rc<x/\x<=rc+1) (ow: ∀z∈Qs,Ow c z)
theorem Hj{b:D}{t0 t1 h1 rc:Int}{q f0:Nat}(ro:RowW kind lid wh)(k2:kind≠ -2)(tz:Iv v st.pa rt 0 t0 t1)(r0:0<rt)(rr:rt<=st.rc)(e:rc=Il wh st.rc)(iv:Iv v st.pa (rc+1) 1 q h1)(n:wh=none->∃p,Tk v (rc+1) (nE kind) lid q p)(w: ∀w',wh=some w'->Ic v q 38 0 [.x (rc+1).toNat 12]/\lk (rc+1) v.nt=some (-1))(f: ∀wv,wh=some wv->Iv v st.pa (st.rc+1) 2 f0 q/\Fi v (st.rc+1) kind lid wv f0):
 Rq st v rt rc ((Il wh st.rc+1,1)::Yu wh st.rc) (some ⟨kind,lid,wh,b⟩) (AM kind lid wh b t0 t1 q h1 f0 rt (rc+1) st.pa):=by
 unfold AM
 rw[if_neg k2]
 induction wh with
 |none=>
  have e:rc=st.rc:=e
  refine(n rfl).elim λp t=>?_
  exact⟨.mk r0 (show rt<rc+1 by omega) (λe=>nomatch e) tz iv (.NK rfl ro rfl rfl rfl rfl t),rfl,rfl,rfl,λx m=>by rw[υ.mp (show x∈[rc+1] from m)];omega,λz m=>by
   rw[υ.mp m,show(Il none st.rc)=rc from e.symm]
   exact .h1 (show 0<=1 by decide)⟩
 |some w'=>
  have e:rc=st.rc+1:=e
  subst e
  have er:st.rc+1+1-1=st.rc+1:=Int.add_sub_cancel _ _
  refine(f w' rfl).elim λf1 f2=>?_
  rw[<-er] at f1 f2
  refine⟨.mk r0 (show rt<st.rc+1+1 by omega) (λ_=>show rt<st.rc+1+1-1 by omega) tz iv (.Au rfl ro rfl rfl rfl (w w' rfl).1 (w w' rfl).2 rfl f1 f2),rfl,rfl,rfl,λx m=>(Θ.mp (show x∈[st.rc+1+1,st.rc+1+1-1] from m)).elim (λe=>by omega) λm=>by
   have:=υ.mp m
   omega,λz m=>(Θ.mp m).elim (λe=>e▸.h1 (ϛ _)) λm=>by
   rw[υ.mp m]
   exact(congrArg (λz=>Ow _ (z,2)) er).mp (.f rfl)⟩
theorem DN{v:St}(h: ∀d∈st.clauses,Kc st d)(cl: ∀d∈v.clauses,d∈st.clauses∨∀x∈d.ids,u<x)(o1: ∀x∈c.own,st.rc<x/\x<=u): ∀d∈v.clauses,∀x∈d.ids,x∉c.own:=λd m x q q'=>
 (cl d m).elim (λm=>absurd (o1 x q').1<|Ϭ.mpr ((h d m).no x q).1) λl=>absurd (l x q)<|Ϭ.mpr (o1 x q').2
theorem zy{sc:List Int}{b1:Bool}{y z' rc u1:Int}{w0:List (Option Row)}{m' n1:Nat}{r:Tr}{row:Option Row}(hr:Pr g r sc b1 y z' m')(zz:Rw)(hc:st.cur=[])(ar:Ar st sc b1 false)(pk:Pk st (pD r st.regions u1).1)(tz:Tz zz O st)(hi:zz.i<=n)(fr: ∀d∈v.clauses,∀x∈d.ids,x∉c.own)(t:T g st O (Qs++Q) w0 n1 (y,u1) v)(cv:v.cur=[])(cd:Cd v)(C:Rq st v zz.rt rc Qs row c)(hn:n<n1):Rr g O Q (w0++r.want) (n1+m'+1) (z',(pD r st.regions u1).2) st zz.rt (row::r.rows) ((eT r ⟨zz.t0,zz.t1,zz.fin,zz.rt,zz.i+1⟩<|v.ϴ<|zz.i<big).1,c::(eT r ⟨zz.t0,zz.t1,zz.fin,zz.rt,zz.i+1⟩<|v.ϴ<|zz.i<big).2):=by
 have t2:=t.tr ((S.refl t.4).uG (p:=zz.i<big) λk=>Τ (η hi<|η (aV hn) k) (by decide)).t
 have rg:=ji t2.2
 have R:=hr ⟨zz.t0,zz.t1,zz.fin,zz.rt,zz.i+1⟩ t2.4 cv ⟨cd.1,cd.2⟩ (ar.go t2.1.lg t2.2 t2.3) (rg▸(Pk.go pk t2.3)) ⟨by rw[t2.2];exact tz.1.go t2.1,tz.2,by rw[t2.2];exact tz.3⟩<|η (cS hi) hn
 rw[rg] at R
 exact C.2▸Rr.cons t2 R (C.1.gk ⟨ϓ _,λi x l e=>absurd (aM e)<|ϯ.mpr l,λz m=>.inl m,ϛ _,λ_ m=>m,λ_ _ h=>h,λ_ _ h=>h,λ_ _ h=>h,λ_ _ h=>h⟩) C.3 C.4 (λx m=>(C.5 x m).1) fr λz m _=>C.6 z m
theorem Sa{sc:List Int}{b1:Bool}{y z z':Int}{m m':Nat}{b r:Tr}(ro:RowW kind lid wh)(hb:Ps g b sc b1 true y z m)(hr:Pr g r sc b1 z z' m'):Pr g (.row kind lid wh b r) sc b1 y z' (m+m'+40):=by
 intro zz st O Q w n u i hc cd ar pk tz hi
 have e:=i.1.1
 subst e
 have k2:kind≠ -2:=by have:=ro.1;omega
 have pk:=pk
 have f:=Hq i cd ro
 have rc1:(st.sW kind lid wh).rc=Il wh st.rc:=f.1.4.1.1
 have R1:=MT hb zz f.1.4 f.2 ro k2 (ar.go f.1.1.lg f.1.2 f.1.3) (ji f.1.2) (Pk.go (λx m=>pk x<|Κ _ m) f.1.3)<|f.1.2.symm▸tz.3
 have T4:=f.1.tr R1.1
 have C:=Hj (b:=b.dv) ro k2 (tz.1.go T4.1) tz.2 tz.1.3 rc1 (f.1.2▸rc1.symm▸R1.4) (rc1.symm▸R1.6) (rc1.symm▸R1.7) λwv e=>⟨(f.4 wv e).1.go R1.1.1,(f.4 wv e).2.gk R1.1.1.tovZ⟩
 have R:=zy hr zz hc ar (λx m=>pk x<|Ε _ m) tz hi (DN i.4.3 (λd m=>f.3▸R1.5 d m)<|rc1▸C.5) T4 R1.2 R1.3 C (by omega)
 rw[Α] at R
 exact R.le (by omega)
end
section
variable{g:Bool}{a st s s' s1 s4 v:St}{O:List Lb}{Q Q' Qs:Pa}{w w':List (Option Row)}{n n' m m' lid k:Nat}{y':Int×Int}{y z z' u rt kind:Int}{b t rows:Tr}{sc:List Int}{b1 b2:Bool}{x:List Slot}
theorem GN{t:Tr}(h:t.fN=true):t= .nil:=by
 induction t with
 |nil=>rfl
 |_=>exact ff h
theorem F0.at{v:St}{op:Int}{od:Od}{nx:List Slot}(f:F0 (st.er k x) (v.add op od nx))(h:st.code.length<=v.code.length):Fj (v.add op od nx).lr st.code.length x:=by
 induction f with
 |no e _=>exact absurd (congrArg au e) (by rw[cX];show¬v.code.length+1=st.code.length;omega)
 |yes e1 e2=>exact⟨rfl,e1,e2⟩
inductive Lp(g:Bool)(O:List Lb)(Q:Pa)(w:List (Option Row))(n:Nat)(y:Int×Int)(u:Int)(st v:St):Prop
 |mk (s:T g st O Q w n y v) (c:v.cur=[]) (d:Cd v) (i:Iv v st.pa (u+1) 3 st.code.length v.code.length) (h:Fj v st.code.length []) (cl: ∀d∈v.clauses,d∈st.clauses∨∀x∈d.ids,u+1<x)
theorem JE(hb:Ps g b [] true false y z m)(zz:Rw)(i:Inv g O Q w n (y,u) st)(cd:Cd st){R:List Int}(hR:st.regions=R)(pk:Pk st (pD b (R++[u+1])<|u+1).1):Lp g O ((u+1,3)::Q) (w++b.want) (n+m+2) (z,(pD b (R++[u+1])<|u+1).2) u st ((eT b zz<|st.er 3 []).1.add 220 (.i 0) []).lr:=by
 have e:=i.1.1
 subst e hR
 have h2:=hb zz (i.er (Q':=(st.rc+1,3)::Q) (.c cd) (λ_ m=>.tail _ m) λ_=>.head _) rfl .none<|fk▸pk
 rw[fk] at h2
 have h3:=h2.1.end_ (nx:=[]) (by rw[h2.1.2,h2.2];exact .fin)
 have L:=i.WK h2.1 h3 rfl
 exact⟨L.1.le (by omega),rfl,L.2,L.3,h3.4.at h2.1.1.len,h3.1.cl⟩
theorem R8(hb:Ps g b [] true false y z m):Pr g (.row (-2) 0 none b .nil) sc b1 y z (m+40):=by
 intro zz st O Q w n u i hc cd ar pk tz hi
 have e:=i.1.1
 subst e
 have pk:=pk
 have L:=JE hb zz i cd rfl λx m=>pk x<|Κ _ m
 have own: ∀x∈[st.rc+1],st.rc<x/\x<=st.rc+1:=λx m=>by rw[υ.mp m];exact⟨av _,ϛ _⟩
 have C:Rq st ((eT b zz<|st.er 3 []).1.add 220 (.i 0) []).lr zz.rt st.rc [(st.rc+1,3)] (some ⟨-2,0,none,b.dv⟩) ⟨4,zz.t0,zz.t1,st.code.length,((eT b zz<|st.er 3 []).1.add 220 (.i 0) []).lr.code.length,0,zz.rt,st.rc+1,st.pa,some ⟨-2,0,none,b.dv⟩⟩:=
  ⟨.mk tz.2 (aI tz.1.3<|av _) (λe=>nomatch e) (tz.1.go L.1.1) L.4<|.tL rfl rfl rfl rfl L.5,rfl,rfl,rfl,own,λz m=>υ.mp m▸.h3 (show 1<4 by decide)⟩
 have R:=zy DA zz hc ar (λx m=>ay m) tz hi (DN i.4.3 L.6 C.5) L.1 L.2 L.3 C (by omega)
 rw[Α] at R
 exact R.le (by omega)
inductive Ty(g:Bool)(O:List Lb)(Q:Pa)(w:List (Option Row))(n:Nat)(y:Int×Int)(st s1 s4:St):Prop
 |mk (s:S g st (⟨st.made-1,[],st.pa⟩::O) Q w n y s4) (c:s4.cur=[]) (d:Cd s4) (i:Iv s4 st.pa s1.rc 0 s1.code.length s4.code.length) (l:st.code.length<s4.code.length) (r:st.rc<s1.rc) (r4:s1.rc<=s4.rc) (c0:0<=st.rc) (qp: ∀z∈st.pa,0<z.2->z∈Q)
theorem Eo{F:St->St}(i:Inv g O Q w n (y,u) st)(hc:st.cur=[])(ar:Ar st sc b1 b2)(f: ∀{s:St},Inv g (⟨st.made-1,[],st.pa⟩::O) Q w (n+2) (y,u+1) s->s.cur=[]->Ar s sc b1 b2->s.regions=st.regions++[u+1]->s.d9=st.d9->S g s (⟨st.made-1,[],st.pa⟩::O) Q w' n' y' (F s)/\(F s).cur=[]):Ty g O Q w' (n'+1) y' st (st.nl [] st.pa).et ((F (st.nl [] st.pa).et).add 221 (.i<|st.made-1) []).lr:=by
 have h0:=(S.refl i).nl (x:=[]) (p:=st.pa)
 refine(h0.5.et hc).elim λh1 q_=>q_.elim λh2 c1=>?_
 have e:=h0.tr h1
 have rc1:(st.nl [] st.pa).As.rc=u:=h1.5.1.1
 have rg:(st.nl [] st.pa).et.regions=st.regions++[u+1]:=by rw[<-rc1,<-ji e.2];exact fk
 have pa1:(st.nl [] st.pa).et.pa=st.pa++[((st.nl [] st.pa).As.rc+1,0)]:=congrArg (· ++[((st.nl [] st.pa).As.rc+1,0)]) e.2
 have h3:=f h2 rfl (ar.deep (by decide) e.1.lg pa1 e.3 λq=>.inl ⟨rfl,q⟩) rg e.3
 have h4:=h3.1.lv (nx:=[]) h3.2 ⟨(h3.1.5.2.6 _<|.head _).1,rfl,.eq,by rw[h3.1.2,pa1];exact .out rfl λz m=>by rw[υ.mp m];exact ϋ _⟩
 have L:=h1.5.WK h3.1 h4 rfl
 have I:=L.3
 rw[e.2] at I
 exact⟨e.tr ⟨L.1.1,L.1.2,L.1.3,RU h4.4 c1.symm L.5,L.1.4⟩,rfl,L.2,I,Τ e.1.len L.5,fu e.1.rc,L.4,i.1.2,i.4.2⟩
theorem zv{cl:List Cl}{n0:Nat}(t:Ty g O Q w n y' st s1 s4)(T1:T g st (⟨st.made-1,[],st.pa⟩::O) (Qs++Q) w' n0 (z,u) v)(u4:s4.code<+:v.code)(hc:v.cur=[])(d:Ad st v cl)(ow: ∀z∈Qs,0<z.2->∃c∈cl,Ow c z)(hn:n0+cl.length<=n'):S g st O Q (w'++cl.map Cl.row) (n'+1) (z,u) ((v.fE cl).mark<|st.made-1)/\((v.fE cl).mark<|st.made-1).cur=[]:=by
 refine(T.fE cl v _ _ T1 d).elim λa1 q_=>q_.elim λa2 q_=>q_.elim λa3 q_=>q_.elim λa4 a5=>?_
 have a6:=(a1.shrink (λz m p=>(ow z m p).imp λc k=>⟨by rw[a2];exact Ε _ k.1,k.2⟩) λz m=>t.9 z<|T1.2▸a4▸m).le hn
 exact⟨S.mark ⟨a6.1,a6.2,a6.3,t.1.4.grown t.5<|a5.symm▸u4,a6.4⟩ (a3.trans hc)<|a4.trans T1.2,a3.trans hc⟩
theorem Es(hr:Pr g rows sc b1 z z' m')(t:Ty g O Q w n (z,u) st s1 s4)(ar:Ar st sc b1 b2)(pk:Pk st (pD rows st.regions u).1):S g st O Q (w++rows.want++rows.rows) (n+m'+1) (z',(pD rows st.regions u).2) (((eT rows ⟨s1.code.length,s4.code.length,st.made-1,s1.rc,0⟩ s4).1.fE (eT rows ⟨s1.code.length,s4.code.length,st.made-1,s1.rc,0⟩ s4).2).mark<|st.made-1)/\(((eT rows ⟨s1.code.length,s4.code.length,st.made-1,s1.rc,0⟩ s4).1.fE (eT rows ⟨s1.code.length,s4.code.length,st.made-1,s1.rc,0⟩ s4).2).mark<|st.made-1).cur=[]:=by
 have rg:=ji t.1.2
 have R:=hr ⟨s1.code.length,s4.code.length,st.made-1,s1.rc,0⟩ t.1.5 t.2 t.3 ⟨λl m=>(ar.1 l m).go t.1.1.lg t.1.2 t.1.3,by rw[t.1.2];exact ar.2,λe=>ff e⟩ (by rw[rg];exact Pk.go pk t.1.3) ⟨by rw[t.1.2];exact t.4,aI t.8 t.6,by rw[t.1.2];exact .head _⟩<|ϋ _
 rw[rg] at R
 exact R.1.elim λQs h=>h.elim λn0 h=>R.5▸zv t (t.1.t.tr h.2.1) R.4.code R.3 ⟨λc m=>⟨(R.6 c m).1,(R.6 c m).2.trans h.2.1.2.symm⟩,R.8,R.9,λc m x q=>(Θ.mp q).elim (λe=>by rw[e,(R.7 c m).1];exact t.6) λq=>vt t.6<|aI t.7<|(R.7 c m).2 x q⟩ h.2.2 h.1
theorem zJ(hb:Ps g b sc b1 b2 y z m)(hr:Pr g rows sc b1 z z' m')(hz:rows.fN=true->z=z')(zz:Rw)(i:Inv g O Q w n (y,u) st)(hc:st.cur=[])(ar:Ar st sc b1 b2)(pk:Pk st (pC rows.fN (pD b) (pD rows) st.regions u).1):
 S g st O Q (w++(b.want++rows.want++rows.rows)) (n+(m+m'+5)) (z',(pC rows.fN (pD b) (pD rows) st.regions u).2) (st.s8 rows.fN (eT b) (eT rows) zz)/\(st.s8 rows.fN (eT b) (eT rows) zz).cur=[]:=by
 unfold pC at pk⊢
 induction e:rows.fN with
 |true=>
  rw[e] at pk
  have p:=hb zz i hc ar pk
  rw[GN e,<-hz e]
  exact⟨(congrArg (λw'=>S g st O Q (w++w') _ _ _) ((Ν _).trans<|Ν _).symm).mp<|p.1.le<|aT (show m<=m+m'+5 by omega) n,p.2⟩
 |false=>
  rw[e] at pk
  have pk:=pk
  have t:=Eo i hc ar λi c a rg d9=>by
   have:=hb zz i c a<|rg.symm▸Pk.go (λx m=>pk x<|Κ _ m) d9
   rw[rg] at this
   exact this
  have q:=Es hr t ar λx m=>pk x<|Ε _ m
  rw[Α,Α,<-Α b.want] at q
  exact q.imp_left λq=>q.le (by omega)
theorem Sd(hb:Ps g b sc b1 b2 y z m)(hr:Pr g rows sc b1 z z' m')(hz:rows.fN=true->z=z')(hk:m+m'+20<=k):Ps g (.qz b rows) sc b1 b2 y z' k:=λzz st O Q w n u i hc ar pk=>
 (zJ hb hr hz zz i hc ar pk).imp_left λh=>h.le (by omega)
theorem Ep(ht:Ps g t [] true false z z' m)(zz:Rw)(T1:Ty g O Q w n (z,u) st s1 s4)(pk:Pk st (pD t (st.regions++[u+1])<|u+1).1):S g st O Q (w++t.want++[none]) (n+m+4) (z',(pD t (st.regions++[u+1])<|u+1).2) (((((eT t zz<|s4.er 3 []).1.add 220 (.i 0) []).lr).fE [⟨2,s1.code.length,s4.code.length,s4.code.length,((eT t zz<|s4.er 3 []).1.add 220 (.i 0) []).lr.code.length,0,s1.rc,s4.rc+1,st.pa,none⟩]).mark<|st.made-1)/\(((((eT t zz<|s4.er 3 []).1.add 220 (.i 0) []).lr).fE [⟨2,s1.code.length,s4.code.length,s4.code.length,((eT t zz<|s4.er 3 []).1.add 220 (.i 0) []).lr.code.length,0,s1.rc,s4.rc+1,st.pa,none⟩]).mark<|st.made-1).cur=[]:=by
 have P:=JE ht zz T1.1.5 T1.3 (ji T1.1.2)<|Pk.go pk T1.1.3
 have e:=T1.1.5.1.1
 subst e
 generalize((eT t zz<|s4.er 3 []).1.add 220 (.i 0) []).lr=s5 at P⊢
 refine zv (cl:=[⟨2,s1.code.length,s4.code.length,s4.code.length,s5.code.length,0,s1.rc,s4.rc+1,st.pa,none⟩]) T1 (T1.1.t.tr P.1) P.1.1.code P.2 ⟨λd m=>by rw[υ.mp m];exact⟨.mk (aI T1.8 T1.6) (fu T1.7) (λe=>nomatch e) (T1.4.go P.1.1) (T1.1.2▸P.4)<|.fin rfl rfl rfl P.5,(P.1.2.trans T1.1.2).symm⟩,λd m x q d' m' q'=>?_,g6 _ _,λd m x q=>?_⟩ (λz m p=>⟨_,.head _,υ.mp m▸.h3 (show 1<2 by decide)⟩)<|ώ<|n+m+3
 ·rw[υ.mp m'] at q'
  have e:x=s4.rc+1:=υ.mp q'
  exact(P.6 d m).elim (λm=>absurd ((T1.1.5.4.3 d m).no x q).1 (by omega)) λl=>absurd (l x q) (by omega)
 ·rw[υ.mp m] at q
  exact(Θ.mp q).elim (λe=>e▸T1.6) λq=>υ.mp q▸vt T1.6 (fu T1.7)
theorem MB{p:Nat}{z'':Int}(hb:Ps g b sc b1 b2 y z m)(hr:Pr g rows sc b1 z z' m')(hz:rows.fN=true->z=z')(ht:Ps g t [] true false z' z'' p)(hk:m+m'+p+40<=k):Ps g (.iD b rows t) sc b1 b2 y z'' k:=by
 intro zz st O Q w n u i hc ar pk
 have pk:=pk
 have T1:=Eo i hc ar λi c a rg d9=>by
  have:=zJ hb hr hz zz i c a<|rg.symm▸Pk.go (λx m=>pk x<|Κ _ m) d9
  rw[rg] at this
  exact this
 have q:=Ep ht zz T1 λx m=>pk x<|Ε _ m
 rw[Α,Α,<-Α _ t.want] at q
 exact q.imp_left λq=>q.le (by omega)
theorem tD{md:Md}{d n:Nat}(h:Ws g md sc y z d n t):t.fN=true->y=z:=by
 induction h with
 |nil=>exact λ_=>rfl
 |sV=>exact λ_=>rfl
 |leaf h _ _=>induction h with|_=>exact λe=>ff e
 |_=>exact λe=>ff e
noncomputable def Md.em(md:Md)(g:Bool)(t:Tr)(sc:List Int)(y z:Int)(m:Nat):Prop:=match md with
 | .s b1 b2=>Ps g t sc b1 b2 y z m
 | .l b1 b2=>Ps g t sc b1 b2 y z m
 | .r b1=>Pr g t sc b1 y z m
theorem Qx{md:Md}{d n:Nat}(h:Ws g md sc y z d n t):md.em g t sc y z n:=by
 induction h with
 |leaf h _ hm=>exact WY h hm
 |nil=>exact MD
 |cons _ _ h1 h2=>exact G_ h1 h2
 |dw _ _ h=>exact R9 h
 |qL _ _ hm h=>exact R7 h hm
 |sV=>exact DA
 |row ro _ _ h1 h2=>exact Sa ro h1 h2
 |tL _ h=>exact R8 h
 |qz _ w2 _ hk h1 h2=>exact Sd h1 h2 (tD w2) hk
 |iD _ w2 _ _ hk h1 h2 h3=>exact MB h1 h2 (tD w2) h3 hk
end
noncomputable def St.core(st:St):St:={st with ok:=True,d9:=[],rc:=0}
inductive NB(n:Nat)(y:Int)(st:St):Prop
 |mk (l:st.d9.length<=n) (p:st.pa.length<=n) (k: ∀l p,lk l st.d9=some p->l<y) (ok:n<=400000->st.ok)
inductive Nq(p:List (Int×List Int)×Int)(n:Nat)(z:Int)(st st':St):Prop
 |mk (e:st'.core=st.core) (c:st'.rc=p.2) (k: ∀l q,lk l st.d9=some q->lk l st'.d9=some q) (f: ∀x∈p.1,lk x.1 st'.d9=some x.2) (b:NB n z st')
section
variable{g:Bool}{a st st' s s':St}{p q:List (Int×List Int)×Int}{n m k:Nat}{y z u:Int}{t:Tr}
theorem Nq.seq(h:Nq p n y st s)(h2:Nq q m z s s'):Nq (p.1++q.1,q.2) m z st s':=
 ⟨h2.1.trans h.1,h2.2,λl r e=>h2.3 l r<|h.3 l r e,λx m=>(Ζ.mp m).elim (λm=>h2.3 _ _<|h.4 x m)<|h2.4 x,h2.5⟩
theorem NB.er(b:NB n y st):NB (n+1) y (st.er 0 []):=⟨Ι b.1,JC b.2,b.3,λk=>⟨b.4<|Ϩ k,sI b.2 k⟩⟩
theorem NB.le(b:NB n y st)(h:n<=m):NB m y st:=⟨η b.1 h,η b.2 h,b.3,λk=>b.4<|η h k⟩
theorem Nq.le(h:Nq p n z st s)(l:n<=m):Nq p m z st s:=⟨h.1,h.2,h.3,h.4,h.5.le l⟩
theorem Nq.cur(h:Nq p n z st s)(hc:st.cur=[]):s.cur=[]:=(congrArg St.cur h.1).trans hc
theorem Nq.Sm(h:Nq p n z st s):s.regions=st.regions:=ji<|show s.core.pa=st.core.pa from congrArg St.pa h.1
theorem Nq.lr(hc:st.cur=[])(h:Nq p n z (st.er 0 []) s):Nq p n z st s.lr:=by
 have ep:s.pa=st.pa++[(st.rc+1,0)]:=congrArg St.pa h.1
 refine⟨(congrArg (λc:St=>{c with pa:=c.pa.dropLast,cur:=[]}) h.1).trans ?_,h.2,h.3,h.4,⟨h.5.1,η (by show s.pa.dropLast.length<=_;rw[vQ];exact qH _ _) h.5.2,h.5.3,λk=>⟨h.5.4 k,by rw[ep];exact dj _<|aq _ _⟩⟩⟩
 show({st.core with pa:=(st.pa++[(st.rc+1,0)]).dropLast,cur:=[]})=st.core
 rw[jB,<-hc];rfl
def Nm(t:Tr)(y z:Int)(m:Nat):Prop:=∀{st:St}{n:Nat},st.cur=[]->NB n y st->Nq (pD t st.regions st.rc) (n+m) z st (jx t st)
theorem Mn(hp: ∀R rc,pD t R rc=([],rc))(hn: ∀st,jx t st=st):Nm t y y m:=λ{st n} hc b=>by
 rw[hp,hn]
 exact⟨rfl,rfl,λ_ _ e=>e,λx m=>(ay m),b.le<|Ρ _ _⟩
theorem JH{b r:Tr}(h1:Nm b y u m)(h2:Nm r u z k)(hz:r.fN=true->u=z)(hc:st.cur=[])(bb:NB n y st):Nq (pC r.fN (pD b) (pD r) st.regions st.rc) (n+(m+k+1)) z st (st.E_ r.fN (jx b)<|jx r):=by
 unfold pC St.E_
 induction e:r.fN with
 |true=>
  rw[if_pos rfl,if_pos rfl,<-hz e]
  exact(h1 hc bb).le (by omega)
 |false=>
  rw[if_neg ϟ,if_neg ϟ]
  have a1:=(h1 rfl bb.er).lr hc
  have a2:=h2 (a1.cur hc) a1.5
  rw[a1.Sm,a1.2,fk] at a2
  rw[fk] at a1
  exact(a1.seq a2).le (by omega)
theorem R4{md:Md}{sc:List Int}{d n:Nat}(h:Ws g md sc y z d n t):Nm t y z n:=by
 induction h with
 |leaf h _ _=>induction h with|_=>exact Mn (λ_ _=>rfl) λ_=>rfl
 |nil=>exact Mn (λ_ _=>rfl) λ_=>rfl
 |sV=>exact Mn (λ_ _=>rfl) λ_=>rfl
 |cons _ _ h1 h2=>
  intro st n hc b
  have a1:=h1 hc b
  have a2:=h2 (a1.cur hc) a1.5
  rw[a1.Sm,a1.2,aZ] at a2
  exact a1.seq a2
 | @dw b1 b2 S y z d m ts _ _ h=>
  intro st n hc b
  have hn:lk y st.d9=none:=by
   induction e:lk y st.d9 with
   |none=>rfl
   |some p=>exact absurd (b.3 _ _ e)<|kI _
  have a1:Nq ([(y,st.regions)],st.rc) (n+1) (y+1) st (st.UR y):=⟨rfl,rfl,λ_ _ e=>oV e,λx m=>by rw[υ.mp m];exact cY hn,⟨JC b.1,Ι b.2,λl p e=>(sF e).elim (λe=>vt (b.3 l p e)<|av _) λq=>q.1▸av _,λk=>⟨⟨b.4<|Ϩ k,aV (by unfold St.regions;rw[ς];exact sI b.2 k)⟩,sI b.1 k,hn⟩⟩⟩
  have a2:=h (a1.cur hc) a1.5
  rw[a1.Sm,a1.2,aZ] at a2
  exact a1.seq a2
 |qL _ _ hm h=>exact λhc b=>(h hc b).le<|aT hm _
 | @row b1 S y x z d m m' k l w b r _ _ _ h1 h2=>
  intro st n hc bb
  have w0:(st.nw w).core=st.core/\(st.nw w).rc=Il w st.rc/\(st.nw w).cur=[]/\NB n y (st.nw w)/\(st.nw w).regions=st.regions/\(st.nw w).d9=st.d9:=by
   induction w<;>exact⟨rfl,rfl,hc,⟨bb.1,bb.2,bb.3,bb.4⟩,rfl,rfl⟩
  have a1:=(h1 rfl w0.2.2.2.1.er).lr w0.2.2.1
  have a2:=h2 (a1.cur w0.2.2.1) a1.5
  rw[a1.Sm,a1.2,fk] at a2
  rw[fk] at a1
  have a3:=a1.seq a2
  have er:((st.nw w).er 0 []).rc=Il w st.rc+1:=congrArg (· +1) w0.2.1
  rw[er,w0.2.2.2.2.1,w0.2.1] at a3
  exact(show Nq _ _ _ st _ from⟨a3.1.trans w0.1,a3.2,λl q e=>a3.3 l q<|w0.2.2.2.2.2▸e,a3.4,a3.5⟩).le (by omega)
 |tL _ h=>
  intro st n hc b
  have a1:=(h rfl b.er).lr hc
  rw[fk] at a1
  refine Nq.le ⟨a1.1,a1.2,a1.3,λx m=>a1.4 x<|(Ζ.mp m).resolve_right ϑ,a1.5⟩ (by omega)
 |qz _ w2 _ hk h1 h2=>exact λhc b=>(JH h1 h2 (tD w2) hc b).le (by omega)
 |iD _ w2 _ _ hk h1 h2 h3=>
  intro st n hc b
  have a1:=(JH h1 h2 (tD w2) rfl b.er).lr hc
  have a2:=(h3 rfl<|a1.5.er).lr<|a1.cur hc
  rw[fk,a1.Sm,show∀s:St,(s.er 0 []).rc=s.rc+1 from λ_=>rfl,a1.2,fk] at a2
  rw[fk] at a1
  exact(a1.seq a2).le (by omega)
noncomputable def St.sN(st:St):St:={st with bZ:=none}
variable{O:List Lb}{Q:Pa}{w:List (Option Row)}{v:Int×Int}{l:Int}
theorem S.YU(h:S g a O Q w n v st)(hr:st.bZ=some l):S g a (⟨l,[],[]⟩::O) Q w n v st.sN:=by
 have t:=h.5.2
 refine(t.8 l hr).elim λr1 r2=>?_
 have u:Up st st.sN:=.of rfl rfl (ϛ _) (λ_ h=>h) (λ_ _ h=>h) (λ_ _ h=>h) (λ_ _ h=>h) (λ_ _ h=>h) rfl
 exact⟨h.ut u,h.2,h.3,h.4.same rfl rfl,⟨h.5.1.1,h.5.1.2,h.5.1.3,h.5.1.4,h.5.1.5,h.5.1.6,h.5.1.7⟩,⟨λj z e=>(t.1 j z e).mono (λ_ _ h=>h) (λ_ _ h=>h) (λ_ h=>h) λ_ _ f=>f.of rfl rfl rfl,t.2,t.3,t.4,t.5,λe m=>(Θ.mp m).elim (λe=>e▸r1.of rfl rfl rfl) λm=>(t.6 e m).of rfl rfl rfl,bk.mpr ⟨λe m=>(r2 e m).symm,t.7⟩,λk e=>(Ϝ e),λe m=>(t.9 e m).elim (λm=>.inl (.tail _ m)) λq=>q.elim (λq=>.inl ((r1.2 e m (ξ (q.symm.trans hr)))▸.head _)) λq=>.inr (.inr (q.of rfl rfl rfl λ_ _ h=>h))⟩,
  ⟨h.5.3.1,h.5.3.2,λ_ q=>absurd rfl q⟩,⟨h.5.4.1,h.5.4.2,λc m=>(h.5.4.3 c m).go u,h.5.4.4,h.5.4.5⟩,⟨h.5.5.1,h.5.5.2,h.5.5.3,h.5.5.4,h.5.5.5,h.5.5.6,h.5.5.7⟩⟩
inductive Fz(g:Bool)(w:List (Option Row))(n:Nat)(y:Int×Int)(W:St):Prop
 |mk (i:Inv g [] [] w n y W.sN) (d:Cd W.sN) (p:0<W.code.length) (z: ∃x,W.code[0]? =some x/\x.st=[])
theorem S.same(h:S g a O Q w n v st)(hr:st.bZ=none):S g a O Q w n v st.sN:=by
 have:st.sN=st:=by unfold St.sN;rw[<-hr]
 rw[this];exact h
theorem IV(h:S g a O Q w n v st)(ho:st.oe=false):Cd st/\0<st.code.length:=by
 unfold St.oe at ho
 induction e:st.code.getLast? with
 |none=>rw[e] at ho;exact ff ho.symm
 |some i=>
  rw[e] at ho
  have ho:=ho
  rw[eV,Bool.not_eq_false'] at ho
  have hl:=qE.symm.trans e
  have:=aM hl
  refine⟨⟨λj x q l=>?_,λl p q z=>?_⟩,by omega⟩
  ·rw[show st.code.length-1=j by omega,q] at hl
   rw[ξ hl];exact ho.1
  ·refine(Di q).elim λx q_=>q_.elim λm e1=>?_
   have:st.pend=true:=aW.mpr ⟨x,m,by rw[e1,q,show p=st.code.length from z];exact beq_self_eq_true _⟩
   rw[ho.2] at this;exact ff this
theorem CC{W:St}(h:S g a [] [] w n v W.sN)(ha:a.code=[]/\a.cur=[])(cd:Cd W.sN)(p:0<W.code.length):Fz g w n v W:=by
 refine⟨h.5,cd,p,?_⟩
 induction h.4 with
 |no e _=>exact absurd (congrArg au<|e.trans ha.1)<|mQ p
 |yes e1 e2=>rw[ha.1] at e1;exact⟨_,e1,e2.trans ha.2⟩
theorem Lq(h:S g a [] [] w n v st)(hc:st.cur=[])(ha:a.code=[]/\a.cur=[])(hp:a.pa=[]):Fz g w (n+6) v (st.fin g):=by
 have end_ {s:St} {m:Nat} {x:List Slot} (h:S g a [] [] w m v s) (hc:s.cur=if g then [.v 13] else []) (l:m+1<=n+6) W (e:W.sN=s.add 42 (.i 0) x):Fz g w (n+6) v W:=by
  exact CC (e▸((h.end_ (by rw[hc,h.2.trans hp];exact .ret)).le l)) ha (e▸h.cd rfl) (by show 0<W.sN.code.length;rw[e,cX];exact cT _)
 unfold St.fin
 induction g with
 |false=>
  rw[if_neg ϟ]
  have m: ∃s:St,st.mk?.sN=s/\S false a [] [] w (n+1) v s/\s.cur=[]:=by
   unfold St.mk?
   induction e:st.bZ with
   |none=>exact⟨_,rfl,(h.same e).le<|ϰ n,hc⟩
   |some k=>exact⟨_,rfl,(h.YU e).mark hc<|h.2.trans hp,hc⟩
  refine m.elim λs q_=>q_.elim λe q_=>q_.elim λm1 m2=>?_
  induction o:st.mk?.oe with
  |true=>rw[if_pos rfl];exact end_ m1 m2 (by omega) _<|show(st.mk?.sN).add 42 (.i 0) []=s.add 42 (.i 0) [] by rw[e]
  |false=>
   rw[if_neg ϟ]
   have c:=IV m1 (show s.oe=false by rw[<-e];exact o)
   exact CC (e▸(m1.le (by omega))) ha (e▸c.1) (by show 0<st.mk?.sN.code.length;rw[e];exact c.2)
 |true=>
  rw[if_pos rfl]
  dsimp only
  have m: ∃s:St,s=(if st.oe=true then(st.add 20 (.i 0) [.v 14]).add 122 (.i 0) [] else st)/\S true a [] [] w (n+2) v s/\s.cur=[]/\Cd s/\0<s.code.length:=by
   induction o:st.oe with
   |true=>
    rw[if_pos rfl]
    have h1:=h.gQ (op:=20) (x:=0) (nx:=[.v 14])<|hc▸.nul
    exact⟨_,rfl,h1.end_<|.lO<|.inl rfl,rfl,h1.cd rfl,by rw[cX];exact cT _⟩
   |false=>
    rw[if_neg ϟ]
    exact⟨_,rfl,h.le<|Ρ _ _,hc,(IV h o)⟩
  refine m.elim λs q_=>q_.elim λe q_=>q_.elim λm1 q_=>q_.elim λm2 q_=>q_.elim λm3 m4=>?_
  rw[<-e]
  induction hr:s.bZ with
  |none=>
   exact CC ((m1.same hr).le (by omega)) ha ⟨m3.1,m3.2⟩ m4
  |some k=>
   refine(m1.5.3.2<|m1.5.3.3 rfl<|hr▸nofun).elim λx q_=>q_.elim λe1 e2=>?_
   have s3:=((m1.YU hr).mark m2 (m1.2.trans hp)).add (by
    rw[show(s.sN.mark k).cur=[] from m2]
    exact .ld e2 .new)
   exact end_ s3 rfl (ϰ<|n+2+1+1+1) _<|show((s.sN.mark k).add 65036 (.i s.fJ) [.v 13]).add 42 (.i 0) []=_ by rw[e1]
theorem Ks{z:Int}{d:Nat}(h:Ws g (.s false false) [] 0 z d n t): ∃u,Fz g t.want (2*n+6) (z,u) (oF g t):=by
 have q:Nm t 0 z n:=R4 h
 have b:=@q St.init 0 rfl ⟨ώ _,ώ _,λ_ _ e=>(Ϝ e),λ_=>trivial⟩
 have e0:(jx t St.init).r0={St.init with ok:=(jx t St.init).ok,d9:=(jx t St.init).d9}:=congrArg (λc:St=>{c with ok:=(jx t St.init).ok,d9:=(jx t St.init).d9}) b.1
 have pk:Pk (jx t St.init).r0 (pD t [] 0).1:=λx m=>by
  show(lk x.1 (jx t St.init).d9).getD []=x.2
  rw[b.4 x m];rfl
 have ok:n<=400000->(jx t St.init).ok:=λk=>b.5.4 (by rw[aP];exact k)
 unfold oF
 rw[e0] at pk⊢
 generalize(jx t St.init).d9=r at pk
 generalize(jx t St.init).ok=o at ok pk
 have i:Inv g [] [] [] n (0,0) ({St.init with ok:=o,d9:=r}):=⟨⟨rfl,ϛ _,λz m=>(ay m),λi x e=>(Ϝ e),λr x e=>(Ϝ e),.nil,λi x e=>(Ϝ e)⟩,⟨λi x e=>(Ϝ e),ϛ _,ϛ _,λe m=>(ay m),λl p e=>(Ϝ e),λe m=>(ay m),.nil,λk e=>(Ϝ e),λe m=>(ay m)⟩,⟨λl p e=>(Ϝ e),λq=>absurd q<|show¬0<= -1 by decide,λ_ q=>absurd rfl q⟩,⟨λi x e=>(Ϝ e),λz m=>(ay m),λc m=>(ay m),.nil,rfl⟩,⟨ϋ _,ϋ _,ϋ _,ϋ _,ϋ _,ϋ _,ok⟩⟩
 have p:=Qx h z0 i rfl ⟨λl m=>(ay m),λ_ x m=>(ay m),λe=>(ff e)⟩ pk
 have f:=Lq p.1 p.2 ⟨rfl,rfl⟩ rfl
 rw[show n+n+6=2*n+6 by omega] at f
 exact⟨_,f⟩
end
noncomputable def kh(c:Cl):Nat:=if c.sort<=1 then 1 else 3
inductive Rm(c:Cl)(p:Pa):Nat->Prop
 |t:(c.rt,0)∈p->Rm c p 0
 |h:(c.rh,kh c)∈p->Rm c p 1
 |f:c.sort=1->(c.rh-1,2)∈p->Rm c p 2
inductive Cq(V:St)(c:Cl):Prop
 |mk (t:Iv V c.up c.rt 0 c.t0 c.t1) (h:Iv V c.up c.rh (kh c) c.h0 c.h1) (f:c.sort=1->Iv V c.up (c.rh-1) 2 c.ex c.h0) (s:Sh V c (kh c)) (p:0<c.rt/\c.rt<c.rh/\(c.sort=1->c.rt<c.rh-1))
inductive Fy(g:Bool)(w:List (Option Row))(n:Nat)(y:Int×Int)(V:St):Prop
 |mk (i:Inv g [] [] w n y V) (r:V.bZ=none) (d:Cd V) (p:0<V.code.length) (z: ∃x,V.code[0]? =some x/\x.st=[])
section
variable{g:Bool}{w:List (Option Row)}{n:Nat}{y:Int×Int}{V:St}{i q:Nat}{x x':d_}{c c':Cl}{z:Nat×Nat}{p P Y:Pa}{r:Int}{k:Nat}
theorem Kc.ck(h:Kc V c):Cq V c:=by
 obtain⟨h1,h2,h3,i1,i2,sh⟩:=h
 have e: ∀{k:Nat},Sh V c k->kh c=k/\(c.sort=1->Iv V c.up (c.rh-1) 2 c.ex c.h0):=λsh=>by
  unfold kh
  induction sh with
  |fin _ q _ _=>rw[q];exact⟨rfl,λe=>nomatch e⟩
  |tL _ _ q _ _=>rw[q];exact⟨rfl,λe=>nomatch e⟩
  |NK _ _ _ q _ _ _=>rw[q];exact⟨rfl,λe=>nomatch e⟩
  |Au _ _ _ q _ _ _ _ i _=>rw[q];exact⟨rfl,λ_=>i⟩
 refine(e sh).elim λe1 e2=>?_
 exact⟨i1,e1▸i2,e2,e1▸sh,h1,h2,h3⟩
theorem Fy.ck(h:Fy g w n y V)(hc:V.clauses[q]? =some c):Cq V c:=(h.1.4.3 c<|Υ hc).ck
theorem oY{pos:Nat}(ck:Cq V c)(hx:V.code[i]? =some x):z∈bB pos c i↔z.1=pos/\Rm c x.pa z.2:=by
 have one {b:Prop} [Decidable b] {t:Nat×Nat}:z∈(if b then [t] else [])↔b/\z=t:=by
  split
  ·next h=>rw[υ];exact⟨λe=>⟨h,e⟩,λe=>e.2⟩
  ·next h=>exact⟨λm=>(ay m),λe=>absurd e.1 h⟩
 unfold bB
 rw[Ζ,Ζ,one,one,one,(ck.1.5 i x hx),(ck.2.5 i x hx)]
 constructor
 ·rintro ((⟨a,rfl⟩|⟨a,rfl⟩)|⟨⟨s,a⟩,rfl⟩)
  ·exact⟨rfl,.t a⟩
  ·exact⟨rfl,.h a⟩
  ·exact⟨rfl,.f s<|((ck.3 s).5 i x hx).mp a⟩
 ·obtain⟨z1,z2⟩:=z
  rintro ⟨e,m'⟩
  cases e
  have m:Rm c x.pa z2:=m'
  clear m'
  induction m with
  |t m=>exact .inl<|.inl ⟨m,rfl⟩
  |h m=>exact .inl<|.inr ⟨m,rfl⟩
  |f s m=>exact .inr ⟨⟨s,((ck.3 s).5 i x hx).mpr m⟩,rfl⟩
theorem zq{k:Nat}{i:Int}{c:Cl}{cs:List Cl}:partsFrom k i (c::cs)=bB k c i++partsFrom (k+1) i cs:=rfl
theorem uW{j:Int}: ∀(cls:List Cl)(pos:Nat),z∈partsFrom pos j cls↔∃(q:Nat)(c:Cl),cls[q]? =some c/\z∈bB (pos+q) c j:=by
 intro cls
 induction cls with
 |nil=>exact λpos=>⟨λm=>(ay m),λ⟨q,c,e,_⟩=>(Ϝ e)⟩
 |cons d cls ih=>
  intro pos
  rw[zq,Ζ,ih]
  constructor
  ·rintro (m|⟨q,c,e,m⟩)
   ·exact⟨0,d,rfl,m⟩
   ·exact⟨q+1,c,e,by rw[<-aZ,cz];exact m⟩
  ·rintro ⟨q,c,e,m⟩
   induction q with
   |zero=>exact .inl<|ξ e▸m
   |succ q=>exact .inr ⟨q,c,e,by rw[cz];exact m⟩
theorem Fy.parts(h:Fy g w n y V)(hx:V.code[i]? =some x):z∈partsFrom 0 i V.clauses↔∃c,V.clauses[z.1]? =some c/\Rm c x.pa z.2:=by
 rw[uW]
 constructor
 ·rintro ⟨q,c,e,m⟩
  obtain⟨m1,m2⟩:=(oY (h.ck e) hx).mp m
  exact⟨c,by rw[m1,aP];exact e,m2⟩
 ·rintro ⟨c,e,m⟩
  exact⟨z.1,c,e,(oY (h.ck e) hx).mpr ⟨(aP _).symm,m⟩⟩
theorem Rm.mono(h:Rm c p k){p':Pa}(s: ∀z∈p,z∈p'):Rm c p' k:=by
 induction h with
 |t m=>exact .t<|s _ m
 |h m=>exact .h<|s _ m
 |f e m=>exact .f e<|s _ m
theorem Rm.app{X:Pa}(h:Rm c (p++X) k):Rm c p k∨Rm c X k:=by
 induction h with
 |t m=>exact(Ζ.mp m).imp .t .t
 |h m=>exact(Ζ.mp m).imp .h .h
 |f e m=>exact(Ζ.mp m).imp (.f e)<|.f e
variable{kp:Nat->Int}
theorem Fy.gQ(h:Fy g w n y V)(hx:V.code[i]? =some x)(hx':V.code[i+1]? =some x')(e:Ex x.pa x'.pa):zp (V.wd g kp) i (i+1) 0:=by
 refine e.out.elim λX q_=>q_.elim λe hX=>?_
 refine⟨by show _<V.sc.length;unfold St.sc;rw[ς];exact aM hx',.inr ⟨λz m=>.inl ?_,λz m=>?_⟩⟩
 ·refine((h.parts hx).mp m).elim λc q_=>q_.elim λe1 m=>?_
  exact(h.parts hx').mpr ⟨c,e1,m.mono λz m=>e▸Κ _ m⟩
 ·refine((h.parts hx').mp m).elim λc q_=>q_.elim λe1 m=>?_
  by_cases m0:Rm c x.pa z.2
  ·exact .inl<|(h.parts hx).mpr ⟨c,e1,m0⟩
  ·rw[e] at m
   have m1:=m.app.resolve_left m0
   have z0:z.2=0/\(c.rt,0)∈X:=by
    revert m0 m1
    generalize z.2=k
    intro m0 m1
    induction m1 with
    |t m=>exact⟨rfl,m⟩
    |h m=>have:=hX _ m;unfold kh at this;split at this<;>exact aD this
    |f _ m=>exact aD<|hX _ m
   refine .inr ⟨ϛ _,z0.1,λc' e'=>?_⟩
   have e':V.clauses[z.1]? =some c':=e'
   rw[e1] at e'
   cases e'
   have k:=h.ck e1
   have a1:=(k.1.5 _ _ hx').mpr<|e▸(Ε _ z0.2)
   have a2: ¬_:=λq=>m0<|z0.1▸.t ((k.1.5 _ _ hx).mp q)
   omega
theorem Fy.jump(h:Fy g w n y V)(hx:V.code[i]? =some x)(hx':V.code[q]? =some x'){op:Int}(e:Lv op x.pa x'.pa):zp (V.wd g kp) i q op:=by
 refine⟨by show _<V.sc.length;unfold St.sc;rw[ς];exact aM hx',.inr ?_⟩
 have main: ∀{a b:Pa},Lv op a b->a=x.pa->b=x'.pa->(∀r∈partsFrom 0 i V.clauses,r∈partsFrom 0 q V.clauses∨(op=221/\r.2≠2/\(r.2=1->∀c,V.clauses[r.1]? =some c->c.sort<=1)))/\(∀r∈partsFrom 0 q V.clauses,r∈partsFrom 0 i V.clauses∨(op<=0/\r.2=0/\∀c,V.clauses[r.1]? =some c->c.t0=q)):=λe=>by
  induction e with
  |eq=>
   intro e1 e2
   refine⟨λz m=>.inl ?_,λz m=>.inl ?_⟩
   ·exact(h.parts hx').mpr<|((h.parts hx).mp m).imp λc q=>⟨q.1,by rw[<-e2,e1];exact q.2⟩
   ·exact(h.parts hx).mpr<|((h.parts hx').mp m).imp λc q=>⟨q.1,by rw[<-e1,e2];exact q.2⟩
  | @out P X ho hX=>
   intro e1 e2
   refine⟨λz m=>?_,λz m=>.inl ?_⟩
   ·refine((h.parts hx).mp m).elim λc q_=>q_.elim λc1 m=>?_
    rw[<-e1] at m
    refine m.app.imp (λm=>(h.parts hx').mpr ⟨c,c1,e2▸m⟩) λm=>⟨ho,λe=>?_,λe c' c2=>?_⟩
    ·rw[e] at m
     cases m with
     |f _ m=>exact absurd (hX _ m)<|show¬2<=1 by decide
    ·rw[c1] at c2
     cases c2
     rw[e] at m
     cases m with
     |h m=>
      have:=hX _ m
      unfold kh at this
      split at this
      ·assumption
      ·exact absurd this (show¬3<=1 by decide)
   ·obtain⟨c,c1,m⟩:=(h.parts hx').mp m
    exact(h.parts hx).mpr ⟨c,c1,by rw[<-e1];rw[<-e2] at m;exact m.mono λz m=>Κ _ m⟩
 exact main e rfl rfl
theorem GF{f:Nat×Nat->Bool}{j:Int}: ∀(cls:List Cl)(pos q:Nat),(∀(k:Nat)(d:Cl),k<q->cls[k]? =some d->∀z∈bB (pos+k) d j,f z=false)->cls[q]? =some c->∃rest,(partsFrom pos j cls).filter f=(bB (pos+q) c j).filter f++rest:=by
 intro cls
 induction cls with
 |nil=>exact λ_ _ _ e=>Ϝ e
 |cons d cls ih=>
  intro pos q hb e
  rw[zq,List.filter_append]
  induction q with
  |zero=>exact⟨_,by rw[ξ e];rfl⟩
  |succ q=>
   obtain⟨rest,er⟩:=ih (pos+1) q (λk d' hk ed=>by have:=hb (k+1) d' (E0 hk) ed;rw[<-aZ,cz] at this;exact this) e
   refine⟨rest,?_⟩
   rw[tR.mpr λz m=>by rw[hb 0 d (cT _) rfl z m];exact ϟ,er,cz];rfl
theorem Fy.own(h:Fy g w n y V)(hx:V.code[i]? =some x)(e:x.pa=P++(r,k)::Y)(hk:0<k): ∃(q:Nat)(c:Cl),V.clauses[q]? =some c/\Ow c (r,k)/\(∃Z,x.pa=c.up++(r,k)::Z)/\r∈c.own/\∀(j:Nat)(d:Cl),j<q->V.clauses[j]? =some d->∀s∈d.ids,(∀m,(s,m)∈x.pa->(s,m)∈Y):=by
 refine((h.1.4.1 i x hx (r,k) (by rw[e];exact Ε _<|.head _) hk).resolve_left ϑ).elim λc q_=>q_.elim λmc ow=>?_
 refine(bI mc).elim λq hq=>?_
 have ck:=h.ck hq
 have hm:(r,k)∈x.pa:=by rw[e];exact Ε _<|.head _
 have o1:(∃Z,x.pa=c.up++(r,k)::Z)/\r∈c.own:=by
  have gen: ∀z:Int×Nat,Ow c z->z∈x.pa->(∃Z,x.pa=c.up++z::Z)/\z.1∈c.own:=λz ow m=>by
   induction ow with
   |h1 s=>exact⟨ck.2.6 i x hx (by unfold kh;rw[if_pos s];exact m)|>.imp λZ q=>by unfold kh at q;rw[if_pos s] at q;exact q,.head _⟩
   |h3 s=>exact⟨ck.2.6 i x hx (by unfold kh;rw[if_neg<|cy.mpr s];exact m)|>.imp λZ q=>by unfold kh at q;rw[if_neg<|cy.mpr s] at q;exact q,.head _⟩
   |f s=>exact⟨(ck.3 s).6 i x hx m,.tail _ (by rw[if_pos s];exact .head _)⟩
  exact gen _ ow hm
 refine⟨q,c,hq,ow,o1.1,o1.2,λj d hj hd s hs m hm'=>?_⟩
 have pw:=qF.mp h.1.4.4 j q (aM hd) (aM hq) hj
 rw[(Δ.mp hd).2,(Δ.mp hq).2] at pw
 have cd:=h.1.1.7 i x hx
 refine o1.1.elim λZ eZ=>?_
 rw[eZ] at cd
 refine(eY.mp cd).elim λ_ q_=>q_.elim λc1 c2=>?_
 rw[eZ] at hm'
 rcases Ζ.mp hm' with a|a
 ·exact absurd rfl<|pw.2 s hs _ a
 ·rcases Θ.mp a with a|a
  ·exact absurd (by rw[show s=r from congrArg Ϣ a];exact o1.2)<|pw.1 s hs
  ·have lt:=(bk.mp c1).1 _ a
   have cd2:=h.1.1.7 i x hx
   rw[e] at cd2
   have hm2:(s,m)∈P++(r,k)::Y:=by rw[<-e,eZ];exact Ε _<|.tail _ a
   rcases Ζ.mp hm2 with b|b
   ·have:=(eY.mp cd2).2.2 _ b _<|.head _
    exact absurd lt<|Ϭ.mpr<|cQ this
   ·exact(Θ.mp b).resolve_left λq=>absurd lt<|q▸(kI _)
theorem Cq.one{s1 s2:Int}{k1 k2:Nat}{a b a' b':Int}(hx:V.code[i]? =some x)(h1:Iv V c.up s1 k1 a b)(h2:Iv V c.up s2 k2 a' b')(m1:(s1,k1)∈x.pa)(m2:(s2,k2)∈x.pa):k1=k2:=by
 refine(h1.6 i x hx m1).elim λZ1 e1=>?_
 refine(h2.6 i x hx m2).elim λZ2 e2=>?_
 rw[e1] at e2
 exact congrArg vW (bC<|List.append_cancel_left e2).1
theorem Rm.id(h:Rm c p k): ∃s∈c.ids,∃m,(s,m)∈p/\(m=0->k=0):=by
 induction h with
 |t m=>exact⟨_,.head _,0,m,λ_=>rfl⟩
 |h m=>exact⟨_,.tail _<|.head _,_,m,λe=>by unfold kh at e;split at e<;>exact aD e⟩
 |f e m=>exact⟨_,.tail _<|.tail _ (by rw[if_pos e];exact .head _),2,m,λe=>aD e⟩
theorem Fy.head(h:Fy g w n y V)(hx:V.code[i]? =some x)(e:x.pa=P++(r,k)::Y)(hk:0<k)(f:Nat×Nat->Bool)(hf: ∀z:Nat×Nat,z.2=0->(∃s,(s,0)∈Y)->f z=false)(hY: ∀z∈Y,z.2=0): ∃(q:Nat)(c:Cl),V.clauses[q]? =some c/\Ow c (r,k)/\(r,k)∈x.pa/\∃rest,(partsFrom 0 i V.clauses).filter f=(bB q c i).filter f++rest:=by
 refine(h.own hx e hk).elim λq q_=>q_.elim λc q_=>q_.elim λhq q_=>q_.elim λow q_=>q_.elim λ_ q_=>q_.elim λ_ b=>?_
 have hm:(r,k)∈x.pa:=by rw[e];exact Ε _<|.head _
 refine⟨q,c,hq,ow,hm,?_⟩
 have:=GF (f:=f) (j:=i) V.clauses 0 q (λj d hj hd z m=>?_) hq
 ·rw[aP] at this;exact this
 ·refine((oY (h.ck hd) hx).mp m).elim λ_ rm=>?_
  refine rm.id.elim λs q_=>q_.elim λms q_=>q_.elim λm' q_=>q_.elim λhm' hz=>?_
  have my:=b j d hj hd s ms m' hm'
  have m0:=hY _ my
  exact hf z (hz m0) ⟨s,m0▸my⟩
theorem DE{pos:Nat}(ck:Cq V c)(hx:V.code[i]? =some x)(m:(c.rh,kh c)∈x.pa):bB pos c i=[(pos,1)]:=by
 unfold bB
 rw[if_neg λq=>?_,if_pos<|(ck.2.5 i x hx).mpr m,if_neg λq=>?_];rfl
 ·have:=Cq.one hx (ck.3 q.1) ck.2 (((ck.3 q.1).5 i x hx).mp q.2) m
  unfold kh at this;split at this<;>exact nomatch this
 ·have:=Cq.one hx ck.1 ck.2 ((ck.1.5 i x hx).mp q) m
  unfold kh at this;split at this<;>exact aD this
theorem kY{l:List (Nat×Nat)}:l.filter (λ_=>true)=l:=List.filter_eq_self.mpr λ_ _=>rfl
theorem Fy.HV(h:Fy g w n y V)(hx:V.code[i]? =some x)(e:x.pa=P++[(r,3)]):jX (V.wd g kp) i 220:=by
 refine(h.head hx e (by decide) (λ_=>true) (λ_ _ ⟨s,m⟩=>ay m)<|λz m=>ay m).elim λq q_=>q_.elim λc q_=>q_.elim λhq q_=>q_.elim λow q_=>q_.elim λhm q_=>q_.elim λrest er=>?_
 have ck:=h.ck hq
 rw[kY,kY] at er
 unfold jX
 rw[if_pos rfl]
 have gen: ∀{z:Int×Nat},Ow c z->z.2=3->1<c.sort/\z=(c.rh,kh c):=λow=>by
  induction ow with
  |h1 s=>exact λe=>nomatch e
  |h3 s=>exact λ_=>⟨s,by unfold kh;rw[if_neg<|cy.mpr s]⟩
  |f s=>exact λe=>nomatch e
 refine(gen ow rfl).elim λs ez=>?_
 exact⟨q,rest,c,er.trans (by rw[DE ck hx<|ez▸hm];rfl),hq,s⟩
theorem Fy.HU(h:Fy g w n y V)(hx:V.code[i]? =some x)(e:x.pa=P++(r,1)::Y)(hY: ∀z∈Y,z.2=0):jX (V.wd g kp) i 65050:=by
 refine(h.head hx e (by decide) (λx=>decide<|x.2≠0) (λz e _=>by rw[e];rfl) hY).elim λq q_=>q_.elim λc q_=>q_.elim λhq q_=>q_.elim λow q_=>q_.elim λhm q_=>q_.elim λrest er=>?_
 have ck:=h.ck hq
 unfold jX
 rw[if_neg<|show¬(65050:Int)=220 by decide]
 have gen: ∀{z:Int×Nat},Ow c z->z.2=1->c.sort<=1/\z=(c.rh,kh c):=λow=>by
  induction ow with
  |h1 s=>exact λ_=>⟨s,by unfold kh;rw[if_pos s]⟩
  |h3 s=>exact λe=>nomatch e
  |f s=>exact λe=>nomatch e
 refine(gen ow rfl).elim λs ez=>?_
 exact⟨q,rest,c,er.trans (by rw[DE ck hx<|ez▸hm];rfl),hq,s⟩
theorem Fy.zF(h:Fy g w n y V)(hx:V.code[i]? =some x)(e:x.pa=P++[(r,2)]): ∃(p:Nat)(rest:List (Nat×Nat)),partsFrom 0 i V.clauses=(p,2)::rest:=by
 refine(h.head hx e (by decide) (λ_=>true) (λ_ _ ⟨s,m⟩=>ay m)<|λz m=>ay m).elim λq q_=>q_.elim λc q_=>q_.elim λhq q_=>q_.elim λow q_=>q_.elim λhm q_=>q_.elim λrest er=>?_
 have ck:=h.ck hq
 rw[kY,kY] at er
 have gen: ∀{z:Int×Nat},Ow c z->z.2=2->c.sort=1/\z=(c.rh-1,2):=λow=>by
  induction ow with
  |h1 s=>exact λe=>nomatch e
  |h3 s=>exact λe=>nomatch e
  |f s=>exact λ_=>⟨s,rfl⟩
 obtain⟨s,ez⟩:=gen ow rfl
 have m:=ez▸hm
 refine⟨q,rest,er.trans ?_⟩
 have ep:bB q c i=[(q,2)]:=by
  unfold bB
  have e2: ¬(c.h0<=i/\i<c.h1):=λz=>by
   have:=Cq.one hx ck.2 (ck.3 s) ((ck.2.5 i x hx).mp z) m
   unfold kh at this;split at this<;>exact nomatch this
  rw[if_neg (λz=>aD (Cq.one hx ck.1 (ck.3 s) ((ck.1.5 i x hx).mp z) m): ¬(c.t0<=i/\i<c.t1)),if_neg e2,if_pos ⟨s,((ck.3 s).5 i x hx).mpr m⟩];rfl
 rw[ep];rfl
theorem Fy.Zq(h:Fy g w n y V)(hx:V.code[i]? =some x)(e:x.pa=[]):partsFrom 0 i V.clauses=[]:=by
 induction hp:partsFrom 0 i V.clauses with
 |nil=>rfl
 |cons z l=>
  refine((h.parts hx).mp (by rw[hp];exact .head _)).elim λc q_=>q_.elim λ_ m=>?_
  rw[e] at m
  refine m.id.elim λ_ q_=>q_.elim λ_ q_=>q_.elim λ_ q_=>q_.elim λq _=>?_
  exact ay q
end
inductive Kr(V:St)(r:Int)(key:Nat):Prop
 |h {c:Cl}:V.clauses[key]? =some c->c.rh=r->Kr V r key
 |f {c:Cl} {p:Nat}:V.clauses[p]? =some c->c.sort=1->c.rh-1=r->key=p+1000->Kr V r key
noncomputable def GV(V:St)(n:Nat):Nat:=jL λk=>Kr V n k
noncomputable def UQ(V:St)(key:Nat):Int:=jL λx=>∃r,Kr V r key/\lk r V.nt=some x
noncomputable def mp(V:St):Slot->Slot
 | .x key k=>.x (GV V key) k
 | .u key k=>.u (GV V key) k
 |s=>s
inductive tP(V:St)(i:Nat):List Slot->Prop
 |eq {x:d_}:V.code[i]? =some x->tP V i (x.st.map<|mp V)
 |cb {x:d_}:V.code[i]? =some x->x.st=[.b]->tP V i [.c 0]
noncomputable def nh(V:St)(i:Nat):Int:=match V.code[i]? with
 |some x=>x.st.length
 |none=>0
inductive FG(V:St)(i key:Nat):Prop
 |mk {x:d_} {t:Slot}:V.code[i]? =some x->(x.op=38∨x.op=65038)->x.st=[t]->dJ (mp V t)=some key->FG V i key
noncomputable abbrev Ih(V:St)(g:Bool):WD:=V.wd g<|UQ V
section
variable{g:Bool}{w:List (Option Row)}{n:Nat}{y:Int×Int}{V:St}{i q k k':Nat}{x x':d_}{c d:Cl}{p:Pa}{r r' v:Int}{s:List Slot}
theorem Fy.uniq(h:Fy g w n y V){q':Nat}(h1:V.clauses[q]? =some c)(h2:V.clauses[q']? =some d)(m1:r∈c.own)(m2:r∈d.own):q=q':=by
 have lt: ∀{a b:Nat}{c d:Cl},V.clauses[a]? =some c->V.clauses[b]? =some d->r∈c.own->r∈d.own->¬a<b:=λ{a b c d} h1 h2 m1 m2 l=>by
  have p:=(qF.mp h.1.4.4) a b (aM h1) (aM h2) l
  rw[(Δ.mp h1).2,(Δ.mp h2).2] at p
  exact p.1 r (.tail _ m1) m2
 exact Nat.le_antisymm (ϯ.mp<|lt h2 h1 m2 m1)<|ϯ.mp<|lt h1 h2 m1 m2
theorem Kr.own(h:Kr V r k): ∃(q:Nat)(c:Cl),V.clauses[q]? =some c/\r∈c.own/\((c.rh=r/\k=q)∨(c.sort=1/\c.rh-1=r/\k=q+1000)):=by
 induction h with
 |h a b=>exact⟨_,_,a,b▸.head _,.inl ⟨b,rfl⟩⟩
 |f a s b e=>exact⟨_,_,a,.tail _ (by rw[if_pos s,b];exact .head _),.inr ⟨s,b,e⟩⟩
theorem Fy.GW(h:Fy g w n y V)(hk:Kr V r k)(h0:0<=r):GV V r.toNat=k:=by
 have sp: ∀n:Nat,(n:Int)=r->Kr V r (GV V n):=λn e=>by
  subst e
  exact gG ⟨k,hk⟩
 have s:=sp r.toNat<|Int.toNat_of_nonneg h0
 obtain⟨q1,c1,a1,m1,o1⟩:=s.own
 obtain⟨q2,c2,a2,m2,o2⟩:=hk.own
 have e:=h.uniq a1 a2 m1 m2
 subst e
 cases a1.symm.trans a2
 omega
theorem Kr.inj{r':Int}(hl:V.clauses.length<=1000)(s:Kr V r' k)(hk:Kr V r k):r'=r:=by
 induction s with
 |h a b=>
  induction hk with
  |h a' b'=>exact b.symm.trans<|(congrArg Cl.rh<|ξ<|a.symm.trans a').trans b'
  |f a' s' b' e'=>exact absurd (bw (aM a) hl)<|e'▸ϯ.mpr (ϣ 1000 _)
 |f a s b e=>
  induction hk with
  |h a' b'=>exact absurd (bw (aM a') hl)<|e▸ϯ.mpr (ϣ 1000 _)
  |f a' s' b' e'=>exact b.symm.trans<|(congrArg (λc=>c.rh-1)<|ξ<|a.symm.trans<|Nat.add_right_cancel (e.symm.trans e')▸a').trans b'
theorem Fy.GX(h:Fy g w n y V)(hl:V.clauses.length<=1000)(hk:Kr V r k)(hn:lk r V.nt=some v):UQ V k=v:=by
 refine(gG (p:=λx=>∃r,Kr V r k/\lk r V.nt=some x) ⟨v,r,hk,hn⟩).elim λr' q=>?_
 exact ξ<|q.2.symm.trans<|Kr.inj hl q.1 hk▸hn
theorem Fy.key(h:Fy g w n y V)(hx:V.code[i]? =some x){P:Pa}{m:Nat}(e:x.pa=P++[(r,m)])(h1:0<m)(h2:m<3):0<=r/\∃k,Kr V r k:=by
 refine(h.own hx e h1).elim λq q_=>q_.elim λc q_=>q_.elim λhq q_=>q_.elim λow q_=>q_.elim λ_ q_=>q_.elim λ_ _=>?_
 have ck:=h.ck hq
 have gen: ∀{z:Int×Nat},Ow c z->z.2<3->0<=z.1/\∃k,Kr V z.1 k:=λow=>by
  induction ow with
  |h1 s=>exact λ_=>⟨by have:=ck.5;omega,_,.h hq rfl⟩
  |h3 s=>exact λe=>absurd e<|show¬3<3 by decide
  |f s=>exact λ_=>⟨by have:=ck.5.2.2 s;have:=ck.5;omega,_,.f hq s rfl rfl⟩
 exact gen ow h2
theorem d7(h:V.code[i]? =some x):nh V i=(x.st.length:Nat):=by unfold nh;rw[h]
theorem Fy.fo(h:Fy g w n y V)(hx:V.code[i]? =some x)(ne:bK x.op=false)(f:F V i p s): ∃x',V.code[i+1]? =some x'/\x'.st=s/\Ex p x'.pa:=by
 induction f with
 |nx a b c=>exact⟨_,a,b,c⟩
 |en a _ _=>rw[h.3.1 i x hx a] at ne;exact ff ne.symm
theorem Fy.Zo(h:Fy g w n y V){e:Lb}(m:e∈V.lg): ∃(q:Nat)(x:d_),lk e.l V.ϙ=some (q:Int)/\V.code[q]? =some x/\x.st=e.s/\x.pa=e.p:=by
 refine M.np ?_ h.3.2
 rcases h.1.2.9 e m with q|q|q
 ·exact ay q
 ·rw[h.2] at q;exact Ϝ q
 ·exact q
theorem Fy.jo(h:Fy g w n y V){op l:Int}(j:Jp V op l p s): ∃(q:Nat)(x:d_),lk l V.ϙ=some (q:Int)/\V.code[q]? =some x/\Ag s x.st/\Lv op p x.pa:=by
 obtain⟨m,e,a,l⟩:=j
 refine(h.Zo m).elim λq q_=>q_.elim λx q_=>q_.elim λe1 q_=>q_.elim λe2 q_=>q_.elim λe3 e4=>?_
 exact⟨q,x,e▸e1,e2,e3▸a,e4▸l⟩
theorem Ag.al{s':List Slot}(h:Ag s s')(hq:V.code[q]? =some x)(e:x.st=s'):tP V q (s.map<|mp V):=by
 induction h with
 |eq=>exact e▸.eq hq
 |cb=>exact .cb hq e
theorem s6:tgt x.op (V.qy x)=(tgt x.op x.n).map V.at_:=by
 unfold St.qy
 induction x.n with
 |ts l=>rfl
 |i v=>
  induction e:k9 x.op with
  |true=>
   dsimp only
   rw[if_pos rfl]
   exact(if_pos e).trans (congrArg (lP V.at_) (if_pos e:tgt x.op (.i v)=[v])).symm
  |false=>
   dsimp only
   rw[if_neg ϟ]
   have ne: ¬Af x.op=true:=by rw[show Af x.op=false from e];exact ϟ
   exact(if_neg ne).trans (congrArg (lP V.at_) (if_neg ne:tgt x.op (.i v)=[])).symm
noncomputable def TP(V:St)(i:Nat)(f:Option (List Slot)):List Way:=match f with
 |some s=>[(i+1,s.map<|mp V,0)]
 |none=>[]
noncomputable def EH(V:St)(op:Int)(js:List (Int×List Slot)):List Way:=js.map λj=>(V.at_ j.1,j.2.map<|mp V,op)
inductive Ik(V:St)(g:Bool)(i:Nat)(x:d_):Prop
 |mk (kn:x.op∈dI) (od:vU x.op x.n) (lb: ∀l∈tgt x.op x.n,∃q:Nat,lk l V.ϙ=some (q:Int)/\q<V.code.length) (ln:(tgt x.op x.n).length<=2) (pop:(pp (mU g) x.op).1<=(x.st.length:Nat)) (len:x.st.length<=2) (w:U' (Ih V g) (mU g) (nh V) (tP V) (FG V) i (x.op,V.qy x) (x.st.map<|mp V))
theorem Fy.ik(h:Fy g w n y V)(hx:V.code[i]? =some x)(js:List (Int×List Slot))(f:Option (List Slot))(t:Option Slot)(kn:dI.contains x.op=true)(od:vU x.op x.n)(tg:tgt x.op x.n=js.map Ϣ)(pop:(pp (mU g) x.op).1<=(x.st.length:Nat))(len:x.st.length<=2)
 (st:Step (Ih V g) i x.op (V.qy x) (x.st.map<|mp V) (EH V x.op js++TP V i f) t) (hj:js.length<=2) (jp: ∀j∈js,Jp V x.op j.1 x.pa j.2/\(j.2.length:Int)=eF (mU g) x.op (x.st.length:Nat)) (hf: ∀s,f=some s->F V i x.pa s/\(s.length:Int)=eF (mU g) x.op (x.st.length:Nat)) (he:bK x.op=f.isNone) (de:js=[]->f=none->eF (mU g) x.op (x.st.length:Nat)<=(x.st.length:Nat)) (nt:(x.op≠38/\x.op≠65038)∨∃t0,x.st=[t0]/\t=some (mp V t0)):Ik V g i x:=by
 have ls:V.sc.length=V.code.length:=ς _
 have jq: ∀j∈js,∃(q:Nat)(x':d_),lk j.1 V.ϙ=some (q:Int)/\V.code[q]? =some x'/\Ag j.2 x'.st/\Lv x.op x.pa x'.pa:=λj m=>h.jo (jp j m).1
 have at_: ∀{l:Int}{q:Nat},lk l V.ϙ=some (q:Int)->V.at_ l=q:=λe=>by unfold St.at_;rw[e];rfl
 have su: ∀{z:Int},z∈cV V.sc i (x.op,V.qy x)↔(bK x.op=false/\i+1<V.code.length/\z=i+1)∨z∈js.map λj=>V.at_ j.1:=λ{z}=>by
  rw[fP,ls,s6,tg,Ϲ];rfl
 refine⟨iX.mp kn,od,λl m=>?_,by rw[tg,ς];exact hj,pop,len,.mk _ t st ?_ (λz m=>?_) (λz m=>?_) ?_ λkey hk=>?_⟩
 ·rw[tg] at m
  refine(Ϗ.mp m).elim λj q_=>q_.elim λmj e=>?_
  refine(jq j mj).elim λq q_=>q_.elim λx' q_=>q_.elim λe1 q_=>q_.elim λe2 _=>?_
  exact⟨q,e▸e1,aM e2⟩
 ·unfold EH TP
  rw[θ,ς]
  induction f<;>simp<;>omega
 ·rcases Ζ.mp m with m|m
  ·refine(Ϗ.mp m).elim λj q_=>q_.elim λmj e_2=>?_
   subst e_2
   obtain⟨q,x',e1,e2,e3,e4⟩:=jq j mj
   exact⟨q,at_ e1,su.mpr<|.inr<|Ϗ.mpr ⟨j,mj,at_ e1⟩,h.jump hx e2 e4,e3.al e2 rfl,by rw[d7 hx,ς];exact(jp j mj).2⟩
  ·induction f with
   |none=>exact ay m
   |some s=>
    obtain⟨a1,a2⟩:=hf s rfl
    obtain⟨x',e1,e2,e3⟩:=h.fo hx he a1
    rw[υ.mp m]
    exact⟨i+1,rfl,su.mpr<|.inl ⟨he,aM e1,rfl⟩,h.gQ hx e1 e3,e2▸.eq e1,by rw[d7 hx,ς];exact a2⟩
 ·rcases su.mp m with⟨a,_,e⟩|m
  ·induction f with
   |none=>rw[he] at a;exact ff a.symm
   |some s=>exact⟨_,Ε _<|.head _,e.symm⟩
  ·obtain⟨j,mj,e⟩:=Ϗ.mp m
   exact⟨_,Κ _<|Ϗ.mpr ⟨j,mj,rfl⟩,e⟩
 ·induction f with
  |some s=>exact .inr<|dj _<|aq _ _
  |none=>
   induction js with
   |nil=>exact .inl (by rw[d7 hx];exact de rfl rfl)
   |cons j js=>exact .inr<|aq _ _
 ·obtain⟨a,b,e,o⟩:=hk
  cases hx.symm.trans a
  rcases nt with nt|⟨t0,e1,e2⟩
  ·exact absurd b (by omega)
  ·rw[e1] at e
   cases e
   exact⟨_,e2,o⟩
noncomputable def WU(op:Int):Od->Bool
 | .i _=>op !=69
 | .ts _=>op==69
theorem Dz{op:Int}{m:Od}(h:WU op m=true):vU op m:=by
 induction m with
 |i v=>exact bne_iff_ne.mp h
 |ts l=>exact beq_iff_eq.mp h
noncomputable def Zm(g:Bool)(op:Int)(m:Od)(l l':Nat):Bool:=(dI.contains op&&WU op m)&&(((tgt op m).isEmpty&&decide ((pp (mU g) op).1<=l))&&((Bm l 2&&decide (l'=eF (mU g) op l))&& !bK op))
noncomputable def Zl(g:Bool)(op:Int)(m:Od)(l:Nat):Bool:=(dI.contains op&&WU op m)&&(((tgt op m).isEmpty&&decide ((pp (mU g) op).1<=l))&&((Bm l 2&&decide (eF (mU g) op l<=l))&&(bK op&& !(op==38||op==65038))))
theorem c8{a b:Bool}(h:(a&&b)=true):a=true/\b=true:=by cases a;exact ff h;exact⟨rfl,h⟩
theorem Fy.fl(h:Fy g w n y V)(hx:V.code[i]? =some x){s:List Slot}{t:Option Slot}(ck:Zm g x.op x.n x.st.length s.length=true)(st:Step (Ih V g) i x.op (V.qy x) (x.st.map<|mp V) [((i:Int)+1,s.map<|mp V,0)] t)(f:F V i x.pa s)(nt:(x.op≠38/\x.op≠65038)∨∃t0,x.st=[t0]/\t=some (mp V t0)):Ik V g i x:=by
 refine(c8 ck).elim λc1 c2=>?_
 refine(c8 c2).elim λc2 c3=>?_
 refine(c8 c3).elim λc3 c4=>?_
 exact h.ik hx [] (some s) t (c8 c1).1 (Dz (c8 c1).2) (g5.mp (c8 c2).1) (of_decide_eq_true (c8 c2).2) (Λ (c8 c3).1) st (ϋ _) (λj m=>ay m) (λs' e=>ξ e▸⟨f,of_decide_eq_true (c8 c3).2⟩) (by cases e:bK x.op;rfl;rw[e] at c4;exact ff c4) (λ_ e=>Ϝ e.symm) nt
theorem Fy.ed(h:Fy g w n y V)(hx:V.code[i]? =some x)(ck:Zl g x.op x.n x.st.length=true)(st:Step (Ih V g) i x.op (V.qy x) (x.st.map<|mp V) [] none):Ik V g i x:=by
 refine(c8 ck).elim λc1 c2=>?_
 refine(c8 c2).elim λc2 c3=>?_
 refine(c8 c3).elim λc3 c4=>?_
 have c5:=(c8 c4).2
 rw[Bool.not_eq_true',eV,beq_eq_false_iff_ne,beq_eq_false_iff_ne] at c5
 exact h.ik hx [] none none (c8 c1).1 (Dz (c8 c1).2) (g5.mp (c8 c2).1) (of_decide_eq_true (c8 c2).2) (Λ (c8 c3).1) st (ϋ _) (λj m=>ay m) (λs' e=>Ϝ e) (c8 c4).1 (λ_ _=>of_decide_eq_true (c8 c3).2)<|.inl c5
theorem YC{k:Int}(h:pW k=true):k=17∨k=18:=by
 unfold pW at h
 rw[ES,beq_iff_eq,beq_iff_eq] at h
 exact h
theorem Wz{k:Int}(h:pW k=false):k≠17/\k≠18:=by
 unfold pW at h
 rw[eV,beq_eq_false_iff_ne,beq_eq_false_iff_ne] at h
 exact h
theorem Fy.ins(h:Fy g w n y V)(hl:V.clauses.length<=1000)(hx:V.code[i]? =some x):Ik V g i x:=by
 have ti:=h.1.2.1 i x hx
 obtain⟨op,od,s,pa⟩:=x
 have ti:Ti g V i pa op od s:=ti
 have no: ∀{op:Int}{t:Option Slot}{s:List Slot},(op==38||op==65038)=false->(op≠38/\op≠65038)∨∃t0,s=[t0]/\t=some (mp V t0):=λe=>.inl (by rw[eV,beq_eq_false_iff_ne,beq_eq_false_iff_ne] at e;exact e)
 have kn: ∀{r:Int}{x k:Nat}{m:Nat}{P:Pa}{v:Int}{key:Nat},Kr V r k->0<=r->lk r V.nt=some v->some (GV V r.toNat)=some key->UQ V key=v:=λkr k0 c e=>ξ e▸(by rw[h.GW kr k0];exact h.GX hl kr c)
 have ff: ∀{p:Pa}{s s':List Slot}{d:Int},F V i p s->s.length=d->some s=some s'->F V i p s'/\s'.length=d:=λf e q=>ξ q▸⟨f,e⟩
 induction ti with
 |gQ a f=>
  induction a with
  |arg=>exact h.fl hx rfl (.push .arg) f<|no rfl
  |nul=>exact h.fl hx rfl (.push .nul) f<|no rfl
  |c0=>exact h.fl hx rfl (.push .Qd) f<|no rfl
  |c1=>exact h.fl hx rfl (.push .Qe) f<|no rfl
  |GO=>exact h.fl hx rfl (.push .GO) f<|no rfl
  |Ez e=>exact h.fl hx rfl (.push<|.Ez<|YC e) f<|no rfl
  |box e=>exact h.fl hx rfl (.push<|.box<|YC e) f<|no rfl
  |gt=>exact h.fl hx rfl (.push .gt) f<|no rfl
  |Dy=>exact h.fl hx rfl .Dy f<|no rfl
  |dup=>exact h.fl hx rfl .dup f<|no rfl
  | @pv k=>exact h.fl hx rfl (.pop (t:=.v k) λkey e=>Ϝ e) f<|.inr ⟨_,rfl,rfl⟩
  |pz=>exact h.fl hx rfl (.pop (t:=.z) λkey e=>Ϝ e) f<|.inr ⟨_,rfl,rfl⟩
 |ld a f=>exact h.fl hx rfl (.push<|.ld a) f<|no rfl
 | @sv p x k a f=>exact h.fl hx rfl (.st (t:=.v k) a rfl λkey e=>Ϝ e) f<|.inr ⟨_,rfl,rfl⟩
 | @sx P x r k m a b c d e f=>
  refine(h.key hx rfl d e).elim λk0 q_=>q_.elim λk' kr=>?_
  exact h.fl hx rfl (.st (t:=.x (GV V r.toNat) k) a ⟨rfl,Wz b⟩ λkey e=>kn (x:=0) (m:=0) (P:=[]) kr k0 c e) f<|.inr ⟨_,rfl,rfl⟩
 | @su P x r k m a c d e f=>
  obtain⟨k0,k',kr⟩:=h.key hx rfl d e
  exact h.fl hx rfl (.st (t:=.u (GV V r.toNat) k) a rfl λkey e=>kn (x:=0) (m:=0) (P:=[]) kr k0 c e) f<|.inr ⟨_,rfl,rfl⟩
 | @px P r k m c d e f=>
  obtain⟨k0,k',kr⟩:=h.key hx rfl d e
  exact h.fl hx rfl (.pop (t:=.x (GV V r.toNat) k) λkey e=>kn (x:=0) (m:=0) (P:=[]) kr k0 c e) f<|.inr ⟨_,rfl,rfl⟩
 |en a=>
  induction a with
  |fin=>exact h.ed hx rfl<|.stands (.inl rfl)<|h.HV hx rfl
  |OP hY=>exact h.ed hx rfl<|.stands (.inr rfl)<|h.HU hx rfl hY
  |ret=>exact h.ed hx (by induction g<;>rfl) (by
   rw[show(d_.st ⟨42,.i 0,if g then [.v 13] else [],[]⟩).map (mp V)=(Ih V g).back by induction g<;>rfl]
   exact .ret (h.Zq hx rfl))
  |lO t=>exact h.ed hx rfl<|.lO (by rcases t with e|e|⟨k,e⟩<;>rw[e];exact .inl rfl;exact .inr (.inl rfl);exact .inr<|.inr ⟨k,rfl⟩)
  |Ao=>
   obtain⟨p,rest,e⟩:=h.zF hx rfl
   exact h.ed hx rfl<|.Ao (.inl rfl) e
 | @br p l s a b=>
  have j1: ∀j∈[(l,s)],Jp V 56 j.1 p j.2/\(j.2.length:Int)=eF (mU g) 56 (s.length:Nat):=λj m=>υ.mp m▸⟨b,by rcases a with e|e<;>rw[e]<;>rfl⟩
  exact h.ik hx [(l,s)] none none rfl (show(56:Int)≠69 by decide) rfl (by rcases a with e|e<;>rw[e]<;>exact of_decide_eq_true rfl) (by rcases a with e|e<;>rw[e]<;>exact Λ rfl) .br (Λ rfl) j1 (λs e=>Ϝ e) rfl (λe=>nomatch e)<|no rfl
 | @lv p l b=>
  exact h.ik hx [(l,[])] none none rfl (show(221:Int)≠69 by decide) rfl (of_decide_eq_true rfl) (ϋ _) .leave (Λ rfl) (λj m=>υ.mp m▸⟨b,rfl⟩: ∀j∈[(l,([]:List Slot))],Jp V 221 j.1 p j.2/\(j.2.length:Int)=eF (mU g) 221 0) (λs e=>Ϝ e) rfl (λe=>nomatch e)<|no rfl
 | @bb p op l a b f=>
  have j1: ∀{d:Int},0=d->∀j∈[(l,([]:List Slot))],Jp V op j.1 p j.2/\(j.2.length:Int)=d:=λe j m=>υ.mp m▸⟨b,e⟩
  rcases a with e|e
  ·subst e
   exact h.ik hx [(l,[])] (some []) none rfl (show(57:Int)≠69 by decide) rfl (of_decide_eq_true rfl) (Λ rfl) (.Ye<|.inl rfl) (Λ rfl) (j1 rfl) (λs=>ff f rfl) rfl (λe=>nomatch e)<|no rfl
  ·subst e
   exact h.ik hx [(l,[])] (some []) none rfl (show(58:Int)≠69 by decide) rfl (of_decide_eq_true rfl) (Λ rfl) (.Ye<|.inr rfl) (Λ rfl) (j1 rfl) (λs=>ff f rfl) rfl (λe=>nomatch e)<|no rfl
 | @bx p l k key b f=>
  exact h.ik hx [(l,[.x key k])] (some [.z]) none rfl (show(58:Int)≠69 by decide) rfl (of_decide_eq_true rfl) (Λ rfl) .Y4 (Λ rfl) (λj m=>υ.mp m▸⟨b,rfl⟩: ∀j∈[(l,[Slot.x key k])],Jp V 58 j.1 p j.2/\(j.2.length:Int)=eF (mU g) 58 2) (λs=>ff f rfl) rfl (λe=>nomatch e)<|no rfl
 | @sw p ls a b f=>
  have j1: ∀j∈ls.map (λl=>(l,([]:List Slot))),Jp V 69 j.1 p j.2/\(j.2.length:Int)=eF (mU g) 69 1:=λj m=>by
   obtain⟨l,ml,e⟩:=Ϗ.mp m
   rw[<-e];exact⟨b l ml,rfl⟩
  refine h.ik hx (ls.map λl=>(l,[])) (some []) none rfl rfl (by rw[Ϲ];exact(J9 ls).symm) (of_decide_eq_true rfl) (Λ rfl) ?_ (by rw[ς];exact a) j1 (λs=>ff f rfl) rfl (λ_ e=>Ϝ e.symm) (no rfl)
  have e:EH V 69 (ls.map λl=>(l,[]))=(ls.map V.at_).map λz=>(z,[],69):=by
   unfold EH
   rw[Ϲ,Ϲ];rfl
  show Step (Ih V g) i 69 (.ts<|ls.map V.at_) [.v 7] (EH V 69 (ls.map λl=>(l,[]))++_) none
  rw[e]
  exact .sw
noncomputable def YB:List Slot->Bool
 |[.b]=>true
 |_=>false
theorem Ti.b(h:Ti g V i p x.op x.n s)(e:s=[.b]):x.op=65041/\x.n= .i 0/\∃(P:Pa)(r:Int),p=P++[(r,2)]:=by
 have gen: ∀{op:Int}{od:Od},Ti g V i p op od s->YB s=true->op=65041/\od= .i 0/\∃(P:Pa)(r:Int),p=P++[(r,2)]:=λh=>by
  induction h with
  |gQ a _=>induction a with|_=>exact ff
  |en a=>
   induction a with
   |ret=>induction g<;>exact ff
   |lO t=>exact λe=>by rcases t with q|q|⟨k,q⟩<;>rw[q] at e<;>exact ff e
   |Ao=>exact λ_=>⟨rfl,rfl,_,_,rfl⟩
   |_=>exact ff
  |br a _=>exact λe=>by rcases a with q|q<;>rw[q] at e<;>exact ff e
  |_=>exact ff
 exact gen h<|congrArg YB e
end
noncomputable def vg(V:St):List Nat:=0::V.clauses.flatMap λc=>(vG 0 c).map Ϣ
section
variable{g:Bool}{w:List (Option Row)}{n:Nat}{y:Int×Int}{V:St}{i q k p p2 lid:Nat}{x x':d_}{c d:Cl}{P:Pa}{r r' v op kind:Int}{s:List Slot}{ks:List Nat}
theorem Cg{a b:Nat}:(vG a c).map Ϣ=(vG b c).map Ϣ:=by
 unfold vG
 split<;>rfl
theorem nH:q∈vg V↔q=0∨∃(p:Nat)(c:Cl),V.clauses[p]? =some c/\q∈(vG p c).map Ϣ:=by
 unfold vg
 rw[Θ,m8]
 refine or_congr_right ⟨λ⟨c,m,e⟩=>?_,λ⟨p,c,e,m⟩=>⟨c,Υ e,Cg▸m⟩⟩
 refine(bI m).elim λp hp=>?_
 exact⟨p,c,hp,Cg▸e⟩
theorem Tk.first(h:Tk V r v lid p p2): ∃x:d_,V.code[p]? =some x/\x.st=[.x r.toNat v]:=by
 induction h with
 |pop _ i _=>exact i.casesOn λh=>⟨_,h,rfl⟩
 |st _ _ i _=>exact i.casesOn λh=>⟨_,h,rfl⟩
 |un _ _ i _ _=>exact i.casesOn λh=>⟨_,h,rfl⟩
theorem Fi.first(h:Fi V r kind lid k p): ∃x:d_,V.code[p]? =some x/\x.st=[.x r.toNat 12]:=by
 induction h with
 |all _ t _=>exact t.first
 |ask _ i _ _ _ _ _ _ _ _ _=>exact i.casesOn λh=>⟨_,h,rfl⟩
theorem tP.dep(h:tP V i s):(s.length:Int)=nh V i:=by
 induction h with
 |eq a=>rw[d7 a,ς]
 |cb a b=>rw[d7 a,b];rfl
theorem Fy.Px(h:Fy g w n y V)(kr:Kr V r k)(h0:0<=r)(e: ∃x:d_,V.code[p]? =some x/\x.st=[.x r.toNat v]):tP V p [.x k v]:=by
 refine e.elim λx q_=>q_.elim λe1 e2=>?_
 have:=tP.eq e1
 rw[e2] at this
 rw[<-h.GW kr h0];exact this
inductive Cb(V:St)(p:Nat)(c:Cl):Prop
 |mk (h: ∃q:Nat,c.h0=q/\tP V q (lD p c)/\nh V q=c.dep) (x:c.sort=1->∃q:Nat,c.ex=q/\tP V q [.x (p+1000) 12]/\nh V q=1)
theorem Fy.cb(h:Fy g w n y V)(hc:V.clauses[p]? =some c):Cb V p c:=by
 have ck:=h.ck hc
 have rh:0<=c.rh:=by have:=ck.5;omega
 have kr:Kr V c.rh p:=.h hc rfl
 have al0: ∀{z:List Slot},Fj V c.h0 []->lD p c=[]->c.dep=0->∃q:Nat,c.h0=q/\tP V q (lD p c)/\nh V q=c.dep:=λa e d=>by
  obtain⟨e1,e2,e3⟩:=a
  have:=tP.eq e2
  rw[e3] at this
  exact⟨_,e1,e▸this,by rw[d,d7 e2,e3];rfl⟩
 have Px: ∀{q:Nat}{v:Int},c.h0=q->(∃x:d_,V.code[q]? =some x/\x.st=[.x c.rh.toNat v])->lD p c=[.x p v]->c.dep=1->∃q:Nat,c.h0=q/\tP V q (lD p c)/\nh V q=c.dep:=λe f e2 d=>by
  have a:=h.Px kr rh f
  exact⟨_,e,e2▸a,by rw[d,<-a.dep];rfl⟩
 have sh:=ck.4
 have gen: ∀{k:Nat},Sh V c k->Cb V p c:=λsh=>by
  induction sh with
  |fin _ s _ a=>exact⟨al0 (z:=[]) a (by unfold lD;rw[s,if_pos (by decide)]) (by unfold Cl.dep;rw[s];rfl),λe=>by rw[e] at s;exact nomatch s⟩
  |tL _ _ s _ a=>exact⟨al0 (z:=[]) a (by unfold lD;rw[s,if_pos (by decide)]) (by unfold Cl.dep;rw[s];rfl),λe=>by rw[e] at s;exact nomatch s⟩
  |NK _ _ _ s ex hq t=>exact⟨Px hq t.first (by unfold lD;rw[s,if_neg (by decide),if_pos rfl,ex]) (by unfold Cl.dep;rw[s];rfl),λe=>by rw[e] at s;exact nomatch s⟩
  |Au _ _ _ s hq i _ ef _ f=>
   refine⟨Px hq (i.casesOn λh=>⟨_,h,rfl⟩) (by unfold lD;rw[s,if_neg (by decide),if_neg (by decide)]) (by unfold Cl.dep;rw[s];rfl),λe=>?_⟩
   have a:=h.Px (.f hc s rfl rfl) (by have:=ck.5.2.2 s;have:=ck.5;omega) f.first
   exact⟨_,ef,a,a.dep.symm⟩
 exact gen sh
theorem AL{j:Int}: ∀(cls:List Cl)(pos:Nat),(partsFrom pos j cls).length<=3*cls.length:=λcls=>by
 induction cls with
 |nil=>exact λ_=>ϋ _
 |cons c cls ih=>
  intro pos
  have one: ∀(b:Prop)[Decidable b](x:Nat×Nat),(if b then [x] else []).length<=1:=λb _ x=>by split;exact ώ _;exact ϋ _
  have:=ih<|pos+1
  have h1:(bB pos c j).length<=3:=by
   unfold bB
   rw[θ,θ]
   exact cL (cL (one _ _)<|one _ _)<|one _ _
  rw[partsFrom,θ,Bk]
  omega
theorem DC{pos:Nat}{j:Int}{z:Nat×Nat}(h:z∈bB pos c j):z.1=pos:=by
 have one: ∀{b:Prop}[Decidable b]{t:Nat×Nat},z∈(if b then [t] else [])->z=t:=λ{b} _ {t} m=>by
  split at m
  ·exact υ.mp m
  ·exact ay m
 unfold bB at h
 rcases Ζ.mp h with h|h
 ·refine cK (Ζ.mp h) (λh=>?_) λh=>?_
  ·exact congrArg Ϣ<|one h
  ·exact congrArg Ϣ<|one h
 ·exact congrArg Ϣ<|one h
theorem JQ{od:Od}(h:V.sc[i]? =some (op,od)): ∃x,V.code[i]? =some x/\x.op=op/\V.qy x=od:=by
 unfold St.sc at h
 rw[ϒ] at h
 induction e:V.code[i]? with
 |none=>rw[e] at h;exact Ϝ h
 |some x=>rw[e] at h;exact⟨x,rfl,congrArg Ϣ<|ξ h,congrArg vW<|ξ h⟩
theorem DW(h:V.code[i]? =some x):V.sc[i]? =some (x.op,V.qy x):=by
 unfold St.sc
 rw[ϒ,h];rfl
end
inductive OS(g:Bool)(w:List (Option Row))(n:Nat)(V:St):Prop
 |mk (n:n<=200000) (c:V.clauses.length<=400)
section
variable{g:Bool}{w:List (Option Row)}{n:Nat}{y:Int×Int}{V:St}{i q k p p2 lid:Nat}{x x':d_}{c d:Cl}{P:Pa}{r r' v op kind:Int}{s:List Slot}{ks:List Nat}
theorem Fy.DP(h:Fy g w n y V)(m:q∈vg V):q<V.code.length/\(q=0∨∃cl∈V.clauses,(q:Int)=cl.h0∨(cl.sort=1/\(q:Int)=cl.ex)):=by
 rcases nH.mp m with e|⟨p,c,e,m⟩
 ·exact⟨e▸h.4,.inl e⟩
 ·obtain⟨⟨q1,a1,a2,_⟩,b⟩:=h.cb e
  have lt {q:Nat} {s:List Slot} (a:tP V q s):q<V.code.length:=by
   induction a with
   |eq a=>exact aM a
   |cb a _=>exact aM a
  unfold vG at m
  rw[aU] at m
  rcases Θ.mp m with e'|m
  ·have e':q=c.h0.toNat:=e'
   rw[a1,ϡ] at e'
   exact⟨e'▸lt a2,.inr ⟨c,Υ e,.inl (by rw[a1,e'])⟩⟩
  ·split at m
   ·next s=>
    refine(b s).elim λq2 q_=>q_.elim λb1 q_=>q_.elim λb2 _=>?_
    have e':q=c.ex.toNat:=υ.mp m
    rw[b1,ϡ] at e'
    exact⟨e'▸lt b2,.inr ⟨c,Υ e,.inr ⟨s,by rw[b1,e']⟩⟩⟩
   ·exact ay m
theorem Fy.Hu(hc:V.clauses[p]? =some c)(e:c.h0=(q:Int)):q∈vg V:=nH.mpr (.inr ⟨p,c,hc,by
 unfold vG
 rw[e,ϡ];exact .head _⟩)
theorem Fy.MU(hc:V.clauses[p]? =some c)(s:c.sort=1)(e:c.ex=(q:Int)):q∈vg V:=nH.mpr (.inr ⟨p,c,hc,by
 unfold vG
 rw[if_pos s,e,ϡ];exact .tail _ (.head _)⟩)
theorem Fy.ww(h:Fy g w n y V)(b:OS g w n V){W:St}(ec:W.clauses=V.clauses)(el:W.locals=V.locals):WW (Ih V g) W (vg V) (mU g) (nh V) (tP V) (FG V):=by
 have hl:V.clauses.length<=1000:=η b.2 (by decide)
 have ls:V.sc.length=V.code.length:=ς _
 have ik: ∀{i:Nat}{o:Int×Od},V.sc[i]? =some o->∃x,V.code[i]? =some x/\o=(x.op,V.qy x)/\Ik V g i x:=λ{i o} e=>by
  refine(JQ e).elim λx q_=>q_.elim λe1 q_=>q_.elim λe2 e3=>?_
  exact⟨x,e1,by rw[e2,e3],h.ins hl e1⟩
 refine⟨ec.symm,el.symm,by show 0<V.sc.length;rw[ls];exact h.4,by show V.sc.length<=_;rw[ls];exact η h.1.5.1 b.1,b.2,λi z m=>?_,λi=>η (AL _ _)<|η (kD 3 b.2) (by decide),λi s s' a a'=>?_,λi s a=>⟨?_,a.dep⟩,λo m=>?_,λi o s e rc a=>?_,⟨.head _,?_⟩,λp c e=>?_,λq m=>⟨by show q<V.sc.length;rw[ls];exact(h.DP m).1,nH.mp m⟩⟩
 ·refine((uW _ _).mp m).elim λq q_=>q_.elim λc q_=>q_.elim λe m=>?_
  rw[DC m,aP];exact aM e
 ·induction a with
  | @eq x e=>
   revert a'
   generalize hs:x.st.map (mp V)=z
   intro a'
   induction a' with
   |eq e'=>cases e.symm.trans e';rw[<-hs];exact .eq
   |cb e' q=>cases e.symm.trans e';rw[<-hs,q];exact .bc trivial trivial
  | @cb x e q=>
   induction a' with
   |eq e'=>cases e.symm.trans e';rw[q];exact .bc trivial trivial
   |cb _ _=>exact .eq
 ·induction a with
  |eq e=>rw[ς];exact η (h.ins hl e).6 (by decide)
  |cb _ _=>exact Λ rfl
 ·refine(bI m).elim λi e=>?_
  obtain⟨x,e1,rfl,k⟩:=ik e
  have ln:=k.4
  unfold St.qy
  revert ln
  induction x.n with
  |ts l=>intro ln;show(l.map V.at_).length<=100;rw[ς];exact η ln (by decide)
  |i v=>intro _;dsimp only;split<;>exact ϋ _
 ·obtain⟨x,e1,rfl,k⟩:=ik e
  induction a with
  |eq e'=>cases e1.symm.trans e';exact k.7
  |cb e' q=>
   cases e1.symm.trans e'
   refine((h.1.2.1 i x e1).b q).elim λo1 q_=>q_.elim λo2 q_=>q_.elim λP q_=>q_.elim λr o3=>?_
   refine(h.zF e1 o3).elim λp q_=>q_.elim λrest ep=>?_
   have so:V.qy x= .i 0:=by unfold St.qy;rw[o2,o1];rfl
   have su: ∀z:Nat,(z:Int)∈cV V.sc i (65041,.i 0)->False:=λz m=>by
    rw[fP] at m
    refine cK (m) (λm=>?_) λm=>?_
    ·exact ff m.1.symm
    ·exact ay m
   rw[o1,so]
   exact .mk [] none (.Ao (.inr<|.inl rfl) ep) (ϋ _) (λz m=>ay m) (λz m=>(su z m).elim) (.inl (by rw[d7 e1,q];exact of_decide_eq_true rfl)) λkey ⟨a,b,_,_⟩=>by
    cases e1.symm.trans a
    rw[o1] at b
    exact absurd b (by decide)
 ·refine h.5.elim λx q_=>q_.elim λe1 e2=>?_
  have:=tP.eq e1
  rw[e2] at this;exact this
 ·obtain⟨⟨q1,a1,a2,_⟩,bb⟩:=h.cb e
  refine⟨⟨by rw[a1];rfl,λs=>by obtain⟨q2,b1,_⟩:=bb s;rw[b1];rfl⟩,λz m=>?_⟩
  unfold vG at m
  refine cK (Θ.mp m) (λe'=>?_) λm=>?_
  ·rw[e',a1]
   exact⟨Fy.Hu e a1,a2⟩
  ·split at m
   ·next s=>
    refine(bb s).elim λq2 q_=>q_.elim λb1 q_=>q_.elim λb2 _=>?_
    rw[υ.mp m,b1]
    exact⟨Fy.MU e s b1,b2⟩
   ·exact ay m
theorem Fy.dk(h:Fy g w n y V)(b:OS g w n V):Oc V.sc V.clauses (vg V) (nh V) (mU g):=by
 have hl:V.clauses.length<=1000:=η b.2 (by decide)
 have ls:V.sc.length=V.code.length:=ς _
 have ik: ∀{i:Nat}{o:Int×Od},V.sc[i]? =some o->∃x,V.code[i]? =some x/\o=(x.op,V.qy x)/\Ik V g i x:=λ{i o} e=>by
  refine(JQ e).elim λx q_=>q_.elim λe1 q_=>q_.elim λe2 e3=>?_
  exact⟨x,e1,by rw[e2,e3],h.ins hl e1⟩
 have cm: ∀{c:Cl},c∈V.clauses->∃p:Nat,V.clauses[p]? =some c:=bI
 refine⟨by rw[ls];exact h.4,by rw[ls];exact Τ (η h.1.5.1 b.1) (by decide),λo m=>?_,λi=>?_,λc m=>?_,⟨?_,.head _⟩,λc m=>?_,λq m=>by rw[ls];exact h.DP m,λi o e rc=>?_⟩
 ·obtain⟨i,e⟩:=bI m
  obtain⟨x,e1,rfl,k⟩:=ik e
  refine⟨⟨k.1,?_⟩,λz m=>?_,?_⟩
  ·have od:=k.2
   unfold St.qy
   revert od
   induction x.n with
   |ts l=>exact λo=>o
   |i v=>intro o;dsimp only;split<;>exact o
  ·have m:=m
   rw[s6] at m
   refine(Ϗ.mp m).elim λl q_=>q_.elim λml e=>?_
   refine(k.3 l ml).elim λq q_=>q_.elim λe2 e3=>?_
   rw[<-e,ls]
   unfold St.at_
   rw[e2]
   exact⟨Ϧ _,iQ.mpr e3⟩
  ·show(tgt x.op<|V.qy x).length<=100
   rw[s6,ς]
   exact η k.4 (by decide)
 ·unfold nh
  split
  ·exact Ϧ _
  ·exact ϛ _
 ·obtain⟨p,e⟩:=cm m
  have ck:=h.ck e
  obtain⟨t0,a1,a2⟩:=ck.1.1
  obtain⟨t1,b1,b2⟩:=ck.1.2
  obtain⟨h0,c1,c2⟩:=ck.2.1
  obtain⟨h1,d1,d2⟩:=ck.2.2
  unfold vM
  rw[ls]
  refine⟨by omega,by omega,λs=>?_,λz m=>?_⟩
  ·obtain⟨q,e1,e2⟩:=(ck.3 s).1
   omega
  ·unfold Cl.oB at m
   rcases Θ.mp m with e|m
   ·omega
   ·rcases Θ.mp m with e|m
    ·omega
    ·rcases Θ.mp m with e|m
     ·omega
     ·rcases Θ.mp m with e|m
      ·omega
      ·split at m
       ·next s=>
        obtain⟨q,e1,e2⟩:=(ck.3 s).1
        have:=υ.mp m
        omega
       ·exact ay m
 ·refine h.5.elim λx q_=>q_.elim λe1 e2=>?_
  rw[d7 e1,e2];rfl
 ·obtain⟨p,e⟩:=cm m
  obtain⟨⟨q1,a1,a2,a3⟩,bb⟩:=h.cb e
  exact⟨⟨q1,a1,Fy.Hu e a1,a3⟩,λs=>(bb s).imp λq2 q=>⟨q.1,Fy.MU e s q.1,q.2.2⟩⟩
 ·obtain⟨x,e1,rfl,k⟩:=ik e
  rw[d7 e1]
  refine⟨k.5,λz m=>?_⟩
  obtain⟨ws,t,a1,a2,a3,a4,a5,a6⟩:=k.7
  obtain⟨wy,mw,ew⟩:=a4 z m
  obtain⟨z',b1,b2,b3,b4,b5⟩:=a3 wy mw
  have:z'=z:=by omega
  subst this
  rw[<-b4.dep,<-d7 e1];exact b5
theorem Fy.io(h:Fy g w n y V)(b:OS g w n V){W:St}(ec:W.code=V.code)(el:W.ϙ=V.ϙ): ∀x∈W.code,yk W x:=λx m=>by
 rw[ec] at m
 refine(bI m).elim λi e=>?_
 have k:=h.ins (η b.2 (by decide)) e
 exact⟨k.1,k.2,λl m=>(k.3 l m).imp' (λq:Nat=>q) λq h=>el▸h.1,η k.4 (by decide)⟩
variable{wv f:Nat}
theorem gU(h:Ic V p op v s)(e:k9 op=false):V.sc[p]? =some (op,.i v):=h.casesOn λh=>(DW h).trans<|congrArg (λz=>some (op,z))<|if_neg (by rw[e];exact ϟ)
theorem DV(h:Ic V p op v s)(e:k9 op=true)(l:lk v V.ϙ=some (q:Int)):V.sc[p]? =some (op,.i q):=h.casesOn λh=>(DW h).trans<|congrArg (λz=>some (op,z))<|(if_pos e).trans (by unfold St.at_;rw[l];rfl)
theorem Fy.Vj(h:Fy g w n y V):bX V.ϳ 0= -1:=by
 unfold bX
 cases e:lk 0 V.ϳ with
 |none=>rfl
 |some x=>obtain⟨n,l,_,a,b,_⟩:=h.1.3.1 _ _ e;omega
theorem v_{l:Int}(e:lk l V.ϳ=some v):bX V.ϳ l=v:=by unfold bX;rw[e];rfl
inductive Ta(V:St)(r:Int)(lid p p2:Nat):Prop
 |mk (t:Taken V.sc (bX V.ϳ lid) p p2) (k:lk r V.nt=some (bX V.ϳ lid)) (a:lid=0∨0<=bX V.ϳ lid)
theorem Fy.ta(h:Fy g w n y V)(t:Tk V r v lid p p2):Ta V r lid p p2:=by
 induction t with
 |pop e i m=>
  have a:bX V.ϳ lid= -1:=by rw[e];exact h.Vj
  exact⟨.pop a<|gU i rfl,by rw[a];exact m,.inl e⟩
 |st e l i m=>
  have a:=v_ l
  exact⟨.st (by rw[a];exact gU i rfl),by rw[a];exact m,.inr (by rw[a];exact Ϧ _)⟩
 |un e l i j m=>
  have a:=v_ l
  exact⟨.Ez (gU i rfl) (by rw[a];exact gU j rfl),by rw[a];exact m,.inr (by rw[a];exact Ϧ _)⟩
theorem sU(h:eS V.sc (vg V) p)(i:Ic V p op v s)(e:bK op=false)(l:p+1<V.code.length):eS V.sc (vg V) (p+1):=
 i.casesOn λq=>.step h (DW q)<|fP.mpr<|.inl ⟨e,by rw[show V.sc.length=V.code.length from ς _];exact l,rfl⟩
theorem Fy.tn(h:Fy g w n y V)(t:Tk V r v lid p p2)(kr:Kr V r k)(h0:0<=r)(a:eS V.sc (vg V) p): ∃i,eS V.sc (vg V) i/\FG V i k:=by
 have nt: ∀{p:Nat}{op x:Int}{t:Slot},Ic V p op x [t]->(op=38∨op=65038)->dJ (mp V t)=some (GV V r.toNat)->FG V p k:=λi o e=>i.casesOn λq=>.mk q o rfl (by rw[e,h.GW kr h0])
 induction t with
 |pop _ i _=>exact⟨p,a,nt i (.inl rfl) rfl⟩
 |st _ _ i _=>exact⟨p,a,nt i (.inr rfl) rfl⟩
 |un _ _ i j _=>exact⟨p+1,sU a i rfl j.lt,nt j (.inr rfl) rfl⟩
theorem Fy.fn(h:Fy g w n y V)(t:Fi V r kind lid wv f)(kr:Kr V r k)(h0:0<=r)(a:eS V.sc (vg V) f): ∃i,eS V.sc (vg V) i/\FG V i k:=by
 induction t with
 |all _ t _=>exact h.tn t kr h0 a
 |ask _ i0 i1 i2 _ _ _ ly _ t _=>
  exact h.tn t kr h0<|.step (sU (sU a i0 rfl i1.lt) i1 rfl i2.lt) (DV i2 rfl ly)<|fP.mpr<|.inr<|.head _
theorem Tl.tail(t:Tl V wv p):Tail V.sc (if wv=12 then 65033 else 65036) (if wv=12 then 0 else bX V.ϳ 2) p:=by
 refine⟨?_,?_,gU t.2 rfl,⟨_,gU t.3 rfl⟩,⟨_,gU t.4 rfl⟩⟩
 ·split
  ·exact .inr rfl
  ·exact .inl rfl
 ·rcases t.1 with⟨e,i⟩|⟨x,e,l,i⟩
  ·rw[if_pos e,if_pos e];exact gU i rfl
  ·rw[if_neg (by omega),if_neg (by omega),v_ l];exact gU i rfl
theorem Fy.Au(h:Fy g w n y V)(t:Fi V r kind lid wv f):Oe V.sc kind (bX V.ϳ lid) (if wv=12 then 65033 else 65036) (if wv=12 then 0 else bX V.ϳ 2) f/\lk r V.nt=some (bX V.ϳ lid):=by
 induction t with
 |all e t l=>exact⟨.all e (h.ta t).1 l.tail,(h.ta t).2⟩
 |ask e i0 i1 i2 i3 i4 i5 ly ln t l=>exact⟨.ask e (gU i0 rfl) (gU i1 rfl) (DV i2 rfl ly) (gU i3 rfl) (gU i4 rfl) (DV i5 rfl ln) (h.ta t).1 l.tail,(h.ta t).2⟩
theorem Fi.jH(h:Fy g w n y V)(t:Fi V r kind lid wv f):lid=0∨0<=bX V.ϳ lid:=by
 induction t with
 |all _ t _=>exact(h.ta t).3
 |ask _ _ _ _ _ _ _ _ _ t _=>exact(h.ta t).3
theorem YJ{k:Int}(h:k= -1∨(16<=k/\k<20)):k≠ -2:=by omega
theorem Fy.P7(h:Fy g w n y V)(b:OS g w n V)(hks: ∀i key,eS V.sc (vg V) i->FG V i key->key∈ks)(hc:V.clauses[p]? =some c):tQ (Ih V g) ks V.ϳ p c c.row:=by
 have ck:=h.ck hc
 have hl:V.clauses.length<=1000:=η b.2 (by decide)
 have kr:Kr V c.rh p:=.h hc rfl
 have rh:0<=c.rh:=by have:=ck.5;omega
 have gen: ∀{k:Nat},Sh V c k->tQ (Ih V g) ks V.ϳ p c c.row:=λsh=>by
  induction sh with
  |fin e s x _=>rw[e];exact .YK s x
  |tL e k s x _=>rw[e];exact .tL k s x
  | @NK r p' q e ro hw s ex hq t=>
   rw[e]
   have ta:=h.ta t
   obtain⟨i,a,nt⟩:=h.tn t kr rh<|.root<|Fy.Hu hc hq
   exact .YO (YJ ro.1) ta.3 (hks i _ a nt) hw s ex<|h.GX hl kr ta.2
  | @Au r wv q f e ro hw s hq i nk ex _ t=>
   rw[e]
   have kf:Kr V (c.rh-1) (p+1000):=.f hc s rfl rfl
   have r0:0<=c.rh-1:=by have:=ck.5.2.2 s;have:=ck.5;omega
   have nt0:FG V q p:=i.casesOn λz=>.mk z (.inl rfl) rfl<|congrArg some<|h.GW kr rh
   obtain⟨j,a,nt⟩:=h.fn t kf r0<|.root<|Fy.MU hc s ex
   exact .Au (YJ ro.1) (t.jH h) (hks q _ (.root<|Fy.Hu hc hq) nt0) hw s (h.GX hl kr nk) (hks j _ a nt) (h.GX hl kf (h.Au t).2) ex (h.Au t).1
 exact gen ck.4
theorem Fz.law{t:Tr}{z u:Int}{m:Nat}(f:Fz g t.want n (z,u) (oF g t))(ws:Ws g (.s false false) [] 0 z 63 m t)(hn:n<=200000)(hc:t.want.length<=400):(oF g t).ok/\∃kp roots dep Al nt,qC g t (oF g t) kp roots dep Al nt t.want:=by
 generalize hW:oF g t=W at f
 have h:Fy g t.want n (z,u) W.sN:=⟨f.1,rfl,f.2,f.3,f.4⟩
 have el:W.clauses.length=t.want.length:=by rw[<-f.1.4.5];exact(ς _).symm
 have b:OS g t.want n W.sN:=⟨hn,by show W.clauses.length<=400;rw[el];exact hc⟩
 refine⟨f.1.5.7<|η hn (by decide),UQ W.sN,vg W.sN,nh W.sN,tP W.sN,FG W.sN,⟨⟨z,m,ws⟩,hW.symm,h.io b rfl rfl,h.ww b rfl rfl,h.dk b,rfl,el.symm,λks hks p cl row hcl hr=>?_⟩⟩
 have e:row=cl.row:=by
  rw[<-f.1.4.5,ϒ,show W.sN.clauses[p]? =some cl from hcl] at hr
  exact(ξ hr).symm
 rw[e]
 exact h.P7 b hks hcl
end
section
variable{g b1 b2:Bool}{S scope:List Int}{a z:Int}{d e n m:Nat}{t:Tr}{sb:Sub}
theorem Ws.up{md:Md}(w:Ws g md S a z d n t):md.on (∀{e m:Nat},d<=e->n<=m->Ws g md S a z e m t) True True:=by
 induction w with
 |leaf h h1 h2=>exact λl1 l2=>.leaf h (η h1 l1)<|η h2 l2
 |qL h h1 h2 _=>exact λl1 l2=>.qL h (η h1 l1)<|η h2 l2
 |qz h h' h1 h2 _ _=>exact λl1 l2=>.qz h h' (η h1 l1)<|η h2 l2
 |iD h h' h'' h1 h2 _ _ _=>exact λl1 l2=>.iD h h' h'' (η h1 l1)<|η h2 l2
 |_=>trivial
theorem Ov{a b n m:Nat}(h:a*40<=n)(h2:b*40<=m):(a+b)*40<=n+m:=Nat.add_mul .. ▸cL h h2
theorem F_{a b n:Nat}(h:(a+b)*40<=n):a*40<=n:=η (Nat.mul_le_mul_right 40<|Ρ a b) h
theorem Vz{a b c n m:Nat}(h:(a+0)*40<=n)(h2:(b+c)*40<=m):(a+b+c)*40<=n+m:=aZ a b c▸Ov h h2
theorem Ws.cnt{md:Md}(w:Ws g md S a z d n t):(t.want.length+t.rows.length)*40<=n:=by
 induction w with
 |leaf h _ _=>induction h with|_=>exact ϋ _
 |nil=>exact ώ _
 |sV=>exact ώ _
 | @cons b1 b2 S a y z d n m t ts _ _ h1 h2=>
  show(t.want++ts.want).length*40<=_
  rw[θ]
  exact Ov (F_ h1)<|F_ h2
 |dw _ _ h=>exact η (F_ h)<|ϣ _ _
 |qL _ _ hm h=>exact η (F_ h) hm
 | @row b1 S a y z d n m k l w b r _ _ _ h1 h2=>
  show((b.want++r.want).length+r.rows.length+1)*40<=_
  rw[θ]
  exact Ov (Vz (F_ h1) h2)<|ώ 40
 | @tL b1 S a z d n b _ h=>
  show((b.want++[]).length+1)*40<=_
  rw[Ν]
  exact Ov (F_ h)<|ώ 40
 | @qz b1 b2 S a y z d n m e k b rows _ _ _ hk h1 h2=>
  show(b.want++rows.want++rows.rows).length*40<=_
  rw[θ,θ]
  exact η (Vz (F_ h1) h2)<|η (Ρ _ 20) hk
 | @iD b1 b2 S a x y z d n m p e k b rows last _ _ _ _ hk h1 h2 h3=>
  show(b.want++rows.want++rows.rows++last.want++[none]).length*40<=_
  rw[θ,θ,θ,θ]
  exact η (Ov (Ov (Vz (F_ h1) h2)<|F_ h3)<|ώ 40) hk
theorem pB{l:List Int}{i:Int}(h:l≠[]):pick l i∈l:=by
 unfold pick
 refine(d8 i l.length<|jS.mpr h).elim λk q_=>q_.elim λe hk=>?_
 rw[e,ϡ,bh,ϊ hk]
 exact g4 hk
abbrev bq(bars:Int×Int):Bool×Bool:=(decide<|bars.1≠0,decide<|bars.2≠0)
theorem yZ(k t:Int)(scope:List Int)(bars:Int×Int):Lf g (bq bars).1 (bq bars).2 scope (qJ g k t scope bars):=by
 unfold qJ
 split
 ·next h=>exact .go<|pB h.2
 split
 ·next h=>exact .w9 (by split;exact .inl rfl;exact .inr rfl)<|pB h.2
 split
 ·next h=>
  refine .tab (by rw[ς,ϲ];omega) λl m=>?_
  refine(Ϗ.mp m).elim λj q_=>q_.elim λ_ e=>?_
  exact e▸pB h.2
 split
 ·next h=>exact .ret<|decide_eq_false λq=>q h.2
 split
 ·next h=>exact .OP<|decide_eq_true h.2.1
 split
 ·obtain⟨j,e,hj⟩:=d8 t 3 (by decide)
  have e:t%3=j:=e
  rw[e,ϡ]
  refine .lO ?_
  match j,hj with
  |0,_=>exact .inl rfl
  |1,_=>exact .inr<|.inl rfl
  |2,_=>exact .inr<|.inr rfl
 split
 ·exact .Dy
 ·exact .eff
abbrev vY(g:Bool)(sb:Sub)(d n:Nat):Prop:=∀(scope:List Int)(bars:Int×Int) b,Ws g (.s (bq bars).1 (bq bars).2) scope b.dw (sb scope bars b).2.dw d n (sb scope bars b).1
abbrev U9(l:Nat):Prop:=((if l=7 then(-1) else kd l)= -1∨(16<=(if l=7 then(-1) else kd l)/\(if l=7 then(-1) else kd l)<20))/\kd l=nE (if l=7 then(-1) else kd l)/\7<=l/\l<12
theorem Ss(v:Int):RowW (if [7,8,9,10,11].getD (v%5).toNat 0=7 then -1 else kd ([7,8,9,10,11].getD (v%5).toNat 0)) (if v/5%2=0 then 0 else [7,8,9,10,11].getD (v%5).toNat 0) ([none,some 2,some 12].getD (v/10%3).toNat none):=by
 refine(d8 v 5 (by decide)).elim λj q_=>q_.elim λe hj=>?_
 obtain⟨k,e2,hk⟩:=d8 (v/10) 3 (by decide)
 have e:v%5=j:=e
 have e2:v/10%3=k:=e2
 rw[e,e2,ϡ,ϡ]
 have main: ∀j:Nat,j<5->(U9<|[7,8,9,10,11].getD j 0):=by decide+kernel
 have m3: ∀k:Nat,k<3->(([none,some 2,some 12]).getD k none=none∨([none,some 2,some 12]).getD k none=some 2∨([none,some 2,some 12]).getD k none=some 12):=by decide
 obtain⟨m1,m2,m4⟩:=main j hj
 refine⟨m1,?_,λw q=>(m3 k hk).elim (λh=>Ϝ<|h.symm.trans q) λh=>h.imp (λh=>ξ<|q.symm.trans h) λh=>ξ<|q.symm.trans h⟩
 split
 ·exact .inl rfl
 ·exact .inr ⟨η (by decide) m4.1,η (aV m4.2) (by decide),m2⟩
theorem Iq(hs:vY g sb d n)(bars:Int×Int): ∀(m:Nat)(b:BS),Ws g (.r (bq bars).1) scope b.dw (gM sb scope bars m b).2.dw d ((n+40)*m) (gM sb scope bars m b).1:=λm=>by
 induction m with
 |zero=>exact λb=>.sV
 |succ m ih=>
  intro b
  have:=Ws.row (Ss b.hd) (hs scope (bars.1,1) b.tl)<|ih (sb scope (bars.1,1) b.tl).2
  rw[show n+(n+40)*m+40=(n+40)*(m+1) by rw[Oj];omega] at this
  exact this
theorem NZ(hs:vY g sb d n)(k t:Int)(bars:Int×Int)(b:BS):Ws g (.s (bq bars).1 (bq bars).2) scope b.dw (rG sb k t scope bars b).2.dw (d+14) (4*n+120) (rG sb k t scope bars b).1:=by
 unfold rG
 dsimp only
 have hb:=hs scope bars b
 split
 ·exact .qz hb (.tL<|hs [] (1,0) _) (ώ _) (by omega)
 ·have hr: ∀b:BS,∃m,m<=2*n+80/\Ws g (.r (bq bars).1) scope b.dw (if k=9 then((.nil,b)) else gM sb scope bars (1+t%2).toNat b).2.dw d m (if k=9 then((.nil,b)) else gM sb scope bars (1+t%2).toNat b).1:=λb=>by
   split
   ·exact⟨0,ϋ _,.sV⟩
   ·refine⟨_,η (kD _<|show(1+t%2).toNat<=2 by omega) (by omega),Iq hs bars (1+t%2).toNat b⟩
  obtain⟨m,hm,hr⟩:=hr (sb scope bars b).2
  split
  ·exact .iD hb hr (hs [] (1,0) _) (ώ _) (by omega)
  ·exact .qz hb hr (ώ _) (by omega)
theorem zO{sub:Option Sub}(bars:Int×Int)(hs: ∀b:BS,Ws g (.s (bq bars).1 (bq bars).2) scope b.dw (gu g sub scope bars b).2.dw d n (gu g sub scope bars b).1): ∀(m:Nat)(b:BS),Ws g (.l (bq bars).1 (bq bars).2) scope b.dw (i8 g sub scope bars m b).2.dw d (n*m) (i8 g sub scope bars m b).1:=λm=>by
 induction m with
 |zero=>exact λb=>.nil
 |succ m ih=>
  intro b
  have:=Ws.cons (hs b)<|ih (gu g sub scope bars b).2
  rw[show n+n*m=n*(m+1) by rw[Oj,Oi]] at this
  exact this
theorem tC{sub:Option Sub}(h8:8<=d)(hs: ∀(scope:List Int)(bars:Int×Int)(b:BS),Ws g (.s (bq bars).1 (bq bars).2) scope b.dw (gu g sub scope bars b).2.dw d n (gu g sub scope bars b).1):vY g (qK g sub) (d+3) (3*n+1):=λscope bars b=>by
 have e1:n*(1+b.hd/2%3).toNat<=3*n:=by
  rw[Nat.mul_comm 3 n]
  exact kD _ (by omega)
 unfold qK
 split
 ·exact .qL (zO bars (hs scope bars) _ b.tl) (ώ _)<|ϔ e1
 ·exact .qL (.dw (zO bars (hs (scope++[b.dw]) bars) _ ⟨b.tl.rest,b.dw+1⟩) h8) (ώ _) (by omega)
theorem zP(h8:8<=d)(h16:16<=n)(hs:vY g sb d n)(scope:List Int)(bars:Int×Int)(b:BS):Ws g (.s (bq bars).1 (bq bars).2) scope b.dw (gu g (some sb) scope bars b).2.dw (d+14) (4*n+120) (gu g (some sb) scope bars b).1:=by
 unfold gu
 dsimp only
 split
 ·exact NZ hs _ _ bars b.tl
 split
 ·exact(hs scope bars b.tl).up (Ρ _ _) (by omega)
 ·exact .leaf (yZ _ _ scope bars) (by omega) (by omega)
theorem TY(g:Bool):vY g (bL g 2) 45 11749:=by
 exact tC (by decide)<|zP (by decide) (by decide) (tC (by decide) (zP (by decide) (by decide) (tC (n:=16) (ώ _) λscope bars b=>.leaf (yZ _ _ scope bars) (ώ _) (ώ _):vY g (bL g 0) 11 49)):vY g (bL g 1) 28 949)
theorem G6(Μ:List Int): ∃x0 rest,pad Μ=x0::rest/\rest.length<=100:=by
 have h2:(pad Μ).length=16:=by
  unfold pad
  rw[θ,m7]
  exact Nat.add_sub_of_le<|jT ..
 induction hp:pad Μ with
 |nil=>exact absurd ((congrArg au hp).symm.trans h2) (by decide)
 |cons x l=>exact⟨x,l,rfl,η (cC<|gJ<|(congrArg au hp).symm.trans h2) (by decide)⟩
theorem RQ(Μ:List Int): ∃H':Hp,H'.ok/\@Β uM Μ 71 true 99 [.Μ] ⟨True,[]⟩=some (.bool true,H'):=by
 refine(G6 Μ).elim λx0 q_=>q_.elim λrest q_=>q_.elim λhp hl=>?_
 have ws:=(TY (gI x0) [] (0,0) ⟨rest,0⟩).up (e:=63) (by decide)<|ώ _
 obtain⟨u,f⟩:=Ks ws
 have cn:=ws.cnt
 obtain⟨ok,kp,roots,dep,Al,nt,lo⟩:=f.law ws (by decide) (by omega)
 obtain⟨s1,s2⟩:=starts
 obtain⟨H',h1,h2⟩:=PW (n:=60) hp hl (by decide) s1 s2 rfl (by decide) lo
 exact⟨H',by rw[h1];exact ok,h2⟩
end
end J.Internal
namespace J.Internal
open PySem PySem.W PySem.Calls PyProof.Rows
noncomputable def txt(k:Nat):ak:=ϵ<|(Xx[k]?).getD ""
noncomputable abbrev c7:Nat:=91
noncomputable def Ze:List Nat:=[92,99,106,120,127,134,141,148,155,169,183,190,204,356,370,384,391,398,405,412,419,433,473,494,515,529,536,592,599,606,613,620,634,641,669,683,690,697,718,725,732,739,746,753,760,767,774,788,807,826,845,864,883,902,921,940,959,971,978,985,992,999,1006,1013,1020,1027,1034,1041,1048,1055,1062,1069,1076,1090,1102,1109,1116,1123,1130,1137,1144,1158,1173,1180,1187,1192,1199,1206,1213,1220,1227,1234,1241,1246,1251,1256,1263,1268,1275,1280,440]
noncomputable def Yj:List Nat:=[109,373,455,476,497,518,672,791,810,829,848,867,886,905,924,943,962,1093,1161]
noncomputable def Zh:List Nat:=[78,205,213]
noncomputable def ju(c:Nat):ό:=(Yj[c]?).getD 0
noncomputable def Gw(c:Nat):ό:=(Zh[c]?).getD 0
structure Ctx where
 w:cW
 s:Χ
 a:ό
 old: ∀b o,(HF w.params).get? b=some o->s.heap.get? b=some o
noncomputable abbrev gn(T:Bool)(its:Array χ)(n:Nat):e9:={cls:=.type<|bif T then "tuple" else "list",data:=.seq its n}
inductive ym(z:ό->Prop)(h:ao)(T:Bool)(l:List D)(R:List χ->Prop):χ->Prop
 |mk {a:ό} {its:Array χ} {n:Nat}:z a->h.get? a=some (gn T its n)->l.length<=big->R its.toList->ym z h T l R (.ref a)
inductive ET(R:χ->Prop)(S:List χ->Prop):List χ->Prop
 |mk {y:χ} {m:List χ}:R y->S m->ET R S (y::m)
noncomputable def DR(z:ό->Prop)(h:ao):D->χ->Prop:=
 @D.rec (λ_=>χ->Prop) (λ_=>List χ->Prop) (· = .none) (λb y=>y= .bool b) (λi y=>∃t,y= .int i t) (λk y=>k<c7/\∃t,y= .str (txt k) t) (ym z h true) (ym z h false) (· =[]) λ_ _=>ET
noncomputable def bg(z:ό->Prop)(h:ao):List D->List χ->Prop:=
 @D.rec_1 (λ_=>χ->Prop) (λ_=>List χ->Prop) (· = .none) (λb y=>y= .bool b) (λi y=>∃t,y= .int i t) (λk y=>k<c7/\∃t,y= .str (txt k) t) (ym z h true) (ym z h false) (· =[]) λ_ _=>ET
noncomputable def Ϸ{α β:Type}(R:α->β->Prop):List α->List β->Prop:=@vS α (λ_=>List β->Prop) (· =[]) λa _ ih m=>∃b m',m=b::m'/\R a b/\ih m'
structure Sg where
 r:List ό
 z:ό->Prop
 H:Hp
 s:Χ
 m:Bool
section
variable(C:Ctx)
inductive Uy(g:Sg)(i:Nat):χ->Prop
 |mk {a:ό}:g.r[i]? =some a->Uy g i (.ref a)
inductive U4(g:Sg)(c i:Nat):χ->Prop
 |mk {a d:ό}:c<19->g.r[i]? =some d->g.z a->g.s.heap.get? a=some (instObj (ju c) d)->U4 g c i (.ref a)
noncomputable def VR(g:Sg):V->χ->Prop:=@V.rec (λ_=>χ->Prop) (DR g.z g.s.heap) (Uy g) (U4 g) (λk y=>k<3/\y= .ref (Gw k)) (· = .ref C.a)
noncomputable abbrev J7(g:Sg)(x:Nat×V)(e:ϧ):Prop:=x.1<c7/\(∃t,e.key= .str (txt x.1) t)/\VR C g x.2 e.val
noncomputable abbrev UE(g:Sg)(x:List D×V)(e:ϧ):Prop:=(∃a,e.key= .ref a/\VR C g (.tup x.1) (.ref a))/\fG x.1=some e.hash/\VR C g x.2 e.val
inductive Iz(g:Sg)(a:ό)(P:List χ->Prop)(m:Nat):Prop
 |mk {its:Array χ} {n:Nat}:g.s.heap.get? a=some (gn false its n)->m<=big->P its.toList->Iz g a P m
inductive Us(g:Sg)(a:ό)(es:List (Int×V)):Prop
 |mk {kvs:List (Int×χ)}:g.s.heap.DictAt (intKind pw C.w) a kvs es.length->es.length<=big->Ϸ (λe x=>e.1=x.1/\VR C g e.2 x.2) es kvs->Us g a es
inductive U3(g:Sg)(a:ό)(es:List (Nat×V)):Prop
 |mk {kvs:List (ak×χ)}:g.s.heap.DictOf (strKind pw C.w) a kvs->es.length<=big->Ϸ (λe x=>(e.1<c7/\txt e.1=x.1)/\VR C g e.2 x.2) es kvs->U3 g a es
inductive Ut(g:Sg)(a:ό)(es:List (List D×V)):Prop
 |mk {o:e9} {ds:Array ϧ} {ep:Nat}:g.s.heap.get? a=some o->o.ExactDict->o.data= .dict ds ep->es.length<=big->Ϸ (UE C g) es ds.toList->Ut g a es
inductive Uq(g:Sg)(a:ό)(es:List (Nat×V)):Prop
 |mk {ds:List ϧ} {n:Nat}:g.s.heap.get? a=some (dictOf ds n)->Ϸ (J7 C g) es ds->Uq g a es
noncomputable def OR(g:Sg)(a:ό):PO->Prop:=
 @PO.rec (λ_=>Prop) (λl=>Iz g a (bg g.z g.s.heap l) l.length) (λl=>Iz g a (Ϸ (VR C g) l) l.length) (Us C g a) (U3 C g a) (Ut C g a) (Uq C g a) True
structure HR(g:Sg):Prop where
 len:g.r.length=g.H.c.length
 nd:g.r.Nodup
 ex: ∀a,g.z a∨a∈g.r->g.s.heap.get? a≠none
 old: ∀a o,C.s.heap.get? a=some o->g.z a/\g.s.heap.get? a=some o
 at_: ∀(i:Nat)(po:PO)(a:ό),g.H.c[i]? =some po->g.r[i]? =some a->OR C g a po/\(po= .dead∨¬g.z a)
end
noncomputable def V.bl(n:Nat):V->Prop:=@V.rec (λ_=>Prop) (λ_=>True) (λi=>i<n) (λ_ i=>i<n) (λ_=>True) True
noncomputable def PO.bl(n:Nat):PO->Prop:=@PO.rec (λ_=>Prop) (λ_=>True) (λl=>∀v∈l,v.bl n) (λes=>∀e∈es,e.2.bl n) (λes=>∀e∈es,e.2.bl n) (λes=>∀e∈es,e.2.bl n) (λes=>∀e∈es,e.2.bl n) True
def WF(n:Nat)(c:List PO):Prop:=∀i po,c[i]? =some po->i<n->po.bl n
def Hl(c c':List PO):Prop:=∀n,n<=c.length->WF n c->n<=c'.length/\WF n c'
structure Le(own:List ό)(g k:Sg):Prop where
 pre:g.r<+:k.r
 zz: ∀a,g.z a->k.z a
 im: ∀a,g.z a->k.s.heap.get? a=g.s.heap.get? a
 kp: ∀a o,g.s.heap.get? a=some o->a∉g.r->a∉own->k.s.heap.get? a=some o
 ex: ∀a,g.s.heap.get? a≠none->k.s.heap.get? a≠none
 fr: ∀a,a∈k.r->a∈g.r∨g.s.heap.get? a=none
 fz: ∀a,k.z a->g.z a∨a∈g.r∨g.s.heap.get? a=none
 sh:k.s={g.s with heap:=k.s.heap,toks:=k.s.toks}
 md:k.m=g.m
 hf:g.m=false->Hl g.H.c k.H.c
section
variable{C:Ctx}{z z':ό->Prop}{h h':ao}
theorem nR{x:D}{y:χ}{l:List D}{m:List χ}(a:DR z h x y)(b:bg z h l m):bg z h (x::l) (y::m):=.mk a b
section
variable(zz: ∀a,z a->z' a)(im: ∀a,z a->h'.get? a=h.get? a)
include zz im
theorem ym.mono{T:Bool}{l:List D}{R S:List χ->Prop}(rs: ∀m,R m->S m)(y:χ)(q:ym z h T l R y):ym z' h' T l S y:=by
 induction q with
 |mk a b c d=>exact .mk (zz _ a) ((im _ a).trans b) c<|rs _ d
theorem ET.mono{R R':χ->Prop}{S S':List χ->Prop}(r: ∀y,R y->R' y)(s: ∀m,S m->S' m)(y:List χ)(q:ET R S y):ET R' S' y:=by
 induction q with
 |mk a b=>exact .mk (r _ a)<|s _ b
theorem DR.mono(x:D): ∀y,DR z h x y->DR z' h' x y:=
 @D.rec (λx=>∀y,DR z h x y->DR z' h' x y) (λl=>∀m,bg z h l m->bg z' h' l m) (λ_ e=>e) (λ_ _ e=>e) (λ_ _ e=>e) (λ_ _ e=>e) (λ_=>ym.mono zz im) (λ_=>ym.mono zz im) (λ_ e=>e) (λ_ _=>ET.mono zz im) x
theorem bg.mono(x:List D): ∀y,bg z h x y->bg z' h' x y:=
 @vS D (λl=>∀m,bg z h l m->bg z' h' l m) (λ_ e=>e) (λx _=>ET.mono zz im<|DR.mono zz im x) x
end
theorem Ϸ.mono{α β:Type}{R S:α->β->Prop}(h: ∀a b,R a b->S a b)(l:List α): ∀m,Ϸ R l m->Ϸ S l m:=by
 induction l with
 |nil=>exact λ_ e=>e
 |cons a l ih=>exact λm q=>q.imp λb q=>q.imp λm' q=>⟨q.1,h _ _ q.2.1,ih _ q.2.2⟩
variable{g k:Sg}{own:List ό}
theorem nM{α:Type}{l m:List α}(h:l<+:m){i:Nat}{a:α}(e:l[i]? =some a):m[i]? =some a:=by
 refine h.elim λt e_1=>?_
 subst e_1
 rw[Ϥ (Δ.mp e).1];exact e
section
variable(pre:g.r<+:k.r)(zz: ∀a,g.z a->k.z a)(im: ∀a,g.z a->k.s.heap.get? a=g.s.heap.get? a)
include pre zz im
theorem VR.mono(v:V)(x:χ):VR C g v x->VR C k v x:=by
 induction v with
 |d d=>exact DR.mono zz im _ _
 |obj i=>
  intro h
  induction h with
  |mk h=>exact .mk<|nM pre h
 |ins c i=>
  intro h
  induction h with
  |mk a b c d=>exact .mk a (nM pre b) (zz _ c)<|(im _ c).trans d
 |gd i=>exact id
 |Μ=>exact id
theorem OR.mono{a:ό}(e:k.s.heap.get? a=g.s.heap.get? a)(po:PO):OR C g a po->OR C k a po:=by
 induction po with
 |list l=>
  intro h
  induction h with
  |mk x y q=>exact .mk (e.trans x) y<|bg.mono zz im _ _ q
 |vl l=>
  intro h
  induction h with
  |mk x y q=>exact .mk (e.trans x) y<|q.mono<|VR.mono pre zz im
 |di es=>
  intro h
  induction h with
  |mk x y q=>
   refine x.elim λo q_=>q_.elim λes q_=>q_.elim λx r=>?_
   exact .mk ⟨o,es,e.trans x,r⟩ y<|q.mono λ_ _ h=>⟨h.1,VR.mono pre zz im _ _ h.2⟩
 |ds es=>
  intro h
  induction h with
  |mk x y q=>
   refine x.elim λo q_=>q_.elim λes q_=>q_.elim λn q_=>q_.elim λx r=>?_
   exact .mk ⟨o,es,n,e.trans x,r⟩ y<|q.mono λ_ _ h=>⟨h.1,VR.mono pre zz im _ _ h.2⟩
 |dt es=>
  intro h
  induction h with
  |mk x r s y q=>exact .mk (e.trans x) r s y<|q.mono λ_ _ h=>⟨h.1.imp λ_ b=>⟨b.1,VR.mono pre zz im _ _ b.2⟩,h.2.1,VR.mono pre zz im _ _ h.2.2⟩
 |«at» es=>
  intro h
  induction h with
  |mk x q=>exact .mk (e.trans x)<|q.mono λ_ _ h=>⟨h.1,h.2.1,VR.mono pre zz im _ _ h.2.2⟩
 |dead=>exact id
end
theorem Le.v(L:Le own g k)(v:V)(x:χ):VR C g v x->VR C k v x:=VR.mono L.pre L.zz L.im v x
theorem Le.or(L:Le own g k){a:ό}(e:k.s.heap.get? a=g.s.heap.get? a)(po:PO):OR C g a po->OR C k a po:=OR.mono L.pre L.zz L.im e po
theorem Le.refl:Le own g g:=⟨ϓ _,λ_ q=>q,λ_ _=>rfl,λ_ _ e _ _=>e,λ_ q=>q,λ_=>.inl,λ_=>.inl,rfl,rfl,λ_ _ h w=>⟨h,w⟩⟩
end
section
variable{C:Ctx}{g k m:Sg}{own:List ό}{h:ao}{t i n:Nat}{a:ό}{po:PO}{H:Hp}
theorem Le.trans(L:Le own g k)(M:Le own k m):Le own g m where
 pre:=L.pre.trans M.pre
 zz a q:=M.zz a<|L.zz a q
 im a q:=(M.im a<|L.zz a q).trans<|L.im a q
 kp a o e q r:=M.kp a o (L.kp a o e q r) (λy=>(L.fr a y).elim q λy=>bP _<|e.symm.trans y) r
 ex a q:=M.ex a<|L.ex a q
 fr a q:=(M.fr a q).elim (L.fr a) λy=>.inr<|Ϻ λx=>L.ex a x y
 fz a q:=(M.fz a q).elim (L.fz a) λy=>.inr<|y.elim (L.fr a) λy=>.inr<|Ϻ λx=>L.ex a x y
 sh:=by rw[M.sh,L.sh]
 md:=M.md.trans L.md
 hf e n h w:=have q:=L.hf e n h w;M.hf (L.md.trans e) n q.1 q.2
theorem Le.lift(L:Le [] g k):Le own g k:=⟨L.pre,L.zz,L.im,λa o e q _=>L.kp a o e q<|ϑ,L.ex,L.fr,L.fz,L.sh,L.md,L.hf⟩
theorem Hl.same{c c':List PO}(e:c'=c):Hl c c':=e▸λ_ h w=>⟨h,w⟩
abbrev Gr(h h':ao):Prop:=∀b o,h.get? b=some o->h'.get? b=some o
theorem Gr.eq{h h':ao}(x:Gr h h'){a:ό}(q:h.get? a≠none):h'.get? a=h.get? a:=by
 induction e:h.get? a with
 |none=>exact absurd e q
 |some o=>exact x a o e
theorem Gr.ne{h h':ao}(x:Gr h h')(a:ό)(q:h.get? a≠none):h'.get? a≠none:=by rw[x.eq q];exact q
theorem Gr.push(h:ao)(o:e9):Gr h (h.push o):=λ_ _ e=>af _ e
theorem ϱ(h:ao):h.get? h.objs.size=none:=by
 induction e:h.get? h.objs.size with
 |none=>rfl
 |some o=>exact absurd (cM e)<|a_ _
noncomputable def Sg.up(g:Sg)(H:Hp)(h:ao)(t:Nat):Sg:=⟨g.r,g.z,H,{g.s with heap:=h,toks:=t},g.m⟩
noncomputable def Sg.yQ(g:Sg)(a:ό)(H:Hp)(h:ao)(t:Nat):Sg:=⟨g.r,λb=>g.z b∨b=a,H,{g.s with heap:=h,toks:=t},g.m⟩
noncomputable def Sg.new(g:Sg)(a:ό)(H:Hp)(h:ao)(t:Nat):Sg:=⟨g.r++[a],g.z,H,{g.s with heap:=h,toks:=t},g.m⟩
theorem HR.stay(R:HR C g)(L:Le own g k)(er:k.r=g.r)(eH:k.H.c=g.H.c)(e: ∀a∈g.r,k.s.heap.get? a=g.s.heap.get? a)(nz: ∀a,k.z a->g.z a∨g.s.heap.get? a=none)(ez: ∀a,k.z a->k.s.heap.get? a≠none):HR C k where
 len:=by rw[er,eH];exact R.len
 nd:=by rw[er];exact R.nd
 ex a q:=q.elim (ez a) λq=>L.ex a<|R.ex a<|.inr<|er▸q
 old a o e:=⟨L.zz a (R.old a o e).1,(L.im a (R.old a o e).1).trans (R.old a o e).2⟩
 at_ i po a x y:=by
  rw[eH] at x
  rw[er] at y
  have m:=Υ y
  refine(R.at_ i po a x y).elim λo q=>?_
  exact⟨L.or (e a m) _ o,q.imp id λq z=>(nz a z).elim q<|R.ex a<|.inr m⟩
theorem gh(R:HR C g)(x:Gr g.s.heap h)(e:H.c=g.H.c):Le own g (g.up H h t):=⟨ϓ _,λ_ q=>q,λa q=>x.eq<|R.ex a<|.inl q,λ_ _ e _ _=>x _ _ e,x.ne,λ_=>.inl,λ_=>.inl,rfl,rfl,λ_=>.same e⟩
theorem lF(R:HR C g)(x:Gr g.s.heap h)(e:H.c=g.H.c):HR C (g.up H h t):=R.stay (gh (own:=[]) R x e) rfl e (λa m=>x.eq<|R.ex a<|.inr m) (λ_=>.inl) λa q=>x.ne a<|R.ex a<|.inl q
theorem xy(R:HR C g)(x:Gr g.s.heap h)(n:g.s.heap.get? a=none)(e:H.c=g.H.c):Le own g (g.yQ a H h t):=⟨ϓ _,λ_=>.inl,λa q=>x.eq<|R.ex a<|.inl q,λ_ _ e _ _=>x _ _ e,x.ne,λ_=>.inl,λb q=>Or.imp id (λ(q:b=a)=>.inr<|q.symm▸n) q,rfl,rfl,λ_=>.same e⟩
theorem CO(R:HR C g)(x:Gr g.s.heap h)(n:g.s.heap.get? a=none)(y:h.get? a≠none)(e:H.c=g.H.c):HR C (g.yQ a H h t):=R.stay (xy (own:=[]) R x n e) rfl e (λa m=>x.eq<|R.ex a<|.inr m) (λb q=>Or.imp id (λ(q:b=a)=>q.symm▸n) q) λb q=>cK q (λq=>x.ne b<|R.ex b<|.inl q) λ(q:b=a)=>q.symm▸y
theorem ir{α:Type}{l:List α}{b c:α}(e:(l++[b])[i]? =some c):l[i]? =some c∨i=l.length/\b=c:=by
 rw[List.getElem?_append] at e
 split at e
 ·exact .inl e
 ·rename_i q
  rw[List.getElem?_singleton] at e
  split at e
  ·exact .inr ⟨by omega,ξ e⟩
  ·cases e
theorem Hl.app{c c':List PO}(e:c'=c++[po]):Hl c c':=e▸λn h w=>⟨by rw[θ];exact η h<|Ρ _ _,λi p q l=>(ir q).elim (λq=>w i p q l) λq=>absurd (q.1▸l)<|ϯ.mpr h⟩
theorem o7(R:HR C g)(x:Gr g.s.heap h)(n:g.s.heap.get? a=none)(e:H.c=g.H.c++[po]):Le own g (g.new a H h t):=⟨aH _ _,λ_ q=>q,λa q=>x.eq<|R.ex a<|.inl q,λ_ _ e _ _=>x _ _ e,x.ne,λb q=>(Ζ.mp q).imp id λq=>(congrArg g.s.heap.get?<|υ.mp q).trans n,λ_=>.inl,rfl,rfl,λ_=>.app e⟩
theorem xW(R:HR C g)(x:Gr g.s.heap h)(n:g.s.heap.get? a=none)(y:h.get? a≠none)(e:H.c=g.H.c++[po])(o:OR C (g.new a H h t) a po):HR C (g.new a H h t) where
 len:=(θ.trans (congrArg (· +1) R.len)).trans ((congrArg au e).trans θ).symm
 nd:=dP.mpr ⟨R.nd,by simp,λb hb c hc q=>by
  rw[υ.mp hc] at q
  subst q
  exact R.ex _ (.inr hb) n⟩
 ex b q:=by
  rcases q with q|q
  ·exact x.ne b<|R.ex b<|.inl q
  ·rcases Ζ.mp q with q|q
   ·exact x.ne b<|R.ex b<|.inr q
   ·rw[υ.mp q];exact y
 old b o e:=⟨(R.old b o e).1,x _ _ (R.old b o e).2⟩
 at_ i po' b p q:=by
  have p:H.c[i]? =some po':=p
  rw[e] at p
  rcases ir p with p|⟨hi,rfl⟩
  ·rcases ir q with q|⟨hj,rfl⟩
   ·obtain⟨u,v⟩:=R.at_ i po' b p q
    exact⟨(o7 (own:=[]) R x n e).or (x.eq<|R.ex b<|.inr<|Υ q) _ u,v⟩
   ·rw[hj,R.len] at p
    exact absurd (Δ.mp p).1<|a_ _
  ·rcases ir q with q|⟨hj,rfl⟩
   ·rw[hi,<-R.len] at q
    exact absurd (Δ.mp q).1<|a_ _
   ·exact⟨o,.inr λz=>R.ex _ (.inl z) n⟩
abbrev O3(g:Sg)(i:Nat)(po:PO):Prop:=g.m=false->∀n,(∀q,g.H.c[i]? =some q->q.bl n)->po.bl n
theorem Hl.set{c c':List PO}(e:c'=c.set i po)(b: ∀n,(∀q,c[i]? =some q->q.bl n)->po.bl n):Hl c c':=e▸λn h w=>⟨bG.symm▸h,λj p q l=>by
 by_cases z:i=j
 ·subst z
  rw[List.getElem?_set_self'] at q
  obtain⟨_,q,rfl⟩:=dF.mp q
  exact b n λq' e'=>w i q' e' l
 ·rw[jE z] at q
  exact w j p q l⟩
theorem iB(R:HR C g)(ea:g.r[i]? =some a)(nz: ¬g.z a)(s:b8 a g.s.heap h)(y:h.get? a≠none)(e:H.c=g.H.c.set i po)(nb:O3 g i po):Le own g (g.up H h t):=⟨ϓ _,λ_ q=>q,λb q=>s.2 b λz=>nz (z▸q),λb o e q _=>(s.2 b λz=>q (z▸Υ ea)).trans e,
 λb q=>by
  show h.get? b≠none
  by_cases hb:b=a
  ·rw[hb];exact y
  ·rw[s.2 b hb];exact q,λ_=>.inl,λ_=>.inl,rfl,rfl,λz=>.set e (nb z)⟩
theorem DJ(R:HR C g)(L:Le [] g (g.up H h t))(ea:g.r[i]? =some a)(nz: ¬g.z a)(s:b8 a g.s.heap h)(e:H.c=g.H.c.set i po)(o:OR C (g.up H h t) a po):HR C (g.up H h t) where
 len:=R.len.trans ((congrArg au e).trans bG).symm
 nd:=R.nd
 ex b q:=L.ex b<|R.ex b q
 old b o e:=⟨(R.old b o e).1,(s.2 b λz=>nz<|z▸(R.old b o e).1).trans (R.old b o e).2⟩
 at_ j po' b p q:=by
  have p:H.c[j]? =some po':=p
  rw[e] at p
  by_cases hb:b=a
  ·subst hb
   have:i=j:=(dO (Δ.mp ea).1 R.nd).mp<|ea.trans q.symm
   subst this
   rw[iK<|R.len▸(Δ.mp ea).1] at p
   cases p
   exact⟨o,.inr nz⟩
  ·have:i≠j:=λz=>hb<|ξ<|q.symm.trans<|z▸ea
   rw[jE this] at p
   refine(R.at_ j po' b p q).elim λu v=>?_
   exact⟨L.or (s.2 b hb) _ u,v⟩
end
end J.Internal
namespace J.Internal
open PySem PySem.W PySem.Calls PyProof.Rows
variable [Key]
abbrev WP(C:Ctx)(A:Ϡ){α:Type}(t:Kh α)(Q:α->Χ->Prop)(s:Χ):Prop:=wpAny (model pw C.w) A t Q (λ_ _=>False) s
abbrev eo{α R:Type}(K:α->Hp->Option R)(r:R):Prop:=∀v H,K v H=some r->H.ok
structure Fn where
 n:Nat
 ns:Nat->Option ak
 kd:ak->Option lM
 m:Bool
noncomputable abbrev cf(k:Option lM):Bool:=k==some .cell||k==some .free
inductive Rd(h:ao)(pe:Ο)(m:ak->Option χ)(n:ak)(x:χ):Prop
 |loc:pe.kindOf n=some .local->m n=some x->Rd h pe m n x
 |gC {c:ό}:cf (pe.kindOf n)=true->pe.cells.lookup n=some c->h.IsCell c (some x)->Rd h pe m n x
inductive Own(g:Sg)(a:ό):Prop
 |mk (ex:g.s.heap.get? a≠none) (r:a∉g.r) (z: ¬g.z a)
structure FR(C:Ctx)(F:Fn)(pe:Ο)(g:Sg)(env:Env):Prop where
 kind:pe.scope.kind= .function
 glob:pe.globals=mainGlobals
 blt:pe.builtins=builtinsNs
 len:env.length=F.n
 val: ∃m,g.s.heap.Ns pe.locals m/\∀(i:Nat)(n:ak)(v:V),F.ns i=some n->env[i]? =some (some v)->∃x,Rd g.s.heap pe m n x/\VR C g v x
 lo:Own g pe.locals
 gC: ∀n c,pe.cells.lookup n=some c->(∃v,g.s.heap.IsCell c v)/\Own g c/\c≠pe.locals
 inj: ∀n n' c,pe.cells.lookup n=some c->pe.cells.lookup n'=some c->n=n'
 has: ∀i n,F.ns i=some n->cf (pe.kindOf n)=true->∃c,pe.cells.lookup n=some c
 once: ∀(i j:Nat)(n:ak),F.ns i=some n->F.ns j=some n->i=j
 lv: ∀c,c∈pe.cells.map (·.2)->g.s.heap.get? c≠none
 md:g.m=F.m
section
variable{C:Ctx}{A:Ϡ}{F:Fn}{pe:Ο}{g k:Sg}{env:Env}{own:List ό}{a:ό}{n:ak}{x:χ}
theorem Own.le(o:Own g a)(L:Le own g k):Own k a:=⟨L.ex a o.1,λq=>(L.fr a q).elim o.2 o.1,λq=>(L.fz a q).elim o.3 λq=>q.elim o.2 o.1⟩
theorem Own.same(o:Own g a)(L:Le own g k)(q:a∉own):k.s.heap.get? a=g.s.heap.get? a:=by
 induction e:g.s.heap.get? a with
 |none=>exact absurd e o.1
 |some b=>exact L.kp a b e o.2 q
theorem jw{h h':ao}{m:ak->Option χ}(e:h'.get? a=h.get? a)(q:h.Ns a m):h'.Ns a m:=q.imp λo q=>q.imp λ_ q=>q.imp λ_ q=>⟨e.trans q.1,q.2⟩
theorem c_{h h':ao}{v:Option χ}(e:h'.get? a=h.get? a)(q:h.IsCell a v):h'.IsCell a v:=q.imp λo q=>⟨e.trans q.1,q.2⟩
theorem FR.le(f:FR C F pe g env)(L:Le [] g k):FR C F pe k env where
 kind:=f.kind
 glob:=f.glob
 blt:=f.blt
 len:=f.len
 val:=by
  obtain⟨m,q,f'⟩:=f.val
  refine⟨m,jw (f.lo.same L ϑ) q,λi n v a b=>(f' i n v a b).imp λx q=>⟨?_,L.v _ _ q.2⟩⟩
  induction q.1 with
  |loc a b=>exact .loc a b
  |gC a b c=>exact .gC a b<|c_ ((f.gC _ _ b).2.1.same L ϑ) c
 lo:=f.lo.le L
 gC n c e:=⟨(f.gC n c e).1.imp λ_=>c_<|(f.gC _ _ e).2.1.same L ϑ,(f.gC n c e).2.1.le L,(f.gC n c e).2.2⟩
 inj:=f.inj
 has:=f.has
 once:=f.once
 lv c m:=L.ex c<|f.lv c m
 md:=L.md.trans f.md
theorem zx{i:Nat}{v:V}(f:FR C F pe g env)(hi:F.ns i=some n)(he:env[i]? =some (some v))(hc:(n==("__classdict__":ak))=false){Q:χ->Χ->Prop}(h: ∀x,VR C g v x->Q x g.s):WP C A (loadName pe n) Q g.s:=by
 refine f.val.elim λm q_=>q_.elim λb f'=>?_
 refine(f' i n v hi he).elim λx q_=>q_.elim λq V=>?_
 induction q with
 |loc a c=>exact wpAny_loadName_local f.kind a b c<|h x V
 |gC a b c=>
  rcases jQ.mp a with a|a
  ·exact wpAny_loadName_cell f.kind (eq_of_beq a) b c<|h x V
  ·exact wpAny_loadName_free f.kind (eq_of_beq a) b c (h x V) hc
theorem jh{h:ao}{t:Nat}{H:Hp}(o:Own g a)(s:b8 a g.s.heap h)(y:h.get? a≠none)(m:a∈own)(e:H.c=g.H.c):Le own g (g.up H h t):=⟨ϓ _,λ_ q=>q,λb q=>s.2 b λe=>o.3 (e▸q),λb c e _ n=>(s.2 b λz=>n (z▸m)).trans e,
 λb q=>by
  show h.get? b≠none
  by_cases hb:b=a
  ·rw[hb];exact y
  ·rw[s.2 b hb];exact q,λ_=>.inl,λ_=>.inl,rfl,rfl,λ_=>.same e⟩
theorem pA{h:ao}{t:Nat}{H:Hp}(R:HR C g)(o:Own g a)(s:b8 a g.s.heap h)(y:h.get? a≠none)(e:H.c=g.H.c):HR C (g.up H h t):=
 have L:=jh (own:=[a]) (H:=H) (t:=t) o s y (.head _) e
 R.stay L rfl e (λb m=>s.2 b λz=>o.2<|z▸m) (λ_=>.inl) λb q=>L.ex b<|R.ex b<|.inl q
theorem nJ{h:ao}{m:ak->Option χ}(q:h.Ns a m):h.get? a≠none:=by
 refine q.elim λo q_=>q_.elim λ_ q_=>q_.elim λ_ q_=>q_.elim λe _=>?_
 exact λz=>bP _<|e.symm.trans z
theorem jt{h:ao}{v:Option χ}(q:h.IsCell a v):h.get? a≠none:=by
 obtain⟨o,e,_⟩:=q
 exact λz=>bP _<|e.symm.trans z
theorem yc{i j:Nat}{v u:V}(e:(env.set i<|some v)[j]? =some (some u)):(j=i/\u=v)∨(j≠i/\env[j]? =some (some u)):=by
 rw[A2] at e
 split at e
 ·rename_i h
  split at e
  ·exact .inl ⟨h.symm,ξ<|ξ e.symm⟩
  ·cases e
 ·rename_i h
  exact .inr ⟨λz=>h z.symm,e⟩
inductive UD(pe:Ο)(own:List ό)(n:ak):Prop
 |lo:pe.kindOf n=some .local->pe.locals∈own->UD pe own n
 |ce:pe.kindOf n=some .cell->(∀c,pe.cells.lookup n=some c->c∈own)->UD pe own n
theorem u6{i:Nat}{v:V}(f:FR C F pe g env)(R:HR C g)(hi:F.ns i=some n)(hk:UD pe own n)(V:VR C g v x){Q:Unit->Χ->Prop}
 (q: ∀h t,FR C F pe (g.up g.H h t) (env.set i<|some v)->HR C (g.up g.H h t)->Le own g (g.up g.H h t)->Q () (g.up g.H h t).s):WP C A (storeName pe n x) Q g.s:=by
 refine f.val.elim λm q_=>q_.elim λb f'=>?_
 rcases hk with⟨hk,ho⟩|⟨hk,ho⟩
 ·refine wpAny_storeName_local hk b (λh b' s=>?_) (by rw[f.kind];rfl)
  have L:=jh (H:=g.H) (t:=g.s.toks+1) f.lo s (nJ b') ho rfl
  refine q h _ ⟨f.kind,f.glob,f.blt,bG.trans f.len,⟨_,b',λj n' u a c=>?_⟩,f.lo.le L,λn' c e=>⟨(f.gC n' c e).1.imp λ_=>c_<|s.2 c (f.gC n' c e).2.2,(f.gC n' c e).2.1.le L,(f.gC n' c e).2.2⟩,f.inj,f.has,f.once,λc m=>L.ex c<|f.lv c m,f.md⟩ (pA R f.lo s (nJ b') rfl) L
  rcases yc c with⟨rfl,rfl⟩|⟨ne,c⟩
  ·cases ξ (a.symm.trans hi)
   exact⟨x,.loc hk<|if_pos rfl,L.v _ _ V⟩
  ·refine(f' j n' u a c).imp λy q=>⟨?_,L.v _ _ q.2⟩
   induction q.1 with
   |loc k l=>exact .loc k<|(if_neg λ(e:n'=n)=>ne<|f.once j i n' a<|e▸hi).trans l
   |gC k l c=>exact .gC k l<|c_ (s.2 _ (f.gC _ _ l).2.2) c
 ·obtain⟨c,hc⟩:=f.has i n hi (by rw[hk];rfl)
  obtain⟨⟨v₀,z⟩,o,ol⟩:=f.gC n c hc
  refine wpAny_storeName_cell f.kind hk hc z λh b' s=>?_
  have L:=jh (H:=g.H) (t:=g.s.toks) o s (jt b') (ho _ hc) rfl
  refine q h _ ⟨f.kind,f.glob,f.blt,bG.trans f.len,⟨m,jw (s.2 _ ol.symm) b,λj n' u a d=>?_⟩,f.lo.le L,λn' c' e=>⟨?_,(f.gC n' c' e).2.1.le L,(f.gC n' c' e).2.2⟩,f.inj,f.has,f.once,λc m=>L.ex c<|f.lv c m,f.md⟩ (pA R o s (jt b') rfl) L
  ·rcases yc d with⟨rfl,rfl⟩|⟨ne,d⟩
   ·cases ξ (a.symm.trans hi)
    exact⟨x,.gC (by rw[hk];rfl) hc b',L.v _ _ V⟩
   ·refine(f' j n' u a d).imp λy q=>⟨?_,L.v _ _ q.2⟩
    induction q.1 with
    |loc k l=>exact .loc k l
    | @gC c' k l d=>exact .gC k l<|c_ (s.2 c' λe=>ne<|f.once j i n' a<|(f.inj n n' c hc<|(e:c'=c)▸l)▸hi) d
  ·by_cases e':c'=c
   ·exact⟨_,e'▸b'⟩
   ·exact(f.gC n' c' e).1.imp λ_=>c_<|s.2 c' e'
end
end J.Internal
namespace J.Internal
open PySem PySem.W PySem.Calls PyProof.Rows
theorem an{a b:Bool}(h:(a&&b)=true):a=true/\b=true:=aQ.mp h
noncomputable def pd:D->eO:=@D.rec (λ_=>eO) (λ_=>List eO) .none .bool .int (λk=>.str<|txt k) (λ_=>.tuple) (λ_=>.list) [] λ_ _=>ϕ
noncomputable def G7:List D->List eO:=@D.rec_1 (λ_=>eO) (λ_=>List eO) .none .bool .int (λk=>.str<|txt k) (λ_=>.tuple) (λ_=>.list) [] λ_ _=>ϕ
theorem Ey:(ϗ 91).all (λi=>(ϗ 91).all λj=>i==j|| !(txt i==txt j))=true:=by kernel_rfl
theorem H9:(ϗ 91).all (λi=>FO<|txt i)=true:=by kernel_rfl
theorem NR{i:Nat}(h:i<c7):FO (txt i)=true:=ϐ.mp H9 i<|ϭ.mpr h
theorem s_{i j:Nat}(h:i<c7)(h':j<c7):(txt i==txt j)=(i==j):=by
 rcases jQ.mp (ϐ.mp (ϐ.mp Ey i<|ϭ.mpr h) j<|ϭ.mpr h') with e|e
 ·rw[eq_of_beq e,beq_self_eq_true,beq_self_eq_true]
 ·have e:(txt i==txt j)=false:=by simpa using e
  rw[e]
  exact(beq_eq_false_iff_ne.mpr λq=>by rw[q,beq_self_eq_true] at e;cases e).symm
section
variable{z:ό->Prop}{h:ao}
theorem ML{x:χ}{d:eO}{l:List χ}{ds:List eO}(a: ∃as,E3 h x d as)(b: ∃as,pS h l ds as): ∃as,pS h (x::l) (d::ds) as:=
 a.elim λ_ a=>b.elim λ_ b=>⟨_,.cons a b⟩
theorem JM{T:Bool}{l:List D}{ds:List eO}{R:List χ->Prop}(r: ∀m,R m->∃as,pS h m ds as)(y:χ)(q:ym z h T l R y): ∃as,E3 h y (bif T then .tuple ds else .list ds) as:=by
 induction q with
 |mk a b c d=>
  obtain⟨as,d⟩:=r _ d
  induction T with
  |true=>exact⟨_,.tuple b rfl rfl d⟩
  |false=>exact⟨_,.list b rfl rfl d⟩
theorem MM{d:eO}{ds:List eO}{R:χ->Prop}{S:List χ->Prop}(r: ∀y,R y->∃as,E3 h y d as)(s: ∀m,S m->∃as,pS h m ds as)(m:List χ)(q:ET R S m): ∃as,pS h m (d::ds) as:=by
 induction q with
 |mk a b=>exact ML (r _ a)<|s _ b
theorem reads(x:D): ∀y,DR z h x y->∃as,E3 h y (pd x) as:=
 @D.rec (λx=>∀y,DR z h x y->∃as,E3 h y (pd x) as) (λl=>∀m,bg z h l m->∃as,pS h m (G7 l) as) (λ_ e=>e▸⟨_,.none⟩) (λb _ e=>e▸⟨_,.bool b⟩) (λi _ e=>e.elim λt e=>e▸⟨_,.int i t⟩) (λk _ e=>e.2.elim λt e=>e▸⟨_,.str _ t⟩)
  (λ_=>JM) (λ_=>JM) (λ_ e=>e▸⟨_,.nil⟩) (λ_ _=>MM) x
abbrev Lay(n:Nat)(d:eO):Prop:=d.canLay0=true/\d.depth<=n
abbrev zU(n:Nat)(d:List eO):Prop:=PyData.canLayAll0 d=true/\PyData.depthAll d<=n
theorem Dd{T:Bool}{l:List D}{ds:List eO}{R:List χ->Prop}(r: ∀n m,kF n l=true->R m->zU n ds)(n:Nat)(y:χ)(s:fK n (bif T then .tup l else .lst l)=true)(q:ym z h T l R y):Lay n (bif T then .tuple ds else .list ds):=by
 induction q with
 |mk a b c d=>
  induction n with
  |zero=>induction T<;>exact ff s
  |succ n=>induction T<;>exact(r n _ s d).imp id cS
theorem yY{x:D}{l:List D}{d:eO}{ds:List eO}{R:χ->Prop}{S:List χ->Prop}(r: ∀n y,fK n x=true->R y->Lay n d)(s: ∀n m,kF n l=true->S m->zU n ds)(n:Nat)(m:List χ)(e:kF n (x::l)=true)(q:ET R S m):zU n (d::ds):=by
 induction q with
 |mk a b=>exact⟨aQ.mpr ⟨(r n _ (aL e) a).1,(s n _ (aR e) b).1⟩,Nat.max_le.mpr ⟨(r n _ (aL e) a).2,(s n _ (aR e) b).2⟩⟩
theorem lay(x:D): ∀n y,fK n x=true->DR z h x y->Lay n (pd x):=
 @D.rec (λx=>∀n y,fK n x=true->DR z h x y->Lay n (pd x)) (λl=>∀n m,kF n l=true->bg z h l m->zU n (G7 l)) (λ_ _ _ _=>⟨rfl,ϋ _⟩) (λ_ _ _ _ _=>⟨rfl,ϋ _⟩) (λ_ _ _ _ _=>⟨rfl,ϋ _⟩) (λ_ _ _ _ e=>⟨NR e.1,ϋ _⟩)
  (λ_=>Dd (T:=true)) (λ_=>Dd (T:=false)) (λ_ _ _ _=>⟨rfl,ϋ _⟩) (λ_ _=>yY) x
theorem RS(l:List D): ∀n m,kF n l=true->bg z h l m->zU n (G7 l):=
 @vS D (λl=>∀n m,kF n l=true->bg z h l m->zU n (G7 l)) (λ_ _ _ _=>⟨rfl,ϋ _⟩) (λx _=>yY<|lay x) l
abbrev Eqv(z:ό->Prop)(h:ao)(x y:D):Prop:=∀n m u v,fK n x=true->fK m y=true->DR z h x u->DR z h y v->nW (pd x) (pd y)=r5 x y
abbrev Fo(z:ό->Prop)(h:ao)(x y:List D):Prop:=∀n m u v,kF n x=true->kF m y=true->bg z h x u->bg z h y v->E2 (G7 x) (G7 y)=kU x y
theorem I_{T:Bool}{l l':List D}(e:Fo z h l l')(n m:Nat)(u v:χ)(s:fK n (bif T then .tup l else .lst l)=true)(s':fK m (bif T then .tup l' else .lst l')=true)(a:ym z h T l (bg z h l) u)(b:ym z h T l' (bg z h l') v):E2 (G7 l) (G7 l')=kU l l':=by
 induction a with
 |mk _ _ _ a=>
  induction b with
  |mk _ _ _ b=>
   induction n with
   |zero=>induction T<;>exact ff s
   |succ n=>
    induction m with
    |zero=>induction T<;>exact ff s'
    |succ m=>induction T<;>exact e n m _ _ s s' a b
theorem Ll{x y:D}{l l':List D}(a:Eqv z h x y)(b:Fo z h l l'):Fo z h (x::l) (y::l'):=λn m u v s s' p q=>by
 induction p with
 |mk p p'=>
  induction q with
  |mk q q'=>exact congr (congrArg and<|a n m _ _ (aL s) (aL s') p q)<|b n m _ _ (aR s) (aR s') p' q'
theorem Yr{n:Nat}{b:Bool}{p:Prop}(h:fK n (.bool b)=true):p:=by induction n<;>exact ff h
theorem Ct(x:D): ∀y,Eqv z h x y:=
 @D.rec (λx=>∀y,Eqv z h x y) (λl=>∀l',Fo z h l l')
  (λy=>@D.casesOn (Eqv z h .none) y (λ_ _ _ _ _ _ _ _=>rfl) (λ_ _ _ _ _ _ _ _ _=>rfl) (λ_ _ _ _ _ _ _ _ _=>rfl) (λ_ _ _ _ _ _ _ _ _=>rfl) (λ_ _ _ _ _ _ _ _ _=>rfl)<|λ_ _ _ _ _ _ _ _ _=>rfl)
  (λ_ _ _ _ _ _ s=>Yr s)
  (λi y=>@D.casesOn (Eqv z h<|.int i) y (λ_ _ _ _ _ _ _ _=>rfl) (λ_ _ _ _ _ _ s=>Yr s) (λ_ _ _ _ _ _ _ _ _=>rfl) (λ_ _ _ _ _ _ _ _ _=>rfl) (λ_ _ _ _ _ _ _ _ _=>rfl)<|λ_ _ _ _ _ _ _ _ _=>rfl)
  (λk y=>@D.casesOn (Eqv z h<|.str k) y (λ_ _ _ _ _ _ _ _=>rfl) (λ_ _ _ _ _ _ _ _ _=>rfl) (λ_ _ _ _ _ _ _ _ _=>rfl) (λ_ _ _ _ _ _ _ a b=>s_ a.1 b.1) (λ_ _ _ _ _ _ _ _ _=>rfl)<|λ_ _ _ _ _ _ _ _ _=>rfl)
  (λl ih y=>@D.casesOn (Eqv z h<|.tup l) y (λ_ _ _ _ _ _ _ _=>rfl) (λ_ _ _ _ _ _ _ _ _=>rfl) (λ_ _ _ _ _ _ _ _ _=>rfl) (λ_ _ _ _ _ _ _ _ _=>rfl) (λl'=>I_ (T:=true)<|ih l')<|λ_ _ _ _ _ _ _ _ _=>rfl)
  (λl ih y=>@D.casesOn (Eqv z h<|.lst l) y (λ_ _ _ _ _ _ _ _=>rfl) (λ_ _ _ _ _ _ _ _ _=>rfl) (λ_ _ _ _ _ _ _ _ _=>rfl) (λ_ _ _ _ _ _ _ _ _=>rfl) (λ_ _ _ _ _ _ _ _ _=>rfl)<|λl'=>I_ (T:=false)<|ih l')
  (λl'=>by induction l'<;>exact λ_ _ _ _ _ _ _ _=>rfl)
  (λx l a b l'=>by
   induction l' with
   |nil=>exact λ_ _ _ _ _ _ _ _=>rfl
   |cons y l'=>exact Ll (a y) (b l')) x
end
section
variable{C:Ctx}{g:Sg}{A:Ϡ}
inductive Bb(g:Sg)(T:Bool)(l:List D):χ->Prop
 |mk {a:ό} {its:Array χ} {n:Nat}:g.s.heap.get? a=some (gn T its n)->l.length<=big->bg g.z g.s.heap l its.toList->Bb g T l (.ref a)
theorem get_some{H:Hp}{i:Nat}{po:PO}(h:H.get i=po)(ne:po≠.dead):H.c[i]? =some po:=by
 unfold Hp.get at h
 cases e:H.c[i]? with
 |none=>rw[e] at h;exact absurd h.symm ne
 |some q=>rw[e] at h;exact congrArg some h
theorem bY(R:HR C g){i:Nat}{y:χ}{po:PO}(h:VR C g (.obj i) y)(e:g.H.get i=po)(ne:po≠.dead): ∃a,y= .ref a/\g.r[i]? =some a/\OR C g a po/\¬g.z a:=by
 induction h with
 |mk q=>
  obtain⟨o,z⟩:=R.at_ i po _ (get_some e ne) q
  exact⟨_,rfl,q,o,z.resolve_left ne⟩
theorem dY{i:Nat}{y:χ}{po:PO}{P:χ->Prop}(R:HR C g)(h:VR C g (.obj i) y)(e:g.H.get i=po)(ne:po≠.dead)(q: ∀a,g.r[i]? =some a->OR C g a po->¬g.z a->P (.ref a)):P y:=by
 obtain⟨a,e,h1,h2,h3⟩:=bY R h e ne
 exact e▸q a h1 h2 h3
theorem nF(R:HR C g){i:Nat}{y:χ}{l:List D}(h:VR C g (.obj i) y)(e:g.H.get i= .list l):Bb g false l y:=by
 obtain⟨a,rfl,_,o,_⟩:=bY R h e<|λh=>PO.noConfusion h
 induction o with
 |mk a b c=>exact .mk a b c
theorem qV{α:Type}{f:List D->α}{po:PO}{p:α}(e:E8 f po=some p): ∃l,po= .list l/\f l=p:=by
 induction po with
 |list l=>exact⟨l,rfl,ξ e⟩
 |_=>exact Ϝ e
theorem mY(R:HR C g){v:V}{y:χ}{p:Bool×List D}(h:VR C g v y)(e:sq g.H v=some p):Bb g p.1 p.2 y:=by
 induction v with
 |d x=>
  cases x with
  |tup m=>
   induction h with
   |mk _ a b c=>exact ξ e▸.mk a b c
  |lst m=>
   induction h with
   |mk _ a b c=>exact ξ e▸.mk a b c
  |_=>exact Ϝ e
 |obj i=>
  obtain⟨l,q,f⟩:=qV e
  exact f▸nF R h q
 |_=>exact Ϝ e
abbrev Pg(_:ό):Prop:=True
theorem I6{T:Bool}{l:List D}{y:χ}(h:Bb g T l y):DR Pg g.s.heap (bif T then .tup l else .lst l) y:=by
 induction h with
 |mk a b c=>
  have c:=bg.mono (λ_ _=>trivial) (λ_ _=>rfl) _ _ c
  induction T with
  |true=>exact .mk trivial a b c
  |false=>exact .mk trivial a b c
theorem Aj{x:D}{y:χ}(h:DR g.z g.s.heap x y):DR Pg g.s.heap x y:=DR.mono (λ_ _=>trivial) (λ_ _=>rfl) _ _ h
theorem I4(R:HR C g){v:V}{y:χ}{x:D}(h:VR C g v y)(e:dat g.H v=some x):DR Pg g.s.heap x y:=by
 induction v with
 |d u=>exact ξ e▸Aj h
 |obj i=>
  obtain⟨l,q,f⟩:=qV e
  exact f▸I6 (nF R h q)
 |_=>exact Ϝ e
theorem aC{c:Prop}[Decidable c]{R:Type}{a b:R}(e:(if c then some a else none)=some b):c/\a=b:=by
 by_cases h:c
 ·rw[if_pos h] at e;exact⟨h,ξ e⟩
 ·rw[if_neg h] at e;exact Ϝ e
abbrev X0(x y:D)(b:Bool):Prop:=iF (pd x)=true/\iF (pd y)=true/\nW (pd x) (pd y)=b
theorem q7{x:D}{z:ό->Prop}{h:ao}{n:Nat}{y:χ}(hn:n<=64)(s:fK n x=true)(d:DR z h x y):iF (pd x)=true:=
 have q:=lay x n y s d
 aQ.mpr ⟨q.1,decide_eq_true<|η q.2 hn⟩
theorem Za{x y:D}{h:ao}{z:ό->Prop}{u v:χ}{b:Bool}(e:(if(fK 6 x&&fK 6 y)=true then some (r5 x y) else none)=some b)(p:DR z h x u)(q:DR z h y v):X0 x y b:=by
 obtain⟨s,e⟩:=aC e
 exact⟨q7 (by decide) (aL s) p,q7 (by decide) (aR s) q,(Ct x y 6 6 u v (aL s) (aR s) p q).trans e⟩
theorem Lk{x y:D}{h:ao}{z:ό->Prop}{u v:χ}{b:Bool}(e:iL x y=some b)(p:DR z h x u)(q:DR z h y v):X0 x y b:=by
 cases x with
 |bool i=>
  cases y with
  |bool j=>exact⟨rfl,rfl,ξ e⟩
  |_=>exact Ϝ e
 |_=>exact Za e p q
theorem dG{α β:Type}{m:Option α}{f:α->Option β}{r:β}(e:m.bind f=some r): ∃a,m=some a/\f a=some r:=by
 induction m with
 |none=>exact Ϝ e
 |some a=>exact⟨a,rfl,e⟩
theorem fH{α β:Type}{m:Option α}{f:α->β}{r:β}(e:m.map f=some r): ∃a,m=some a/\f a=r:=by
 induction m with
 |none=>exact Ϝ e
 |some a=>exact⟨a,rfl,ξ e⟩
theorem Cw(R:HR C g){v w:V}{x y:χ}{b:Bool}(e:eqv g.H v w=some b)(p:VR C g v x)(q:VR C g w y): ∃d d',(∃as,E3 g.s.heap x d as)/\(∃as,E3 g.s.heap y d' as)/\iF d=true/\iF d'=true/\nW d d'=b:=by
 obtain⟨d,e1,e⟩:=dG e
 obtain⟨d',e2,e⟩:=dG e
 have p:=I4 R p e1
 have q:=I4 R q e2
 exact⟨_,_,reads d _ p,reads d' _ q,Lk e p q⟩
end
end J.Internal
namespace J.Internal
open PySem PySem.W PySem.Calls PyProof.Rows
variable [Key]
abbrev Nd(C:Ctx)(g:Sg){R:Type}(K:KV R)(r:R)(Q:χ->Χ->Prop):Prop:=∀k v y,Le [] g k->HR C k->VR C k v y->K v k.H=some r->Q y k.s
section
variable(C:Ctx)(A:Ϡ)(F:Fn)(pe:Ο)
inductive SE(f:{R:Type}->Env->Hp->KV R->Option R)(t:Kh χ):Prop
 |mk (ok: ∀{R:Type}{r:R}{K:KV R}{env:Env}{H:Hp},f env H K=some r->eo K r->H.ok) (w: ∀{R:Type}{r:R}{K:KV R}{env:Env}{g:Sg}{Q:χ->Χ->Prop},f env g.H K=some r->eo K r->HR C g->FR C F pe g env->Nd C g K r Q->WP C A t Q g.s)
abbrev TE(f:{R:Type}->Env->Hp->KV R->Option R)(t:Kh Bool):Prop:=
 ∀{R:Type}{r:R}{K:KV R}{env:Env}{g:Sg}{Q:Bool->Χ->Prop},f env g.H K=some r->eo K r->(∀v H,K v H=some r->(truth v).isSome=true)->HR C g->FR C F pe g env->
  (∀k v b,Le [] g k->HR C k->truth v=some b->K v k.H=some r->Q b k.s)->WP C A t Q g.s
structure S2(f:{R:Type}->Hp->KV R->V->V->Option R)(t:χ->χ->Kh χ):Prop where
 ok: ∀{R:Type}{r:R}{K:KV R}{H:Hp}{v w:V},f H K v w=some r->eo K r->H.ok
 w: ∀{R:Type}{r:R}{K:KV R}{g:Sg}{v w:V}{x y:χ}{Q:χ->Χ->Prop},f g.H K v w=some r->eo K r->HR C g->VR C g v x->VR C g w y->Nd C g K r Q->WP C A (t x y) Q g.s
end
section
variable{C:Ctx}{A:Ϡ}{g:Sg}{R:Type}{r:R}{K:KV R}{H:Hp}{v w:V}{x y:χ}{Q:χ->Χ->Prop}{a b:Int}{c:Nat}{l m:List D}
theorem iz(q:Nd C g K r Q)(HR:HR C g)(e:K v g.H=some r)(V:VR C g v y):Q y g.s:=q g v y .refl HR V e
theorem Dv{h:ao}{t:Nat}(q:Nd C g K r Q)(HR:HR C g)(x:Gr g.s.heap h)(hc:H.c=g.H.c)(e:K v H=some r)(V:VR C g v y):Q y (g.up H h t).s:=q (g.up H h t) v y (gh HR x hc) (lF HR x hc) ((gh (own:=[]) HR x hc).v _ _ V) e
theorem LA{h:ao}:Gr h h:=λ_ _ e=>e
theorem bS{t:Nat}(q:Nd C g K r Q)(HR:HR C g)(e:K v g.H=some r)(V:VR C g v y):Q y {g.s with toks:=t}:=Dv q HR LA rfl e V
theorem sM{t:Nat}{p:Prop}(q:Nd C g K r Q)(HR:HR C g)(e:K v (g.H.ϴ p)=some r)(V:VR C g v y):Q y {g.s with toks:=t}:=Dv (H:=g.H.ϴ p) q HR LA rfl e V
theorem uG{p:Prop}(o:eo K r)(e:K v (H.ϴ p)=some r):H.ok/\p:=o _ _ e
theorem cG(e:newL c H l K=some r)(o:eo K r):H.ok/\l.length<=big:=by
 induction c with
 |zero=>exact o _ _ e
 |succ c=>exact o _ _ e
theorem ai{h:ao}{o:e9}(f:o.isFreed=false):(h.push o).get? h.objs.size=some o:=aB h f
theorem ϖ{α:Type}{o:Option α}{a:α}(e:o=some a):o≠none:=λz=>bP _<|e.symm.trans z
theorem sR{l:List ό}{a:ό}{n:Nat}(e:l.length=n):(l++[a])[n]? =some a:=by subst e;exact Ϟ
theorem mz{T:Bool}{its:Array χ}{t:Nat}{h:ao}{a:ό}{n:Nat}(q:Nd C g K r Q)(HR:HR C g)(x:Gr g.s.heap h)(n0:g.s.heap.get? a=none)(s:h.get? a=some (gn T its n))(hc:H.c=g.H.c)(V:bg g.z g.s.heap l its.toList)(z:l.length<=big)(e:K (.d<|bif T then .tup l else .lst l) H=some r):Q (.ref a) (g.yQ a H h t).s:=by
 have L:Le [] g (g.yQ a H h t):=xy HR x n0 hc
 refine q (g.yQ a H h t) _ _ L (CO HR x n0 (ϖ s) hc) ?_ e
 have V:=bg.mono L.zz L.im _ _ V
 induction T with
 |true=>exact .mk (.inr rfl) s z V
 |false=>exact .mk (.inr rfl) s z V
theorem lA{its:Array χ}{t:Nat}{h:ao}{a:ό}{n:Nat}(q:Nd C g K r Q)(HR:HR C g)(x:Gr g.s.heap h)(n0:g.s.heap.get? a=none)(s:h.get? a=some (gn false its n))(V:bg g.z g.s.heap l its.toList)(hc:H.c=g.H.c)(e:newL c H l K=some r)(o:eo K r):Q (.ref a) (g.yQ a H h t).s:=by
 induction c with
 |zero=>exact mz (T:=false) (H:=H.ϴ _) q HR x n0 s hc V (cG e o).2 e
 |succ c=>
  have L:Le [] g (g.new a ((H.ϴ<|l.length<=big).new<|.list l) h t):=o7 HR x n0 (congrArg (· ++[_]) hc)
  exact q (g.new a ((H.ϴ<|l.length<=big).new<|.list l) h t) (.obj H.c.length) _ L (xW HR x n0 (ϖ s) (po:=.list l) (congrArg (· ++[PO.list l]) hc)<|.mk s (cG e o).2<|bg.mono L.zz L.im _ _ V) (show Uy (g.new a ((H.ϴ<|l.length<=big).new<|.list l) h t) _ _ from .mk (sR<|HR.len.trans<|congrArg au hc.symm)) e
theorem bg.app{z:ό->Prop}{h:ao}{l m:List D}{x y:List χ}(a:bg z h l x)(b:bg z h m y):bg z h (l++m) (x++y):=by
 induction l generalizing x with
 |nil=>cases(show x=[] from a);exact b
 |cons d l ih=>
  induction a with
  |mk p q=>exact .mk p<|ih q
theorem bg.len{z:ό->Prop}{h:ao}{l:List D}{x:List χ}(a:bg z h l x):l.length=x.length:=by
 induction l generalizing x with
 |nil=>cases(show x=[] from a);rfl
 |cons d l ih=>
  induction a with
  |mk p q=>exact congrArg (· +1)<|ih q
theorem jg{f:Int->Int->Option R}(h:ii f v w=some r): ∃a b,v= .int a/\w= .int b/\f a b=some r:=by
 induction v with
 |d x=>
  cases x with
  |int a=>
   induction w with
   |d y=>
    cases y with
    |int b=>exact⟨a,b,rfl,rfl,h⟩
    |_=>exact Ϝ h
   |_=>exact Ϝ h
  |_=>exact Ϝ h
 |_=>exact Ϝ h
theorem lu{α:Type}{a b:α}(h:lock a=b):a=b:=(ϥ a).symm.trans h
theorem bE{c:Prop}[Decidable c]{a:Option R}(e:(if c then a else none)=some r):c/\a=some r:=by
 by_cases h:c
 ·rw[if_pos h] at e;exact⟨h,e⟩
 ·rw[if_neg h] at e;exact Ϝ e
theorem tW{p q:Option (Bool×List D)}(e:rE c H K p q=some r): ∃T l m,p=some (T,l)/\q=some (T,m)/\((T=true/\K (.tup<|l++m) (H.ϴ<|(l++m).length<=big)=some r)∨(T=false/\newL c H (l++m) K=some r)):=by
 induction p with
 |none=>exact Ϝ e
 |some p=>
  obtain⟨T,l⟩:=p
  induction T with
  |true=>
   induction q with
   |none=>exact Ϝ e
   |some q=>
    obtain⟨T,m⟩:=q
    induction T with
    |true=>exact⟨_,_,_,rfl,rfl,.inl ⟨rfl,e⟩⟩
    |false=>exact Ϝ e
  |false=>
   induction q with
   |none=>exact Ϝ e
   |some q=>
    obtain⟨T,m⟩:=q
    induction T with
    |true=>exact Ϝ e
    |false=>exact⟨_,_,_,rfl,rfl,.inr ⟨rfl,e⟩⟩
theorem yo{p q:Option (Bool×List D)}(e:rE c H K p q=some r)(o:eo K r):H.ok:=by
 obtain⟨_,_,_,_,_,⟨_,e⟩|⟨_,e⟩⟩:=tW e
 ·exact(uG o e).1
 ·exact(cG e o).1
theorem ki{i:Int}{t:X7}:VR C g (.int i) (.int i t):=⟨t,rfl⟩
theorem QX{f:Int->Int->Option R}(h:ii f v w=some r)(q: ∀a b,f a b=some r->H.ok):H.ok:=by
 refine(jg h).elim λa q_=>q_.elim λb q_=>q_.elim λ_ q_=>q_.elim λ_ e=>?_
 exact q a b e
theorem sY{p:Bool×List D}(e:sq H v=some p)(q:p.1=true):v= .tup p.2:=by
 induction v with
 |d x=>
  cases x with
  |tup l=>exact ξ e▸rfl
  |lst l=>exact ff<|(congrArg Ϣ<|ξ e).trans q
  |_=>exact Ϝ e
 |obj i=>
  refine(qV e).elim λl q_=>q_.elim λ_ f=>?_
  exact ff<|(congrArg Ϣ f).trans q
 |_=>exact Ϝ e
theorem yq(e:rE c g.H K (sq g.H v) (sq g.H w)=some r)(o:eo K r)(HR:HR C g)(X:VR C g v x)(Y:VR C g w y)(q:Nd C g K r Q):WP C A (binaryOp .Add x y) Q g.s:=by
 obtain⟨T,l,m,e1,e2,e⟩:=tW e
 have X':Bb g T l x:=mY HR X e1
 have Y':Bb g T m y:=mY HR Y e2
 induction X' with
 | @mk a its n i1 z1 d1=>
  induction Y' with
  | @mk b its2 n2 i2 z2 d2=>
   have l1:l.length=its.size:=d1.len
   have l2:m.length=its2.size:=d2.len
   have sz:(its++its2).toList=its.toList++its2.toList:=Array.toList_append
   have hz:its.size+its2.size<=sizeLine:=by
    rw[show sizeLine=16777216 by decide,<-l1,<-l2]
    unfold big at z1 z2
    omega
   rcases e with⟨rfl,e⟩|⟨rfl,e⟩
   ·by_cases h1:its.isEmpty=true
    ·have e1':=zQ.mp h1
     subst e1'
     cases nu l1
     exact Ym ⟨_,i1,rfl⟩ ⟨_,i2,rfl⟩ OM Xs qI p7 (pR _ _)
      (tuple_addW0 a b #[] its2 n n2 none none #[] #[] rfl) ⟨i1,i2,sM q HR e<|sY e2 rfl▸Y⟩
    ·by_cases h2:its2.isEmpty=true
     ·have e1':=zQ.mp h2
      subst e1'
      cases nu l2
      rw[Ν] at e
      exact Ym ⟨_,i1,rfl⟩ ⟨_,i2,rfl⟩ OM Xs qI p7 (pR _ _)
       (tuple_addW1 a b its #[] n n2 none none #[] #[] h1 rfl) ⟨i1,i2,sM q HR e<|sY e1 rfl▸X⟩
     ·exact PySem.P.add_tuple i1 i2 h1 h2 (mz (T:=true) (H:=g.H.ϴ _) q HR (Gr.push _ _) (ϱ _) (ai rfl) rfl (sz▸d1.app d2) (uG o e).2 e) hz
   ·exact PySem.P.add_list i1 i2 (lA q HR (Gr.push _ _) (ϱ _) (ai rfl) (sz▸d1.app d2) rfl e o) hz
theorem DL{x:χ}: ∀(k:Nat)(acc:Array χ),O0 (λx1 x2=>x1++x2) acc (Ω k #[x])=acc++(Ω k x).toArray:=λk=>by
 induction k with
 |zero=>exact λacc=>Array.append_empty.symm
 |succ k ih=>exact λacc=>(ih _).trans<|Array.ext' (by simp)
theorem bg.rep{z:ό->Prop}{h:ao}{d:D}{x:χ}(a:DR z h d x)(n:Nat):bg z h (Ω n d) (Ω n x):=by
 induction n with
 |zero=>exact rfl
 |succ n ih=>exact .mk a ih
theorem zc{p:Option (Bool×List D)}(e:Mm H K p w=some r): ∃n x,w= .int n/\p=some (false,[x])/\newL 1 (H.ϴ<|0<=n/\n<=big) (Ω n.toNat x) K=some r:=by
 induction w with
 |d y=>
  cases y with
  |int n=>
   induction p with
   |none=>exact Ϝ e
   |some p=>
    obtain⟨T,l⟩:=p
    induction T with
    |true=>exact Ϝ e
    |false=>
     induction l with
     |nil=>exact Ϝ e
     |cons x l=>
      induction l with
      |nil=>exact⟨n,x,rfl,rfl,e⟩
      |cons _ _=>exact Ϝ e
  |_=>exact Ϝ e
 |_=>exact Ϝ e
theorem G1(e:Mm g.H K (sq g.H v) w=some r)(o:eo K r)(HR:HR C g)(X:VR C g v x)(Y:VR C g w y)(q:Nd C g K r Q):WP C A (binaryOp .Mult x y) Q g.s:=by
 obtain⟨n,d,rfl,e1,e⟩:=zc e
 obtain⟨u,rfl⟩:=Y
 have X':Bb g false [d] x:=mY HR X e1
 have ok:=cG e o
 have h0:=ok.1.2.1
 have hn:n<=1000000:=ok.1.2.2
 induction X' with
 | @mk a its k il z1 d1=>
  obtain⟨its⟩:=its
  cases d1 with
  | @mk xx m p q'=>
   cases q'
   have hs:(#[xx]:Array χ).size*n.toNat<=sizeLine:=by show 1*n.toNat<=16777216;omega
   refine wpAny_binaryOp_repeat_ref (T:="list") (by decide) ⟨_,il,rfl⟩ (λs'=>typeIs_int s' n u) noFill_list_mul F.fills_int_mul F.slot_int_rmul repeat_list F.slot_int_index.lookup
    (gY F.slot_int_rmul (typeIs_int g.s n u) F.entry_int_rmul (F.args_int_rmul_2 _ _) (int___rmul___int_list n u a #[xx] k)
     ⟨il,rfl,⟨_,il,rfl⟩,gY F.slot_list_mul ⟨_,il,rfl⟩ F.entry_list_mul (F.args_list_mul_2 _ _)
      (XU a #[xx] k n u (λh=>by rw[show OU n=true from aQ.mpr ⟨decide_eq_true (by omega),decide_eq_true (by omega)⟩] at h;exact ff h) (ϯ.mpr (η hs (by decide))) (λh=>absurd (of_decide_eq_true h) (ϯ.mpr hs))) ⟨il,?_⟩⟩)
   rw[((DL _ _).trans Array.empty_append:O0 (λx1 x2=>x1++x2) #[] (Ω (if(#[xx]:Array χ).isEmpty=true then 0 else n.toNat) #[xx])=(Ω n.toNat xx).toArray)]
   exact lA (H:=g.H.ϴ _) q HR (Gr.push _ _) (ϱ _) (ai rfl) (bg.rep p _) rfl e o
theorem rX{b:Int}{K':Option R}(e:lock (if 0<b then K' else none)=some r):0<b/\K'=some r:=bE<|lu e
noncomputable def YN(n:Nat):pO:=num n [.Add,.Add,.Sub,.Mult,.FloorDiv,.Mod,.BitOr,.BitAnd] .Add
theorem yp(e:FU H K v w=some r):(∃a b,v= .int a/\w= .int b/\K (.int<|a+b) H=some r)∨rE 0 H K (sq H v) (sq H w)=some r:=by
 induction v with
 |d x=>
  cases x with
  |int a=>
   induction w with
   |d y=>
    cases y with
    |int b=>exact .inl ⟨a,b,rfl,rfl,e⟩
    |_=>exact .inr e
   |_=>exact .inr e
  |_=>exact .inr e
 |_=>exact .inr e
abbrev B2(C:Ctx)(A:Ϡ)(n:Nat)(op:pO):Prop:=S2 C A (λH K v w=>bA n v K w H)<|binaryOp op
theorem Vn:B2 C A 0 .Add where
 ok e o:=(yp e).elim (λq=>q.elim λa q=>q.elim λb q=>o _ _ q.2.2) λq=>yo q o
 w e o HR X Y q:=by
  rcases yp e with⟨a,b,rfl,rfl,e⟩|e
  ·obtain⟨t,rfl⟩:=X
   obtain⟨u,rfl⟩:=Y
   exact add_int<|bS q HR e ki
  ·exact yq e o HR X Y q
theorem Vo:B2 C A 1 .Add:=⟨yo,yq⟩
theorem Vq:B2 C A 3 .Mult where
 ok e o:=by
  refine(zc e).elim λn q_=>q_.elim λd q_=>q_.elim λ_ q_=>q_.elim λ_ e=>?_
  exact(cG e o).1.1
 w:=G1
theorem BB{n:Nat}{op:pO}{f:{R:Type}->KV R->Hp->Int->Int->Option R}(hf: ∀{R:Type}{K:KV R}{H:Hp}{v w:V},bA n v K w H=ii (f K H) v w)(ok: ∀{R:Type}{r:R}{K:KV R}{H:Hp}{a b:Int},f K H a b=some r->eo K r->H.ok)
 (wp: ∀{R:Type}{r:R}{K:KV R}{g:Sg}{a b:Int}{t u:X7}{Q:χ->Χ->Prop},f K g.H a b=some r->eo K r->HR C g->Nd C g K r Q->WP C A (binaryOp op (.int a t)<|.int b u) Q g.s):B2 C A n op where
 ok e o:=QX (hf▸e) λa b e=>ok e o
 w e o HR X Y q:=by
  rw[hf] at e
  obtain⟨a,b,rfl,rfl,e⟩:=jg e
  obtain⟨t,rfl⟩:=X
  obtain⟨u,rfl⟩:=Y
  exact wp e o HR q
theorem Vp:B2 C A 2 .Sub:=BB rfl (λe o=>o _ _ e) λe o HR q=>sub_int<|bS q HR e ki
theorem Vr:B2 C A 4 .FloorDiv:=BB rfl (λe o=>(uG o (rX e).2).1) λ{R r K g a b t u Q} e o HR q=>by
 refine(rX e).elim λh e=>?_
 have z:=(uG o e).2
 rw[<-Int.fdiv_eq_ediv_of_nonneg a (cQ h)] at e
 exact floordiv_int (λq=>by omega) (sM q HR e ki)<|.inl<|PyProof.noPylong_small (by omega)
theorem Vs:B2 C A 5 .Mod:=BB rfl (λe o=>(uG o (rX e).2).1) λ{R r K g a b t u Q} e o HR q=>by
 refine(rX e).elim λh e=>?_
 rw[<-Int.fmod_eq_emod_of_nonneg a (cQ h)] at e
 exact mod_int' (λq=>by omega)<|sM q HR e ki
theorem Vt:B2 C A 6 .BitOr:=BB rfl (λe o=>o _ _ (bE e).2) λ{R r K g a b t u Q} e o HR q=>by
 obtain⟨⟨rfl,rfl⟩,e⟩:=bE e
 exact or_int<|bS q HR e ki
theorem Vu:B2 C A 7 .BitAnd:=BB rfl (λe o=>o _ _ (bE e).2) λ{R r K g a b t u Q} e o HR q=>by
 obtain⟨⟨rfl,rfl⟩,e⟩:=bE e
 exact and_int<|bS q HR e ki
theorem MX(n:Nat)(hn:n<8):B2 C A n (YN n):=by
 rcases n with _|_|_|_|_|_|_|_|n
 ·exact Vn
 ·exact Vo
 ·exact Vp
 ·exact Vq
 ·exact Vr
 ·exact Vs
 ·exact Vt
 ·exact Vu
 ·exact absurd hn<|ϯ.mpr<|ϣ 8 n
end
end J.Internal
namespace J.Internal
open PySem PySem.W PySem.Calls PyProof.Rows PySem.SeqAt
variable [Key]
inductive dU(C:Ctx):Prop
 |mk (sysm:C.s.heap.get? sysModules≠none) (gd: ∀k,k<3->Gw k≠sysModules/\∀g,HR C g->∃kvs,g.s.heap.DictOf (intKind pw C.w) (Gw k) kvs/\Ϸ (λe x=>e.1=x.1/\VR C g e.2 x.2) (Av k) kvs)
section
variable{C:Ctx}{A:Ϡ}{g:Sg}{R:Type}{r:R}{K:KV R}{H:Hp}{v w:V}{x y:χ}{Q:χ->Χ->Prop}{a b:Int}{c:Nat}{l m:List D}
theorem gA{M N:Type}[DecidableEq M][DecidableEq N]{P:M->N->Prop}{k:M}{j:N}(hk: ∀k' j',P k' j'->(k'=k↔j'=j))(es:List (M×V)): ∀kvs:List (N×χ),Ϸ (λe x=>P e.1 x.1/\VR C g e.2 x.2) es kvs->
 (∀v,look k es=some v->∃x,valueAt kvs j=some x/\VR C g v x)/\(look k es).isSome=(valueAt kvs j).isSome:=by
 induction es with
 |nil=>exact λkvs e=>e▸⟨λv e=>Ϝ e,rfl⟩
 |cons e es ih=>
  rintro _ ⟨x,kvs,rfl,⟨p,V⟩,q⟩
  refine(ih kvs q).elim λi1 i2=>?_
  have q:=hk _ _ p
  by_cases h:e.1=k
  ·have e1:look k (e::es)=some e.2:=if_pos h
   have e2:valueAt (x::kvs) j=some x.2:=congrArg (vV (λkv:N×χ=>kv.2))<|tT (p:=λkv:N×χ=>decide<|kv.1=j)<|decide_eq_true<|q.mp h
   rw[e1,e2]
   exact⟨λv e=>⟨_,rfl,ξ e▸V⟩,rfl⟩
  ·have e1:look k (e::es)=look k es:=if_neg h
   have e2:valueAt (x::kvs) j=valueAt kvs j:=congrArg (vV (λkv:N×χ=>kv.2))<|tS (p:=λkv:N×χ=>decide<|kv.1=j) λz=>h<|q.mpr<|of_decide_eq_true z
   rw[e1,e2]
   exact⟨i1,i2⟩
theorem AF{k:Int}(k' j':Int)(h:k'=j'):k'=k↔j'=k:=h▸Iff.rfl
theorem Mc{k:Nat}(hk:k<c7)(k':Nat)(j':ak)(h:k'<c7/\txt k'=j'):k'=k↔j'=txt k:=
 ⟨λe=>e▸h.2.symm,λe=>eq_of_beq<|(s_ h.1 hk).symm.trans<|beq_iff_eq.mpr<|h.2.trans e⟩
theorem lB(S:dU C)(HR:HR C g){a:ό}(z: ¬g.z a):(a==sysModules)=false:=beq_eq_false_iff_ne.mpr λe=>by
 subst e
 induction h:C.s.heap.get? sysModules with
 |none=>exact S.1 h
 |some o=>exact z (HR.old _ _ h).1
abbrev GI(neg:Bool):rj:=bif neg then .NotIn else .In
theorem in_dict{N:Type}[DecidableEq N]{knd:A1 pw C.w N}{k:N}{d:ό}{kvs:List (N×χ)}{neg:Bool}(hk:knd.is k x=true)(hd:(d==sysModules)=false)(D:g.s.heap.DictOf knd d kvs)(q: ∀t,Q (.bool<|bif neg then !(valueAt kvs k).isSome else(valueAt kvs k).isSome) {g.s with toks:=t}):WP C A (compareOp (GI neg) x<|.ref d) Q g.s:=by
 induction neg with
 |true=>exact wpAny_notIn_of hk hd D.mapOf<|q _
 |false=>exact wpAny_in_of hk hd D.mapOf<|q _
theorem any_eq{z:ό->Prop}{h:ao}{x:D}{u:χ}(sx:fK 6 x=true)(X:DR z h x u): ∀(l:List D)(m:List χ),kF 6 l=true->bg z h l m->((G7 l).any λy=>nW y<|pd x)=fC x l:=λl=>by
 induction l with
 |nil=>exact λ_ _ _=>rfl
 |cons d l ih=>
  intro m s q
  induction q with
  |mk p q=>exact congr (congrArg or<|Ct d x 6 6 _ _ (aL s) sx p X)<|ih _ (aR s) q
theorem xA{T neg:Bool}{d:D}{u:D}(hu:A.units+64<cLine)(X:DR Pg g.s.heap u x)(Y:DR Pg g.s.heap d y)(hd:d=bif T then .tup l else .lst l)(s:(fK 6 u&&kF 6 l)=true)(q:Q (.bool<|bif neg then !fC u l else fC u l) g.s):WP C A (compareOp (GI neg) x y) Q g.s:=by
 refine(an s).elim λs1 s2=>?_
 obtain⟨as,rx⟩:=reads u _ X
 have lx:=lay u 6 _ s1 X
 have room: ∀m,A.units+1+min m (pd u).depth<cLine:=λm=>Τ (aT (η (Nat.min_le_right _ _) lx.2) _) (by omega)
 subst hd
 obtain⟨bs,ry⟩:=reads _ _ Y
 induction T with
 |true=>
  induction Y with
  |mk _ _ _ r=>
   have ll:=RS l 6 _ s2 r
   rw[<-any_eq s1 X l _ s2 r] at q
   induction neg with
   |true=>exact notIn_tuple_reads ry rx ll.1 lx.1 (room _) q
   |false=>exact in_tuple_reads ry rx ll.1 lx.1 (room _) q
 |false=>
  induction Y with
  |mk _ _ _ r=>
   have ll:=RS l 6 _ s2 r
   rw[<-any_eq s1 X l _ s2 r] at q
   induction neg with
   |true=>exact notIn_list_reads ry rx ll.1 lx.1 (room _) q
   |false=>exact in_list_reads ry rx ll.1 lx.1 (room _) q
theorem Dt{neg b c:Bool}(e:some b=some c)(q: ∀t,Q (.bool<|bif neg then !c else c) {g.s with toks:=t})(t:Nat):Q (.bool<|bif neg then !b else b) {g.s with toks:=t}:=ξ e▸q t
theorem Wv(S:dU C)(hu:A.units+64<cLine)(HR:HR C g){neg:Bool}{u:D}{j:Nat}{b:Bool}(e:isIn g.H (.d u) (.obj j)=some b)(X:DR g.z g.s.heap u x)(Y:VR C g (.obj j) y)(q: ∀t,Q (.bool<|bif neg then !b else b) {g.s with toks:=t}):WP C A (compareOp (GI neg) x y) Q g.s:=by
 obtain⟨po,hp⟩: ∃po,g.H.get j=po:=⟨_,rfl⟩
 have e:CQ u po=some b:=hp▸e
 induction po with
 |list l=>
  refine(aC e).elim λs e=>?_
  exact xA hu (Aj X) (I6<|nF HR Y hp) rfl s<|e▸q g.s.toks
 |di es=>
  obtain⟨a,rfl,_,o,z⟩:=bY HR Y hp<|λh=>PO.noConfusion h
  induction o with
  |mk D _ r=>
   cases u with
   |int k=>
    obtain⟨t,rfl⟩:=X
    exact in_dict (fM _ _ k t) (lB S HR z) D.dictOf<|((gA (P:=Eq) (AF (k:=k)) es _ r).2)▸Dt e q
   |_=>exact Ϝ e
 |ds es=>
  obtain⟨a,rfl,_,o,z⟩:=bY HR Y hp<|λh=>PO.noConfusion h
  induction o with
  |mk D _ r=>
   cases u with
   |str k=>
    obtain⟨hk,t,rfl⟩:=X
    exact in_dict (vJ _ _ (txt k) t) (lB S HR z) D<|((gA (Mc hk) es _ r).2)▸Dt e q
   |_=>exact Ϝ e
 |_=>exact Ϝ e
theorem PF:(ϗ 91).all (λa=>match Ec a with|some b=>b== !(Ur (txt 90) (txt a) 0 (txt 90).length 1).isEmpty|none=>true)=true:=by kernel_rfl
theorem Jo(S:dU C)(hu:A.units+64<cLine)(HR:HR C g){neg:Bool}{b:Bool}(e:isIn g.H v w=some b)(X:VR C g v x)(Y:VR C g w y)(q: ∀t,Q (.bool<|bif neg then !b else b) {g.s with toks:=t}):WP C A (compareOp (GI neg) x y) Q g.s:=by
 induction v with
 |d u=>
  induction w with
  |obj j=>exact Wv S hu HR e X Y q
  |gd k=>
   obtain⟨hk,rfl⟩:=Y
   refine(S.2 k hk).elim λns D=>?_
   refine(D g HR).elim λkvs q_=>q_.elim λD r=>?_
   cases u with
   |int k=>
    obtain⟨t,rfl⟩:=X
    exact in_dict (fM _ _ k t) (beq_eq_false_iff_ne.mpr ns) D<|((gA (P:=Eq) (AF (k:=k)) (Av _) _ r).2)▸Dt e q
   |_=>exact Ϝ e
  |d d=>
   cases d with
   |tup l=>
    obtain⟨s,e⟩:=aC<|show(if fK 6 u&&kF 6 l then some (fC u l) else none)=some b from e
    exact xA (T:=true) hu (Aj (x:=u) X) (Aj (x:=.tup l) Y) rfl s<|e▸q g.s.toks
   |lst l=>
    obtain⟨s,e⟩:=aC<|show(if fK 6 u&&kF 6 l then some (fC u l) else none)=some b from e
    exact xA (T:=false) hu (Aj (x:=u) X) (Aj (x:=.lst l) Y) rfl s<|e▸q g.s.toks
   |str k=>
    cases u with
    |str a=>
     refine(bE<|show(if k=90 then Ec a else none)=some b from e).elim λe_0 e'=>?_
     subst e_0
     obtain⟨hk,t,rfl⟩:=X
     obtain⟨_,u,rfl⟩:=Y
     have z:=ϐ.mp PF a<|ϭ.mpr hk
     rw[e'] at z
     have z:=eq_of_beq z
     induction neg with
     |true=>exact P.notIn_str (by have:=q g.s.toks;rw[z] at this;exact this)
     |false=>exact P.in_str (by have:=q g.s.toks;rw[z] at this;exact this)
    |_=>exact Ϝ e
   |_=>exact Ϝ e
  |_=>exact Ϝ e
 |_=>exact Ϝ e
end
end J.Internal
namespace J.Internal
open PySem PySem.W PySem.Calls PyProof.Rows
variable [Key]
noncomputable def ON(n:Nat):rj:=num n [.Eq,.NotEq,.Lt,.LtE,.Gt,.GtE,.In,.NotIn] .Eq
section
variable(C:Ctx)(A:Ϡ)
structure A_(n:Nat)(op:rj):Prop where
 ok: ∀{R:Type}{r:R}{k:Bool->Option R}{H:Hp}{v w:V},cmp n v w H k=some r->∃b,k b=some r
 w: ∀{R:Type}{r:R}{k:Bool->Option R}{g:Sg}{v w:V}{x y:χ}{Q:χ->Χ->Prop},cmp n v w g.H k=some r->HR C g->VR C g v x->VR C g w y->(∀b t,k b=some r->Q (.bool b) {g.s with toks:=t})->WP C A (compareOp op x y) Q g.s
end
section
variable{C:Ctx}{A:Ϡ}
theorem aN{α R:Type}{m:Option α}{f:α->Option R}{r:R}(e:ob m f=some r): ∃a,m=some a/\f a=some r:=by
 induction m with
 |none=>exact Ϝ e
 |some a=>exact⟨a,rfl,e⟩
theorem Hz{n:Nat}{op:rj}{f:Int->Int->Bool}(hf: ∀{R:Type}{k:Bool->Option R}{H:Hp}{v w:V},cmp n v w H k=ii (λa b=>k<|f a b) v w)
 (wp: ∀{s:Χ}{a b:Int}{t u:X7}{Q:χ->Χ->Prop},Q (.bool<|f a b) s->WP C A (compareOp op (.int a t)<|.int b u) Q s):A_ C A n op where
 ok e:=by
  rw[hf] at e
  refine(jg e).elim λa q_=>q_.elim λb q_=>q_.elim λ_ q_=>q_.elim λ_ e=>?_
  exact⟨_,e⟩
 w e HR X Y q:=by
  rw[hf] at e
  obtain⟨a,b,rfl,rfl,e⟩:=jg e
  obtain⟨t,rfl⟩:=X
  obtain⟨u,rfl⟩:=Y
  exact wp<|q _ _ e
theorem Xo(hu:A.units+64<cLine):A_ C A 0 .Eq where
 ok e:=(aN e).imp λ_ q=>q.2
 w e HR X Y q:=by
  obtain⟨b,e,k⟩:=aN e
  obtain⟨d,d',⟨_,r1⟩,⟨_,r2⟩,s1,s2,rfl⟩:=Cw HR e X Y
  exact SeqAt.compareEq_shaped r1 r2 s1 s2 hu<|q _ _ k
theorem Xp(hu:A.units+64<cLine):A_ C A 1 .NotEq where
 ok e:=(aN e).imp λ_ q=>q.2
 w e HR X Y q:=by
  obtain⟨b,e,k⟩:=aN e
  obtain⟨b,e2,rfl⟩:=fH e
  obtain⟨d,d',⟨_,r1⟩,⟨_,r2⟩,s1,s2,rfl⟩:=Cw HR e2 X Y
  exact SeqAt.compareNe_shaped r1 r2 s1 s2 hu<|q _ _ k
theorem Xq(S:dU C)(hu:A.units+64<cLine):A_ C A 6 .In where
 ok e:=(aN e).imp λ_ q=>q.2
 w e HR X Y q:=by
  refine(aN e).elim λb q_=>q_.elim λe k=>?_
  exact Jo (neg:=false) S hu HR e X Y λt=>q _ t k
theorem Xr(S:dU C)(hu:A.units+64<cLine):A_ C A 7 .NotIn where
 ok e:=(aN e).imp λ_ q=>q.2
 w e HR X Y q:=by
  obtain⟨b,e,k⟩:=aN e
  obtain⟨b,e2,rfl⟩:=fH e
  exact Jo (neg:=true) S hu HR e2 X Y λt=>q _ t k
theorem ya(S:dU C)(hu:A.units+64<cLine)(n:Nat)(hn:n<8):A_ C A n (ON n):=by
 rcases n with _|_|_|_|_|_|_|_|n
 ·exact Xo hu
 ·exact Xp hu
 ·exact Hz (f:=λa b=>decide<|a<b) rfl λq=>O8 q
 ·exact Hz (f:=λa b=>decide<|a<=b) rfl λq=>O7 q
 ·exact Hz (f:=λa b=>decide<|b<a) rfl λq=>O6 q
 ·exact Hz (f:=λa b=>decide<|b<=a) rfl λq=>O5 q
 ·exact Xq S hu
 ·exact Xr S hu
 ·exact absurd hn<|ϯ.mpr<|ϣ 8 n
end
abbrev O4(C:Ctx)(g:Sg){R:Type}(K:KV R)(r:R)(Q:Bool->Χ->Prop):Prop:=∀k v b,Le [] g k->HR C k->truth v=some b->K v k.H=some r->Q b k.s
abbrev UH{R:Type}(K:KV R)(r:R):Prop:=∀v H,K v H=some r->(truth v).isSome=true
noncomputable abbrev FE:Type 1:={R:Type}->Env->Hp->KV R->Option R
inductive Pl(pe:Ο)(e:Ϛ):Prop
 |mk (ns: ∀pos xs,backTo pos (starEach (e::xs) pe)=(false,eval e pe)::backTo pos (starEach xs pe)) (fs: ∀v,foldedSetIterable e pe v=pure v) (bm: ∀op,behindInMarks op e=false) (sb: ∀o i,subscripted e false o i=operate [o,i] (getItem o i))
structure ST(C:Ctx)(A:Ϡ)(F:Fn)(pe:Ο)(f:FE)(x:Ϛ):Prop where
 p:Pl pe x
 v:SE C A F pe f (eval x pe)
 t:TE C A F pe f (isTrue x pe<|eval x pe)
section
variable{C:Ctx}{A:Ϡ}{F:Fn}{pe:Ο}{g:Sg}{R:Type}{r:R}{K:KV R}{H:Hp}{v w:V}{x y:χ}{Q:χ->Χ->Prop}{QB:Bool->Χ->Prop}{f f1 f2 f3:FE}{e e1 e2 e3:Ϛ}{n m i:Nat}{env:Env}{pos:gB}{b:Bool}
theorem mG(e:truth v=some b)(V:VR C g v x)(q: ∀t,QB b {g.s with toks:=t}):WP C A (truthy x) QB g.s:=by
 induction v with
 |d d=>
  cases d with
  |none=>cases ξ e;cases V;exact truthy_none<|q g.s.toks
  |bool c=>cases ξ e;cases V;exact iP<|q g.s.toks
  |int i=>
   obtain⟨t,rfl⟩:=V
   exact P.truthy_int<|(ξ e)▸q g.s.toks
  |_=>exact Ϝ e
 |_=>exact Ϝ e
theorem iJ{t:Nat}(hr:HR C g):Le [] g (g.up g.H g.s.heap t):=gh hr LA rfl
theorem jP{t:Nat}(hr:HR C g):HR C (g.up g.H g.s.heap t):=lF hr LA rfl
theorem JI(T:UH K r)(q:O4 C g K r QB):Nd C g K r λy s=>WP C A (truthy y) QB s:=λk v y L hr V e=>
 (cU.mp<|T v _ e).elim λb h=>mG h V λt=>q (k.up k.H k.s.heap t) v b (L.trans<|iJ hr) (jP hr) h e
theorem SE.st(h:SE C A F pe f (eval e pe))(he: ∀whole,isTrue e pe whole=(do let v <-whole;standAt e.pos;holding [v] (truthy v)))(p:Pl pe e):ST C A F pe f e:=⟨p,h,λe o T R fr q=>isTrue_plain (h.2 e o R fr<|JI T q)<|he _⟩
theorem Qn{kd:Nat}:ST C A F pe (λ_ H K=>K (.int n) H) (.Constant (.int n) kd pos):=SE.st ⟨λe o=>o _ _ e,λe o R f q=>wpAny_Constant_int<|bS q R e ki⟩ (λ_=>rfl) ⟨λ_ _=>rfl,λ_=>rfl,λ_=>rfl,λ_ _=>rfl⟩
theorem Qv{kd:Nat}(hn:n<c7):ST C A F pe (λ_ H K=>K (.d<|.str n) H) (.Constant (.str<|txt n) kd pos):=SE.st ⟨λe o=>o _ _ e,λe o R f q=>J3<|bS q R e ⟨hn,_,rfl⟩⟩ (λ_=>rfl) ⟨λ_ _=>rfl,λ_=>rfl,λ_=>rfl,λ_ _=>rfl⟩
theorem Lg{kd:Nat}:ST C A F pe (λ_ H K=>K (.bool b) H) (.Constant (.bool b) kd pos):=SE.st ⟨λe o=>o _ _ e,λe o R f q=>wpAny_Constant_bool<|iz q R e rfl⟩ (λ_=>rfl) ⟨λ_ _=>rfl,λ_=>rfl,λ_=>rfl,λ_ _=>rfl⟩
theorem Lh{kd:Nat}:ST C A F pe (λ_ H K=>K .none H) (.Constant .none kd pos):=SE.st ⟨λe o=>o _ _ e,λe o R f q=>Ip<|iz q R e rfl⟩ (λ_=>rfl) ⟨λ_ _=>rfl,λ_=>rfl,λ_=>rfl,λ_ _=>rfl⟩
theorem Dj{o:Option (Option V)}(e:OI H K o=some r): ∃v,o=some (some v)/\K v H=some r:=by
 induction o with
 |none=>exact Ϝ e
 |some o=>
  induction o with
  |none=>exact Ϝ e
  |some v=>exact⟨v,rfl,e⟩
noncomputable abbrev DG(n:ak):Bool:=!(n==("__debug__"))&& !(n==("__classdict__"))
theorem nt{b:Bool}(h:(!b)=true):b=false:=by induction b with
 |true=>exact ff h
 |false=>rfl
theorem Qp{id:ak}(hi:F.ns i=some id)(hp:DG id=true):ST C A F pe (λenv H K=>OI H K env[i]?) (.Name id pos):=SE.st ⟨λe o=>(Dj e).elim λ_ q=>o _ _ q.2,λe o R f q=>(Dj e).elim λv h=>
 wpAny_Name (zx f hi h.1 (nt (aR hp)) λx V=>iz q R h.2 V) (nt (aL hp))⟩ (λ_=>rfl) ⟨λ_ _=>rfl,λ_=>rfl,λ_=>rfl,λ_ _=>rfl⟩
def kH(C:Ctx)(n:ak)(x:χ):Prop:=∃mg,C.s.heap.Ns mainGlobals mg/\mg n=some x
def mJ(C:Ctx)(n:ak)(x:χ):Prop:=∃mg mb,C.s.heap.Ns mainGlobals mg/\C.s.heap.Ns builtinsNs mb/\mg n=none/\mb n=some x
theorem xX(HR:HR C g){a:ό}{m:ak->Option χ}(q:C.s.heap.Ns a m):g.s.heap.Ns a m:=q.imp λo q=>q.imp λ_ q=>q.imp λ_ q=>⟨(HR.old _ _ q.1).2,q.2⟩
theorem oM{id:ak}(h:kH C id x)(hk:pe.kindOf id=some .globalImplicit)(hd:(id==("__debug__":ak))=false)(HR:HR C g)(f:FR C F pe g env)(q:Q x g.s):WP C A (eval (.Name id pos) pe) Q g.s:=by
 refine h.elim λmg q_=>q_.elim λh1 h2=>?_
 exact EZ f.kind hk (loadGlobal_global (f.glob▸(xX HR h1)) h2 q) hd
theorem i9{id:ak}(h:mJ C id x)(hk:pe.kindOf id=some .globalImplicit)(hd:(id==("__debug__":ak))=false)(HR:HR C g)(f:FR C F pe g env)(q:Q x g.s):WP C A (eval (.Name id pos) pe) Q g.s:=by
 refine h.elim λmg q_=>q_.elim λmb q_=>q_.elim λh1 q_=>q_.elim λh2 q_=>q_.elim λh3 h4=>?_
 exact EZ f.kind hk (loadGlobal_builtin (by rw[f.glob];exact xX HR h1) h3 (by rw[f.blt];exact xX HR h2) h4 q) hd
theorem I8{id:ak}{v:V}(h:kH C id x)(V: ∀g,HR C g->VR C g v x)(hk:pe.kindOf id=some .globalImplicit)(hd:(id==("__debug__":ak))=false):ST C A F pe (λ_ H K=>K v H) (.Name id pos):=SE.st ⟨λe o=>o _ _ e,λe o R f q=>oM h hk hd R f<|iz q R e<|V _ R⟩ (λ_=>rfl) ⟨λ_ _=>rfl,λ_=>rfl,λ_=>rfl,λ_ _=>rfl⟩
theorem b_{k:Sg}(L:Le [] g k)(q:Nd C g K r Q):Nd C k K r Q:=λm v y M=>q m v y<|L.trans M
theorem Qh{op:pO}(h:B2 C A n op)(h1:SE C A F pe f1 (eval e1 pe))(h2:SE C A F pe f2 (eval e2 pe)):ST C A F pe (λenv H K=>f1 env H (CY (f2 env) n K)) (.BinOp e1 op e2 pos):=SE.st ⟨λe o=>h1.1 e λv H e=>h2.1 e λw H e=>h.ok e o,
 λ{R r K env g Q} e o HR f q=>wpAny_BinOp (h1.2 e (λv H e=>h2.1 e λw H e=>h.ok e o) HR f λk v y L HR V e=>h2.2 e (λw H e=>h.ok e o) HR (f.le L) λk' w y' M HR' W e=>h.w e o HR' (M.v _ _ V) W (b_ (L.trans M) q))⟩ (λ_=>rfl) ⟨λ_ _=>rfl,λ_=>rfl,λ_=>rfl,λ_ _=>rfl⟩
theorem sO(e:xO K v H=some r): ∃i,v= .int i/\K (.int<|-i) H=some r:=by
 induction v with
 |d x=>
  cases x with
  |int i=>
   rcases i with(_|_|_|i)|i
   ·exact Ϝ e
   ·exact⟨1,rfl,e⟩
   ·exact⟨2,rfl,e⟩
   ·induction i<;>exact Ϝ e
   ·exact Ϝ e
  |_=>exact Ϝ e
 |_=>exact Ϝ e
theorem Qt(h1:SE C A F pe f1 (eval e1 pe)):ST C A F pe (λenv H K=>f1 env H (xO K)) (.UnaryOp .USub e1 pos):=SE.st ⟨λe o=>h1.1 e λv H e=>(sO e).elim λ_ q=>o _ _ q.2,
 λ{R r K env g Q} e o HR f q=>XK (h1.2 e (λv H e=>(sO e).elim λ_ q=>o _ _ q.2) HR f λk v y L HR V e=>by
  obtain⟨i,rfl,e2⟩:=sO e
  obtain⟨t,rfl⟩:=V
  exact O9 (bS (b_ L q) HR e2 ki))⟩ (λ_=>rfl) ⟨λ_ _=>rfl,λ_=>rfl,λ_=>rfl,λ_ _=>rfl⟩
theorem jv(e:qu K v H=some r): ∃b,truth v=some b/\K (.bool<|!b) H=some r:=by
 induction h:truth v with
 |none=>
  unfold qu at e
  rw[h] at e
  exact Ϝ e
 |some b=>
  unfold qu at e
  rw[h] at e
  exact⟨b,rfl,e⟩
theorem Qu(h1:ST C A F pe f1 e1):ST C A F pe (λenv H K=>f1 env H<|qu K) (.UnaryOp .Not e1 pos) where
 p:=⟨λ_ _=>rfl,λ_=>rfl,λ_=>rfl,λ_ _=>rfl⟩
 v:=⟨λe o=>h1.v.1 e λv H e=>(jv e).elim λ_ q=>o _ _ q.2,
  λ{R r K env g Q} e o HR f q=>XK (h1.v.2 e (λv H e=>(jv e).elim λ_ q=>o _ _ q.2) HR f λk v y L HR V e=>(jv e).elim λb h=>not_of (mG h.1 V λt=>bS (b_ L q) HR h.2 rfl))⟩
 t:=λ{R r K env g Q} e o T HR f q=>isTrue_not (h1.t e (λv H e=>(jv e).elim λ_ q=>o _ _ q.2) (λv H e=>(jv e).elim λb h=>h.1▸rfl) HR f λk v b L HR h e=>(jv e).elim λb' h'=>q k (.bool (!b)) _ L HR rfl (by
  cases ξ (h.symm.trans h'.1)
  exact h'.2))
theorem I7{op:rj}(hm:behindInMarks op e2=false)(ok: ∀{R:Type}{r:R}{K:KV R}{env:Env}{H:Hp},f env H K=some r->eo K r->H.ok)
 (w: ∀{R:Type}{r:R}{K:KV R}{env:Env}{g:Sg}{Q:χ->Χ->Prop},f env g.H K=some r->eo K r->HR C g->FR C F pe g env->Nd C g K r Q->WP C A (eval e1 pe) (λa s=>WP C A (eval e2 pe) (λb s=>WP C A (compareOp op a b) Q s) s) g.s):ST C A F pe f (.Compare e1 [op] [e2] pos) where
 p:=⟨λ_ _=>rfl,λ_=>rfl,λ_=>rfl,λ_ _=>rfl⟩
 v:=⟨ok,λe o HR f q=>wpAny_Compare1 (w e o HR f q) hm⟩
 t:=λe o T HR f q=>wpAny_isTrue_Compare1 (w e o HR f<|JI T q) hm
theorem LX{p:Nat}(V:VR C g v y):(bif p==0 then !(y== .none) else(y== .none))=iw p v:=by
 induction v with
 |d d=>
  cases d with
  |none=>cases V;induction p<;>rfl
  |bool c=>cases V;induction p<;>rfl
  |int i=>obtain⟨t,rfl⟩:=V;induction p<;>rfl
  |str i=>obtain⟨_,t,rfl⟩:=V;induction p<;>rfl
  |tup l=>cases V;induction p<;>rfl
  |lst l=>cases V;induction p<;>rfl
 |obj i=>cases V;induction p<;>rfl
 |ins c i=>cases V;induction p<;>rfl
 |gd i=>cases V.2;induction p<;>rfl
 |Μ=>cases V;induction p<;>rfl
noncomputable abbrev YM(p:Nat):rj:=bif p==0 then .IsNot else .Is
theorem Qo{p:Nat}{kd:Nat}{pos':gB}(h1:SE C A F pe f1 (eval e1 pe)):ST C A F pe (λenv H K=>f1 env H<|C3 p K) (.Compare e1 [YM p] [.Constant .none kd pos'] pos):=
 I7 (by induction p<;>rfl) (λe o=>h1.1 e λv H e=>o _ _ e) λ{R r K env g Q} e o HR f q=>h1.2 e (λv H e=>o _ _ e) HR f λk v y L HR V e=>Ip (by
  have z:=iz (b_ L q) HR e rfl
  rw[<-LX V] at z
  induction p with
  |zero=>exact isNot_none z
  |succ p=>exact is_none z)
theorem VS{op:rj}(h:A_ C A n op)(hm:behindInMarks op e2=false)(h1:SE C A F pe f1 (eval e1 pe))(h2:SE C A F pe f2 (eval e2 pe)):ST C A F pe (λenv H K=>f1 env H<|Ro (f2 env) n K) (.Compare e1 [op] [e2] pos):=
 I7 hm (λe o=>h1.1 e λv H e=>h2.1 e λw H e=>(h.ok e).elim λb e=>o _ _ e) λ{R r K env g Q} e o HR f q=>h1.2 e (λv H e=>h2.1 e λw H e=>(h.ok e).elim λb e=>o _ _ e) HR f λk v y L HR V e=>
  h2.2 e (λw H e=>(h.ok e).elim λb e=>o _ _ e) HR (f.le L) λk' w y' M HR' W e=>h.w e HR' (M.v _ _ V) W λb t e=>bS (b_ (L.trans M) q) HR' e rfl
theorem uA{op:rj}(h:A_ C A m op)(h3:SE C A F pe f3 (eval e3 pe))(e:Rk (f3 env) m w H K b=some r)(o:eo K r):H.ok:=by
 induction b with
 |false=>exact o _ _ e
 |true=>exact h3.1 e λw H e=>(h.ok e).elim λb e=>o _ _ e
theorem uY{k:Sg}(L:Le [] g k)(q:O4 C g K r QB):O4 C k K r QB:=λm v b M=>q m v b<|L.trans M
theorem zk(q:O4 C g K r QB)(hr:HR C g){t:Nat}(e:K (.bool b) g.H=some r):QB b {g.s with toks:=t}:=q (g.up g.H g.s.heap t) (.bool b) b (iJ hr) (jP hr) rfl e
theorem VQ{op op':rj}(h:A_ C A n op)(h':A_ C A m op')(hm:behindInMarks op' e3=false)(h1:SE C A F pe f1 (eval e1 pe))(h2:SE C A F pe f2 (eval e2 pe))(h3:SE C A F pe f3 (eval e3 pe)):ST C A F pe (λenv H K=>f1 env H<|Rj (f2 env) (f3 env) n m K) (.Compare e1 [op,op'] [e2,e3] pos) where
 p:=⟨λ_ _=>rfl,λ_=>rfl,λ_=>rfl,λ_ _=>rfl⟩
 v:=⟨λe o=>h1.1 e λv H e=>h2.1 e λw H e=>(h.ok e).elim λb e=>uA h' h3 e o,λ{R r K env g Q} e o hr f q=>by
  rw[arm_eval_Compare]
  have hm:markedEach [op,op'] [e2,e3] (evalEach [e2,e3] pe)=[eval e2 pe,eval e3 pe]:=by
   show [eval e2 pe,markedBehindIn op' e3<|eval e3 pe]=_
   rw[markedBehindIn_of_false hm]
  rw[hm]
  refine ο<|h1.2 e (λv H e=>h2.1 e λw H e=>(h.ok e).elim λb e=>uA h' h3 e o) hr f λk v y L hr V e=>?_
  refine ο<|ύ<|h2.2 e (λw H e=>(h.ok e).elim λb e=>uA h' h3 e o) hr (f.le L) λk' w y' M hr' W e=>?_
  refine ο<|aE<|ο<|ύ<|h.w e hr' (M.v _ _ V) W λb t e=>?_
  refine ο<|nq<|ο<|ύ<|iP ?_
  have L2:=L.trans M
  induction b with
  |false=>exact Η<|bS (b_ L2 q) hr' e rfl
  |true=>
   have hr2:=jP (t:=t) hr'
   have T:=iJ (t:=t) hr'
   refine ο<|ύ<|h3.2 (g:=k'.up k'.H k'.s.heap t) e (λw H e=>(h'.ok e).elim λb e=>o _ _ e) hr2 (f.le<|L2.trans T) λk3 u y3 N hr3 U e=>?_
   exact ο (aE (TX (h'.w e hr3 ((T.trans N).v _ _ W) U λb t e=>bS (b_ ((L2.trans T).trans N) q) hr3 e rfl)))⟩
 t:=λ{R r K env g QB} e o T hr f q=>by
  refine isTrue_chain (rs:=[]) (ops:=[]) (h1.2 e (λv H e=>h2.1 e λw H e=>(h.ok e).elim λb e=>uA h' h3 e o) hr f λk v y L hr V e=>?_) hm
  refine ο<|ύ<|h2.2 e (λw H e=>(h.ok e).elim λb e=>uA h' h3 e o) hr (f.le L) λk' w y' M hr' W e=>?_
  refine ο<|aE<|ο<|ύ<|h.w e hr' (M.v _ _ V) W λb t e=>?_
  refine ο<|nq<|ο<|ύ<|iP ?_
  have L2:=L.trans M
  induction b with
  |false=>exact Η<|zk (uY L2 q) hr' e
  |true=>
   show WP C A (testChain pos y' [op'] [eval e3 pe]) QB _
   have hr2:=jP (t:=t) hr'
   have T:=iJ (t:=t) hr'
   refine ο<|ύ<|h3.2 (g:=k'.up k'.H k'.s.heap t) e (λw H e=>(h'.ok e).elim λb e=>o _ _ e) hr2 (f.le<|L2.trans T) λk3 u y3 N hr3 U e=>?_
   refine ο<|aE<|ο<|TX<|h'.w e hr3 ((T.trans N).v _ _ W) U λb t e=>?_
   exact ύ<|iP<|zk (uY ((L2.trans T).trans N) q) hr3 e
theorem mq{κ:Type}{f g:Run R κ}{K:κ}(e:iH f g K v H=some r): ∃b,truth v=some b/\(bif b then f H K else g H K)=some r:=by
 induction h:truth v with
 |none=>
  unfold iH at e
  rw[h] at e
  exact Ϝ e
 |some b=>
  unfold iH at e
  rw[h] at e
  induction b<;>exact⟨_,rfl,e⟩
theorem CM(h2:SE C A F pe f2 (eval e2 pe))(h3:SE C A F pe f3 (eval e3 pe))(e:iH (f2 env) (f3 env) K v H=some r)(o:eo K r):H.ok:=by
 obtain⟨b,_,e⟩:=mq e
 induction b with
 |false=>exact h3.1 e o
 |true=>exact h2.1 e o
theorem xw{κ:Type}{f g:Run R κ}{K:κ}:UH (iH f g K) r:=λv H e=>(mq e).elim λb h=>h.1▸rfl
theorem VV(h1:ST C A F pe f1 e1)(h2:ST C A F pe f2 e2)(h3:ST C A F pe f3 e3):ST C A F pe (λenv H K=>f1 env H<|iH (f2 env) (f3 env) K) (.IfExp e1 e2 e3 pos) where
 p:=⟨λ_ _=>rfl,λ_=>rfl,λ_=>rfl,λ_ _=>rfl⟩
 v:=⟨λe o=>h1.v.1 e λv H e=>CM h2.v h3.v e o,λ{R r K env g Q} e o hr f q=>wpAny_IfExp (h1.t e (λv H e=>CM h2.v h3.v e o) xw hr f λk v b L hr h e=>by
  obtain⟨b',h',e⟩:=mq e
  cases ξ (h.symm.trans h')
  induction b with
  |false=>exact h3.v.2 e o hr (f.le L)<|b_ L q
  |true=>exact h2.v.2 e o hr (f.le L) (b_ L q))⟩
 t:=λ{R r K env g Q} e o T hr f q=>isTrue_IfExp (h1.t e (λv H e=>CM h2.v h3.v e o) xw hr f λk v b L hr h e=>by
  obtain⟨b',h',e⟩:=mq e
  cases ξ (h.symm.trans h')
  induction b with
  |false=>exact h3.t e o T hr (f.le L)<|uY L q
  |true=>exact h2.t e o T hr (f.le L) (uY L q))
noncomputable abbrev US(n:Nat):BoolOp:=bif n==0 then .Or else .And
theorem nA{f:Run R (KV R)}(e:k_ f n K v H=some r): ∃b,truth v=some b/\(if b=(n !=0) then f H K else K v H)=some r:=by
 induction h:truth v with
 |none=>
  unfold k_ at e
  rw[h] at e
  exact Ϝ e
 |some b=>
  unfold k_ at e
  rw[h] at e
  exact⟨b,rfl,e⟩
structure SO(C:Ctx)(A:Ϡ)(F:Fn)(pe:Ο)(n:Nat)(f:FE)(l:List Ϛ):Prop where
 ok: ∀{R:Type}{r:R}{K:KV R}{env:Env}{H:Hp},f env H K=some r->eo K r->H.ok
 w: ∀{R:Type}{r:R}{K:KV R}{env:Env}{g:Sg}{Q:χ->Χ->Prop}(pos:gB),f env g.H K=some r->eo K r->HR C g->FR C F pe g env->Nd C g K r Q->WP C A (boolOp pos (US n)<|evalEach l pe) Q g.s
 t: ∀{R:Type}{r:R}{K:KV R}{env:Env}{g:Sg}{Q:Bool->Χ->Prop},f env g.H K=some r->eo K r->UH K r->HR C g->FR C F pe g env->O4 C g K r Q->WP C A (allTrue (US n) l pe) Q g.s
theorem Nz(h:ST C A F pe f1 e1):SO C A F pe n f1 [e1] where
 ok:=h.v.1
 w pos e o hr f q:=h.v.2 e o hr f q
 t {R r K env g Q} e o T hr f q:=by
  rw[Oo]
  refine ο<|h.t e o T hr f λk v b L hr h e=>?_
  have z:=q k v b L hr h e
  induction n<;>induction b<;>exact Η z
theorem wV{l:List Ϛ}(h:SO C A F pe n f2 l)(e:k_ (f2 env) n K v H=some r)(o:eo K r):H.ok:=by
 refine(nA e).elim λb q_=>q_.elim λ_ e=>?_
 by_cases hb:b=(n !=0)
 ·rw[if_pos hb] at e;exact h.ok e o
 ·rw[if_neg hb] at e;exact o _ _ e
theorem HM{l:List Ϛ}(h:ST C A F pe f1 e1)(h2:SO C A F pe n f2 (e2::l)):SO C A F pe n (λenv H K=>f1 env H<|k_ (f2 env) n K) (e1::e2::l) where
 ok e o:=h.v.1 e λv H e=>wV h2 e o
 w {R r K env g Q} pos e o hr f q:=by
  refine ο<|h.v.2 e (λv H e=>wV h2 e o) hr f λk v y L hr V e=>?_
  obtain⟨b,tv,e⟩:=nA e
  refine ο<|aE<|ο<|ύ<|mG tv V λt=>?_
  have L2:=L.trans<|iJ (t:=t) hr
  by_cases hb:b=(n !=0)
  ·rw[if_pos hb] at e
   have z:=h2.w (g:=k.up k.H k.s.heap t) pos e o (jP (t:=t) hr) (f.le L2)<|b_ L2 q
   subst hb
   induction n<;>exact z
  ·rw[if_neg hb] at e
   have z:=bS (t:=t) (b_ L q) hr e V
   induction b<;>induction n<;>first|exact absurd rfl hb|exact Η z
 t {R r K env g Q} e o T hr f q:=by
  rw[Oo]
  refine ο<|h.t e (λv H e=>wV h2 e o) (λv H e=>(nA e).elim λb h=>h.1▸rfl:UH (k_ (f2 env) n K) r) hr f λk v b L hr tv e=>?_
  obtain⟨b',tv',e⟩:=nA e
  cases ξ (tv.symm.trans tv')
  by_cases hb:b=(n !=0)
  ·rw[if_pos hb] at e
   have z:=h2.t e o T hr (f.le L)<|uY L q
   subst hb
   induction n<;>exact z
  ·rw[if_neg hb] at e
   have z:=q k v b L hr tv e
   induction b<;>induction n<;>first|exact absurd rfl hb|exact Η z
theorem Qi{l:List Ϛ}(h:SO C A F pe n f l):ST C A F pe f (.BoolOp (US n) l pos) where
 p:=⟨λ_ _=>rfl,λ_=>rfl,λ_=>rfl,λ_ _=>rfl⟩
 v:=⟨h.ok,λe o hr f q=>by
  rw[arm_eval_BoolOp]
  exact h.w pos e o hr f q⟩
 t e o T hr f q:=wpAny_isTrue_BoolOp<|h.t e o T hr f q
noncomputable abbrev FL:Type 1:={R:Type}->Env->Hp->KL R->Option R
end
abbrev Nl(C:Ctx)(g:Sg)(n:Nat){R:Type}(K:KL R)(r:R)(Q:List χ->Χ->Prop):Prop:=∀k vs ys,vs.length=n->Le [] g k->HR C k->Ϸ (VR C k) vs ys->K vs k.H=some r->Q ys k.s
structure SL(C:Ctx)(A:Ϡ)(F:Fn)(pe:Ο)(f:FL)(xs:List Ϛ):Prop where
 ok: ∀{R:Type}{r:R}{K:KL R}{env:Env}{H:Hp},f env H K=some r->eo K r->H.ok
 w: ∀{R:Type}{r:R}{K:KL R}{env:Env}{g:Sg}{Q:List χ->Χ->Prop}(pos:gB),f env g.H K=some r->eo K r->HR C g->FR C F pe g env->Nl C g xs.length K r Q->WP C A (spliced<|backTo pos<|starEach xs pe) Q g.s
 star: ∀pos,(backTo pos<|starEach xs pe).any (·.1)=false
 arg: ∀{Q:List χ->Χ->Prop}{s:Χ}{c:χ}(pos:gB),WP C A (spliced<|backTo pos<|starEach xs pe) Q s->WP C A (evalArgs c true (backTo pos<|starEach xs pe) []) (λa s=>∃ys,a=⟨ys,[]⟩/\Q ys s) s
section
variable{C:Ctx}{A:Ϡ}{F:Fn}{pe:Ο}{g:Sg}{R:Type}{r:R}{K:KV R}{H:Hp}{v w:V}{x y:χ}{Q:χ->Χ->Prop}{QB:Bool->Χ->Prop}{f f1 f2 f3:FE}{fl:FL}{e e1 e2 e3:Ϛ}{xs:List Ϛ}{n m i:Nat}{env:Env}{pos:gB}{b:Bool}
theorem RB:SL C A F pe (λ_ H K=>K [] H) [] where
 ok e o:=o _ _ e
 w {R r K env g Q} pos e o hr f q:=zS<|q g [] [] rfl .refl hr rfl e
 star _:=rfl
 arg {Q s c} pos h:=by
  refine ο<|cI h (λys s h=>?_) λ_ _ e=>e
  refine ο<|Η ?_
  refine ύ ?_
  exact ο<|Η<|ο<|Η<|Η ⟨ys,rfl,h⟩
theorem Me(h1:ST C A F pe f1 e)(h2:SL C A F pe fl xs):SL C A F pe (λenv H K=>f1 env H<|Ru (fl env) K) (e::xs) where
 ok e o:=h1.v.1 e λv H e=>h2.ok e λw H e=>o _ _ e
 w {R r K env g Q} pos e o hr f q:=by
  rw[h1.p.1]
  exact kB (h1.v.2 e (λv H e=>h2.ok e λw H e=>o _ _ e) hr f λk v y L hr V e=>h2.w pos e (λw H e=>o _ _ e) hr (f.le L) λk' vs ys z M hr' W e=>q k' (v::vs) (y::ys) (congrArg (· +1) z) (L.trans M) hr' ⟨y,ys,rfl,M.v _ _ V,W⟩ e)
 star pos:=by
  rw[h1.p.1]
  exact h2.star pos
 arg {Q s c} pos h:=by
  rw[h1.p.1] at h⊢
  exact vp<|cI h (λys s h=>⟨ys,rfl,h⟩) λ_ _ e=>e
theorem yD{xs:List D}{vs:List V}(e:jc vs=some xs): ∀ys,Ϸ (VR C g) vs ys->bg g.z g.s.heap xs ys/\xs.length=vs.length:=by
 induction vs generalizing xs with
 |nil=>
  cases ξ e
  exact λys h=>⟨h,rfl⟩
 |cons v vs ih=>
  induction v with
  |d x=>
   obtain⟨xs,e1,rfl⟩:=fH (show(jc vs).map (x:: ·)=some xs from e)
   rintro _ ⟨y,ys,rfl,V,W⟩
   refine(ih e1 ys W).elim λi1 i2=>?_
   exact⟨.mk V i1,congrArg (· +1) i2⟩
  |_=>exact Ϝ e
theorem bQ{α β:Type}{S:α->β->Prop}{l:List α}: ∀m,Ϸ S l m->l.length=m.length:=by
 induction l with
 |nil=>exact λm h=>(show m=[] from h)▸rfl
 |cons a l ih=>
  rintro _ ⟨b,m,rfl,_,h⟩
  exact congrArg (· +1)<|ih m h
theorem s9{vs:List V}(e:xP K vs H=some r): ∃xs,jc vs=some xs/\K (.tup xs) H=some r:=by
 unfold xP at e
 induction h:jc vs with
 |none=>rw[h] at e;exact Ϝ e
 |some xs=>rw[h] at e;exact⟨xs,rfl,e⟩
theorem BG{a b c:Nat}(h:a=b)(hz:b<=100)(h2:a=c):c<=sizeLine/\a<=big:=by
 rw[show sizeLine=16777216 by decide,show big=1000000 from rfl]
 omega
theorem Qw{kd:Nat}(h:SL C A F pe fl xs)(hz:xs.length<=100):ST C A F pe (λenv H K=>fl env H (xP K)) (.Tuple xs kd pos):=SE.st ⟨λe o=>h.ok e λw H e=>(s9 e).elim λ_ q=>o _ _ q.2,
 λ{R r K env g Q} e o hr f q=>wpAny_Tuple (h.w pos e (λw H e=>(s9 e).elim λ_ q=>o _ _ q.2) hr f λk vs ys hl L hr V e=>by
  refine(s9 e).elim λus q_=>q_.elim λe1 e=>?_
  refine(yD e1 ys V).elim λU ul=>?_
  have z:=BG hl hz<|bQ ys V
  exact⟨z.1,mz (T:=true) (its:=ys.toArray) (n:=0) (b_ L q) hr (Gr.push _ _) (ϱ _) (ai rfl) rfl U (ul▸z.2) e⟩)⟩ (λ_=>rfl) ⟨λ_ _=>rfl,λ_=>rfl,λ_=>rfl,λ_ _=>rfl⟩
theorem lst_inv{vs:List V}{c:Nat}(e:oS c K vs H=some r):(c=2/\K (.obj H.c.length) (H.new<|.vl vs)=some r)∨∃xs,jc vs=some xs/\((c=0/\K (.lst xs) H=some r)∨K (.obj H.c.length) (H.new<|.list xs)=some r):=by
 rcases c with _|_|_|c
 ·unfold oS at e
  induction h:jc vs with
  |none=>rw[h] at e;exact Ϝ e
  |some xs=>rw[h] at e;exact .inr ⟨xs,rfl,.inl ⟨rfl,e⟩⟩
 ·unfold oS at e
  induction h:jc vs with
  |none=>rw[h] at e;exact Ϝ e
  |some xs=>rw[h] at e;exact .inr ⟨xs,rfl,.inr e⟩
 ·exact .inl ⟨rfl,e⟩
 ·unfold oS at e
  induction h:jc vs with
  |none=>rw[h] at e;exact Ϝ e
  |some xs=>rw[h] at e;exact .inr ⟨xs,rfl,.inr e⟩
theorem xV{po:PO}{h:ao}{t:Nat}{a:ό}(q:Nd C g K r Q)(hr:HR C g)(x:Gr g.s.heap h)(n0:g.s.heap.get? a=none)(y:h.get? a≠none)(hc:H.c=g.H.c)(o:OR C (g.new a (H.new po) h t) a po)(e:K (.obj H.c.length) (H.new po)=some r):Q (.ref a) (g.new a (H.new po) h t).s:=
 q (g.new a (H.new po) h t) (.obj H.c.length) _ (o7 hr x n0 (congrArg (· ++[_]) hc)) (xW hr x n0 y (congrArg (· ++[po]) hc) o) (show Uy (g.new a (H.new po) h t) _ _ from .mk (sR<|hr.len.trans<|congrArg au hc.symm)) e
theorem mC{po:PO}(o:eo K r)(e:K v (H.new po)=some r):H.ok:=show(H.new po).ok from o _ _ e
theorem Qq{c:Nat}(h:SL C A F pe fl xs)(hz:xs.length<=100):ST C A F pe (λenv H K=>fl env H<|oS c K) (.List xs pos):=
 have ok {R:Type} {r:R} {K:KV R} {vs:List V} {H:Hp} (e:oS c K vs H=some r) (o:eo K r):H.ok:=(lst_inv e).elim (λq=>mC o q.2) λq=>q.elim λ_ q=>q.2.elim (λq=>o _ _ q.2) λq=>mC o q
 SE.st ⟨λe o=>h.ok e λw H e=>ok e o,
 λ{R r K env g Q} e o hr f q=>wpAny_List (h.w pos e (λw H e=>ok e o) hr f λk vs ys hl L hr V e=>by
  have z:=BG hl hz<|bQ ys V
  refine⟨z.1,?_⟩
  have L2:Le [] k (k.new k.s.heap.objs.size (k.H.new<|.vl vs) (k.s.heap.push<|gn false ys.toArray 0) k.s.toks):=o7 hr (Gr.push _ _) (ϱ _) rfl
  rcases lst_inv e with⟨_,e⟩|⟨us,e1,e⟩
  ·exact xV (po:=.vl vs) (h:=k.s.heap.push<|gn false ys.toArray 0) (t:=k.s.toks) (b_ L q) hr (Gr.push _ _) (ϱ _) (ϖ<|ai rfl) rfl (show Iz _ _ _ _ from .mk (ai rfl) z.2 (V.mono L2.v)) e
  ·obtain⟨U,ul⟩:=yD e1 ys V
   rcases e with⟨_,e⟩|e
   ·exact mz (T:=false) (its:=ys.toArray) (n:=0) (b_ L q) hr (Gr.push _ _) (ϱ _) (ai rfl) rfl U (ul▸z.2) e
   ·exact xV (po:=.list us) (h:=k.s.heap.push (gn false ys.toArray 0)) (t:=k.s.toks) (b_ L q) hr (Gr.push _ _) (ϱ _) (ϖ (ai rfl)) rfl (show Iz _ _ _ _ from .mk (ai rfl) (ul▸z.2) (bg.mono L2.zz L2.im _ _ U)) e)⟩ (λ_=>rfl) ⟨λ_ _=>rfl,λ_=>rfl,λ_=>rfl,λ_ _=>rfl⟩
end
end J.Internal
namespace J.Internal
open PySem PySem.W PySem.Calls PyProof.Rows Builtin Builtin.ObjectAttr
variable [Key]
noncomputable def kE(f:Nat):ό:=(Ze[f]?).getD 0
abbrev vN(C:Ctx)(a:ό):Prop:=∃fd,C.s.heap.get? a=some {cls:=.type "function",data:=.func fd}
inductive U1(C:Ctx)(c:Nat):Prop
 |mk (look: ∀n,n<c7->cO (model pw C.w) C.s.heap (typeLookup (.ref<|ju c)<|txt n) ((gT c n).map λf=>.ref<|kE f)) (fns: ∀n f,gT c n=some f->vN C (kE f)) (ga:cO (model pw C.w) C.s.heap (typeLookup (.ref<|ju c) "__getattribute__") (some<|.builtin "object.__getattribute__")) (ga2:cO (model pw C.w) C.s.heap (typeLookup (.ref<|ju c) "__getattr__") none) (sa:cO (model pw C.w) C.s.heap (typeLookup (.ref<|ju c) "__setattr__") (some<|.builtin "object.__setattr__")) (ini:cO (model pw C.w) C.s.heap (typeLookup (.ref<|ju c) "__init__") (some (match dZ c with|some f=>.ref (kE f)|none=>.builtin "object.__init__"))) (inf: ∀f,dZ c=some f->vN C (kE f)) (mkr:Makes (model pw C.w) C.s.heap (ju c)) (cd: ∃cd sl,C.s.heap.get? (ju c)=some {cls:=.type "type",data:=.cls cd,slots:=sl}/\cd.hasDict=true/\onlyObject cd.mro=true)
abbrev nQ(C:Ctx):Prop:=∀c,c<19->U1 C c
section
variable{C:Ctx}{A:Ϡ}{g:Sg}{R:Type}{r:R}{K:KV R}{H:Hp}{v w:V}{x y:χ}{Q:χ->Χ->Prop}{n m i c:Nat}{es:List (Nat×V)}{a d:ό}{ds:List ϧ}
inductive Uu(C:Ctx)(g:Sg)(c i:Nat)(es:List (Nat×V))(a d:ό)(ds:List ϧ)(n:Nat):Prop
 |mk (cis:U1 C c) (ea:g.r[i]? =some d) (ob:g.s.heap.get? a=some (instObj (ju c) d)) (di:g.s.heap.get? d=some (dictOf ds n)) (ar:Ϸ (J7 C g) es ds) (nz: ¬g.z d)
theorem xB(S:nQ C)(hr:HR C g)(X:VR C g (.ins c i) x)(e:g.H.get i= .at es): ∃a d ds n,x= .ref a/\Uu C g c i es a d ds n:=by
 induction X with
 |mk hc ed z ho=>
  refine(hr.at_ i _ _ (get_some e<|λh=>PO.noConfusion h) ed).elim λo nz=>?_
  induction o with
  |mk e' r=>exact⟨_,_,_,_,rfl,S _ hc,ed,ho,e',r,nz.resolve_left λh=>PO.noConfusion h⟩
theorem Uu.type{M:Model}(I:Uu C g c i es a d ds m):cO M g.s.heap (typeOf<|.ref a) (.ref<|ju c):=(gj I.3).andThen .now
theorem c6{α:Type}{t:Kh α}{r:α}(hr:HR C g)(l:cO (model pw C.w) C.s.heap t r):cO (model pw C.w) g.s.heap t r:=l.keeps λa o e=>(hr.old a o e).2
theorem qT{t:X7}(h:i<c7)(h':n<c7):(Value.str (txt i) t).isStr (txt n)=(i==n):=s_ h h'
theorem yt(hn:n<c7): ∀ds,Ϸ (J7 C g) es ds->(∀v,look n es=some v->∃e,ds.find? (·.key.isStr (txt n))=some e/\VR C g v e.val)/\(look n es=none->ds.find? (·.key.isStr (txt n))=none):=by
 induction es with
 |nil=>exact λds h=>h▸⟨λv e=>Ϝ e,λ_=>rfl⟩
 |cons x es ih=>
  rintro _ ⟨e,ds,rfl,⟨hk,⟨t,he⟩,V⟩,r⟩
  refine(ih ds r).elim λh1 h2=>?_
  have q:e.key.isStr (txt n)=(x.1==n):=by rw[he];exact qT hk hn
  by_cases h:x.1=n
  ·have e1:look n (x::es)=some x.2:=if_pos h
   have e2:(e::ds).find? (·.key.isStr (txt n))=some e:=tT<|q.trans<|beq_iff_eq.mpr h
   rw[e1,e2]
   exact⟨λv e=>⟨_,rfl,ξ e▸V⟩,λe=>Ϝ e.symm⟩
  ·have e1:look n (x::es)=look n es:=if_neg h
   have e2:(e::ds).find? (·.key.isStr (txt n))=ds.find? (·.key.isStr (txt n)):=tS (by rw[q];exact λz=>h<|eq_of_beq z)
   rw[e1,e2]
   exact⟨h1,h2⟩
theorem tZ: ∀ds,Ϸ (J7 C g) es ds->ds.any (·.refKey)=false:=by
 induction es with
 |nil=>exact λds h=>h▸rfl
 |cons x es ih=>
  rintro _ ⟨e,ds,rfl,⟨_,⟨t,he⟩,_⟩,r⟩
  have q:e.refKey=false:=by unfold XZ;rw[he]
  rw[kC,q,ih ds r];rfl
theorem AV{z:χ}(V:VR C g v z):handedOut z=pure z:=by
 induction v with
 |d d=>
  cases d with
  |none=>cases V;rfl
  |bool b=>cases V;rfl
  |int i=>obtain⟨t,rfl⟩:=V;rfl
  |str i=>obtain⟨_,t,rfl⟩:=V;rfl
  |tup l=>cases V;rfl
  |lst l=>cases V;rfl
 |obj i=>cases V;rfl
 |ins c i=>cases V;rfl
 |gd i=>cases V.2;rfl
 |Μ=>cases V;rfl
theorem looks_own{M:Model}{name:ak}{r:Option χ}(hr:HR C g)(I:Uu C g c i es a d ds m)(e:lookIn name (dictOf ds m)=some r):cO M g.s.heap (inOwnDict name<|.ref a) r:=by
 refine I.1.9.elim λcd q_=>q_.elim λsl q_=>q_.elim λhc q_=>q_.elim λhh ho=>?_
 intro A Q E s kk q
 refine ο<|ο<|eU (kk _ _ I.3) ?_
 unfold instanceDict
 refine ο<|eU (kk _ _ I.3) ?_
 dsimp only
 refine ο<|((gj (hr.old _ _ hc).2).andThen .now:cO M g.s.heap (classData<|ju c) cd) A _ E s kk ?_
 rw[hh]
 refine Η ?_
 refine ο<|eU (kk _ _ I.4) ?_
 rw[nsLook_of e];exact Η q
theorem uU{name:ak}{e:ϧ}(h:ds.find? (·.key.isStr name)=some e):lookIn name (dictOf ds m)=some (some e.val):=by
 unfold lookIn
 simp only[dictOf,jV,h]
theorem uT{name:ak}(a:Ϸ (J7 C g) es ds)(e:ds.find? (·.key.isStr name)=none):lookIn name (dictOf ds m)=some none:=by
 unfold lookIn
 simp only[dictOf,jV,e,tZ ds a,kG,if_false]
theorem Ky{po:PO}(e:Oq n po=some v): ∃es,po= .at es/\look n es=some v:=by
 induction po with
 |«at» es=>exact⟨es,rfl,e⟩
 |_=>exact Ϝ e
theorem By(e:ϸ H n v=some w): ∃c i es,v= .ins c i/\gT c n=none/\H.get i= .at es/\look n es=some w:=by
 induction v with
 |ins c i=>
  induction h:gT c n with
  |none=>
   have e:Oq n (H.get i)=some w:=by
    refine dg ?_ e
    show _=(match gT c n with|none=>Oq n (H.get i)|some _=>none)
    rw[h]
   obtain⟨es,h1,h2⟩:=Ky e
   exact⟨c,i,es,rfl,h,h1,h2⟩
  |some f=>
   have e:none=some w:=by
    refine dg ?_ e
    show _=(match gT c n with|none=>Oq n (H.get i)|some _=>none)
    rw[h]
   exact Ϝ e
 |_=>exact Ϝ e
theorem F6{ex:Bool}(S:nQ C)(hn:n<c7)(e:ϸ g.H n v=some w)(hr:HR C g)(X:VR C g v x)(q: ∀u t,VR C g w u->Q u {g.s with toks:=t}):WP C A (getAttr x (txt n) ex) Q g.s:=by
 obtain⟨c,i,es,rfl,e2,e1,e⟩:=By e
 obtain⟨a,d,ds,m,rfl,I⟩:=xB S hr X e1
 obtain⟨en,ef,V⟩:=(yt hn ds I.5).1 _ e
 have L0:=I.type (M:=model pw C.w)
 have L2:=c6 hr<|I.1.1 n hn
 rw[e2] at L2
 refine ο<|Be<|ύ<|ο<|L0.at (ο<|(c6 hr I.1.3).at ?_)
 refine ο<|wpAny_onRaise<|wpAny_runValue<|codeAny_builtin F.plainObj_entry_getattr_hooked ?_
 have L4:cO (model pw C.w) g.s.heap (find (.ref a) (.ref<|ju c)<|txt n) (.value en.val):=by
  refine L2.andThen<|(show cO _ _ (getOf none) none from .now).andThen ?_
  refine Looks.now.andThen ?_
  exact(looks_own hr I<|uU ef).andThen<|Looks.tag .now
 refine ο<|Η<|ο<|L0.at (ο<|L4.at ?_)
 refine Η ?_
 show wpAny _ _ (handedOut en.val) _ _ _
 rw[AV V]
 exact Η<|q _ _ V
abbrev Bs(pe:Ο)(e:Ϛ):Prop:=∀nm w,attributeBase e nm pe w=w
end
section
variable{C:Ctx}{A:Ϡ}{F:Fn}{pe:Ο}{f1:FE}{e1:Ϛ}{n:Nat}{pos:gB}
theorem VO(S:nQ C)(hn:n<c7)(hb:Bs pe e1)(h1:SE C A F pe f1 (eval e1 pe)):ST C A F pe (λenv H K=>f1 env H (Q_ n K)) (.Attribute e1 (txt n) pos):=SE.st ⟨λe o=>h1.1 e λv H e=>(aN e).elim λ_ q=>o _ _ q.2,
 λ{R r K env g Q} e o hr f q=>Attribute_any_ (h1.2 e (λv H e=>(aN e).elim λ_ q=>o _ _ q.2) hr f λk v y L hr V e=>(aN e).elim λw h=>F6 S hn h.1 hr V λu t W=>bS (b_ L q) hr h.2 W) (by rw[arm_eval_Attribute,hb])⟩ (λ_=>rfl) ⟨λ_ _=>rfl,λ_=>rfl,λ_=>rfl,λ_ _=>rfl⟩
end
end J.Internal
namespace J.Internal
open PySem PySem.W PySem.Calls PyProof.Rows
variable [Key]
inductive fT(C:Ctx)(A:Ϡ)(s:Χ)(x y:χ)(Q:χ->Χ->Prop):Prop
 |mk (ex: ∃T id,typeLookup (.type T) "__getitem__"=pure (some<|.builtin id)/\s.TypeIs x T/\WP C A (getItem x y) Q s)
section
variable{C:Ctx}{A:Ϡ}{g:Sg}{R:Type}{r:R}{K:KV R}{H:Hp}{v w u:V}{x y:χ}{Q:χ->Χ->Prop}{i:Int}{a:ό}{n k:Nat}{t:X7}
theorem bg.get{z:ό->Prop}{h:ao}{l:List D}{d:D}: ∀(k:Nat)(m:List χ),bg z h l m->l[k]? =some d->∃y,m[k]? =some y/\DR z h d y:=by
 induction l with
 |nil=>exact λk m _ e=>Ϝ e
 |cons a l ih=>
  intro k m q e
  induction q with
  |mk p q=>
   induction k with
   |zero=>exact⟨_,rfl,ξ e▸p⟩
   |succ k=>exact ih k _ q e
theorem Ϸ.get{α β:Type}{S:α->β->Prop}{l:List α}{a:α}: ∀(k:Nat)(m:List β),Ϸ S l m->l[k]? =some a->∃b,m[k]? =some b/\S a b:=by
 induction l with
 |nil=>exact λk m _ e=>Ϝ e
 |cons a l ih=>
  rintro k _ ⟨b,m,rfl,p,q⟩ e
  induction k with
  |zero=>exact⟨_,rfl,ξ e▸p⟩
  |succ k=>exact ih k _ q e
theorem F1{α:Type}{l:List α}{b:α}(e:at? l i=some b): ∃k,l[k]? =some b/\seqIndex? i l.length=some k/\(0<=i/\k=i.toNat∨i<0/\ -(l.length:Int)<=i/\k=(i+l.length).toNat):=by
 unfold at? at e
 by_cases h:0<=i
 ·rw[if_pos h] at e
  have:=(Δ.mp e).1
  exact⟨_,e,seqIndex_at h (by omega),.inl ⟨h,rfl⟩⟩
 ·rw[if_neg h] at e
  obtain⟨h1,e⟩:=bE e
  exact⟨_,e,seqIndex_back (by omega) (by omega),.inr ⟨by omega,h1,rfl⟩⟩
theorem uQ{T:Bool}{its:Array χ}{α:Type}{l:List α}{b:α}(h:g.s.heap.get? a=some (gn T its n))(hl:l.length=its.toList.length)(hz:l.length<=big)(e:at? l i=some b)(q: ∀(k:Nat)(y:χ),l[k]? =some b->its.toList[k]? =some y->Q y g.s):fT C A g.s (.ref a) (.int i t) Q:=by
 obtain⟨k,e1,e2,e3⟩:=F1 e
 have hk:=(Δ.mp e1).1
 have hx:its.toList[k]? =some (its.toList[k]'(hl▸hk)):=ϊ _
 have hx2:=aF.symm.trans hx
 have z:=q k _ e1 hx
 have hz:l.length<=1000000:=hz
 rw[(hl.trans Ϙ:l.length=its.size)] at e2 e3 hz hk
 induction T with
 |true=>exact⟨"tuple",_,ny.lookup,⟨_,h,rfl⟩,PySem.P.getItem_tuple h (by omega) (by omega) e2 hx2 z⟩
 |false=>
  have il:=aJ h
  rcases e3 with⟨h0,rfl⟩|⟨h0,h1,rfl⟩
  ·exact⟨"list",_,iN.lookup,⟨_,h,rfl⟩,wpAny_getItem_list il h0 (by omega) hx2 z⟩
  ·exact⟨"list",_,iN.lookup,⟨_,h,rfl⟩,wpAny_getItem_list_neg il h0 h1 (by omega) hx2 z⟩
theorem yV{T:Bool}{l:List D}{d:D}(X:Bb g T l x)(e:at? l i=some d)(q: ∀z,DR g.z g.s.heap d z->Q z g.s):fT C A g.s x (.int i t) Q:=by
 induction X with
 |mk a b c=>exact uQ a c.len b e λk y e1 e2=>(c.get k _ e1).elim λz h=>(ξ<|e2.symm.trans h.1)▸q _ h.2
theorem item_dict{N:Type}[DecidableEq N]{knd:A1 pw C.w N}{k:N}{d:ό}{kvs:List (N×χ)}{z:χ}(hk:knd.is k y=true)(D:g.s.heap.DictOf knd d kvs)(e:valueAt kvs k=some z)(q: ∀t,Q z {g.s with toks:=t}):fT C A g.s (.ref d) y Q:=
 ⟨"dict",_,slot_dict_getitem.lookup,D.mapOf.typeIs,wpAny_getItem_of hk D.mapOf e<|q _⟩
theorem GP{d:D}{o:Option (Bool×List D)}(e:LL d o=some u): ∃i p b,d= .int i/\o=some p/\at? p.2 i=some b/\.d b=u:=by
 cases d with
 |int i=>
  obtain⟨p,h1,e⟩:=dG e
  obtain⟨b,h2,h3⟩:=fH e
  exact⟨i,p,b,rfl,h1,h2,h3⟩
 |_=>exact Ϝ e
theorem item_at(S:dU C){d:D}(hr:HR C g)(e:QV g.H d v=some u)(X:VR C g v x)(Y:DR g.z g.s.heap d y)(q: ∀z t,VR C g u z->Q z {g.s with toks:=t}):fT C A g.s x y Q:=by
 have sqc (e:LL d (sq g.H v)=some u):fT C A g.s x y Q:=by
  obtain⟨i,p,b,rfl,h1,h2,rfl⟩:=GP e
  obtain⟨t,rfl⟩:=Y
  exact yV (mY hr X h1) h2 λz h=>q z g.s.toks h
 induction v with
 |d d=>exact sqc e
 |ins c i=>exact sqc e
 |Μ=>exact sqc e
 |gd k=>
  obtain⟨hk,rfl⟩:=X
  obtain⟨ns,D⟩:=S.2 k hk
  obtain⟨kvs,D,r⟩:=D g hr
  cases d with
  |int i=>
   obtain⟨t,rfl⟩:=Y
   obtain⟨z,h1,h2⟩:=(gA (AF) (Av _) _ r).1 _ e
   exact item_dict (fM _ _ i t) D h1 λt=>q z t h2
  |_=>exact Ϝ e
 |obj j=>
  obtain⟨po,hp⟩: ∃po,g.H.get j=po:=⟨_,rfl⟩
  have e:GH d po=some u:=hp▸e
  induction po with
  |vl l=>
   obtain⟨a,rfl,_,o,z⟩:=bY hr X hp<|λh=>PO.noConfusion h
   cases d with
   |int i=>
    obtain⟨t,rfl⟩:=Y
    induction o with
    |mk a b c=>exact uQ a (bQ _ c) b e λk y e1 e2=>(c.get k _ e1).elim λz h=>(ξ<|e2.symm.trans h.1)▸q _ _ h.2
   |_=>exact Ϝ e
  |di es=>
   obtain⟨a,rfl,_,o,z⟩:=bY hr X hp<|λh=>PO.noConfusion h
   induction o with
   |mk D _ r=>
    cases d with
    |int i=>
     obtain⟨t,rfl⟩:=Y
     obtain⟨z,h1,h2⟩:=(gA (AF) es _ r).1 _ e
     exact item_dict (fM _ _ i t) D.dictOf h1 λt=>q z t h2
    |_=>exact Ϝ e
  |ds es=>
   obtain⟨a,rfl,_,o,z⟩:=bY hr X hp<|λh=>PO.noConfusion h
   induction o with
   |mk D _ r=>
    cases d with
    |str i=>
     obtain⟨hi,t,rfl⟩:=Y
     obtain⟨z,h1,h2⟩:=(gA (Mc hi) es _ r).1 _ e
     exact item_dict (vJ _ _ (txt i) t) D h1 λt=>q z t h2
    |_=>exact Ϝ e
  |_=>exact Ϝ e
theorem GQ{l:List D}(e:gE l i K H=some r)(o:eo K r): ∃d,at? l i=some d/\K (.d d) H=some r:=by
 have e:=lu e
 induction h:at? l i with
 |none=>rw[h] at e;exact(o _ _ e).2.elim
 |some d=>rw[h] at e;exact⟨d,rfl,e⟩
theorem yW(e:uR v K w H=some r)(o:eo K r):(∃j l i d,v= .obj j/\w= .int i/\H.get j= .list l/\at? l i=some d/\K (.d d) H=some r)∨∃u,ϩ H v w=some u/\K u H=some r:=by
 induction v with
 |obj j=>
  obtain⟨po,hp⟩: ∃po,H.get j=po:=⟨_,rfl⟩
  have e:xN (.obj j) K w H po=some r:=hp▸e
  induction po with
  |list l=>
   induction w with
   |d d=>
    cases d with
    |int i=>
     obtain⟨d,h1,h2⟩:=GQ e o
     exact .inl ⟨j,l,i,d,rfl,rfl,hp,h1,h2⟩
    |_=>exact Ϝ e
   |_=>exact Ϝ e
  |_=>exact .inr<|aN e
 |_=>exact .inr<|aN e
theorem xJ(e:uR v K w H=some r)(o:eo K r):H.ok:=by
 rcases yW e o with⟨_,_,_,_,_,_,_,_,e⟩|⟨_,_,e⟩
 ·exact o _ _ e
 ·exact o _ _ e
theorem Q8(S:dU C)(hr:HR C g)(e:uR v K w g.H=some r)(o:eo K r)(X:VR C g v x)(Y:VR C g w y)(q:Nd C g K r Q):fT C A g.s x y Q:=by
 rcases yW e o with⟨j,l,i,d,rfl,rfl,hp,h,e'⟩|⟨u,h,e'⟩
 ·obtain⟨t,rfl⟩:=Y
  exact yV (nF hr X hp) h λz D=>iz q hr e' D
 ·induction w with
  |d d=>exact item_at S hr h X Y λz t V=>bS q hr e' V
  |_=>exact Ϝ h
theorem fT.tail{value slice:Ϛ}{ops:List χ}(h:fT C A g.s x y Q)(hs:subscripted slice false x y=operate ops (getItem x y)):WP C A (subscriptTail value slice x y) Q g.s:=by
 refine h.1.elim λT q_=>q_.elim λid q_=>q_.elim λhl q_=>q_.elim λht hg=>?_
 exact tail_any ht hl hg hs
variable{F:Fn}{pe:Ο}{f1 f2:FE}{e1 e2:Ϛ}{pos:gB}
theorem VW(S:dU C)(h1:SE C A F pe f1 (eval e1 pe))(h2:ST C A F pe f2 e2):ST C A F pe (λenv H K=>f1 env H (Rt (f2 env) K)) (.Subscript e1 e2 pos):=SE.st ⟨λe o=>h1.1 e λv H e=>h2.v.1 e λw H e=>xJ e o,
 λ{R r K env g Q} e o hr f q=>IC (h1.2 e (λv H e=>h2.v.1 e λw H e=>xJ e o) hr f λk v y L hr V e=>h2.v.2 e (λw H e=>xJ e o) hr (f.le L) λk' w y' M hr' W e=>(Q8 S hr' e o (M.v _ _ V) W (b_ (L.trans M) q)).tail (h2.p.4 _ _))⟩ (λ_=>rfl) ⟨λ_ _=>rfl,λ_=>rfl,λ_=>rfl,λ_ _=>rfl⟩
end
def Pb(C:Ctx)(s:List Int):Prop:=∃its n,C.s.heap.get? C.a=some (gn false its n)/\s.length<=big/\∀z h,bg z h (s.map D.int) its.toList
section
variable{C:Ctx}{A:Ϡ}{g:Sg}{R:Type}{r:R}{K:KV R}{H:Hp}{v w u:V}{x y:χ}{Q:χ->Χ->Prop}{i:Int}{a sl:ό}{n k c:Nat}{t:X7}{s:List Int}
theorem bg.drop{z:ό->Prop}{h:ao}: ∀(k:Nat)(l:List D)(m:List χ),bg z h l m->bg z h (l.drop k) (m.drop k):=λk=>by
 induction k with
 |zero=>exact λl m q=>q
 |succ k ih=>
  intro l m q
  induction l with
  |nil=>cases q;exact rfl
  |cons d l=>
   induction q with
   |mk p q=>exact ih _ _ q
theorem bg.take{z:ό->Prop}{h:ao}: ∀(k:Nat)(l:List D)(m:List χ),bg z h l m->bg z h (l.take k) (m.take k):=λk=>by
 induction k with
 |zero=>exact λl m q=>rfl
 |succ k ih=>
  intro l m q
  induction l with
  |nil=>cases q;exact rfl
  |cons d l=>
   induction q with
   |mk p q=>exact .mk p<|ih _ _ q
theorem se{h:ό}{items:Array χ}{n:Nat}{u:X7}{s:Χ}(ht:IsT s.heap h items n)(hs:s.heap.IsSliceOf sl (.int 0 u) .none .none)(q:Q (.ref h) s):WP C A (getItem (.ref h)<|.ref sl) Q s:=by
 obtain⟨os,hos,hcs,hds⟩:=id hs
 have hT:s.TypeIs (.ref h) "tuple":=⟨_,ht,rfl⟩
 unfold getItem
 try with_reducible refine ύ ?_
 first|refine ο (Η ?_)|skip
 refine ο<|iO hT (by decide) ?_
 refine ο (dW hT JU
  (dc JU hT entry_tuple_getitem ?_ (args_tuple_getitem _ _)))
 show wpAny _ _ (ku (.ref h)>>=_) _ _ s
 refine ο<|J4 ht rfl ?_
 refine ο<|Bg (⟨os,hos,hcs⟩) ?_
 rw[if_pos (by decide)]
 refine ο<|sliceApplied_from hs (ϋ _) ?_
 show wpAny _ _ (if(0==0&&1==1&&(items.size-0)==items.size)=true then _ else _) _ _ s
 rw[if_pos (by simp)]
 have te:wpAny (model pw C.w) A.in1 (N_<|.ref h) (λb s'=>b=true/\s'=s) (λ_ _=>False) s:=by
  repeat (first|exact⟨rfl,rfl⟩|(refine Bg hT ?_)|(refine ο<|Bg hT ?_)|(refine wpAny_load ht ?_)|refine ο ?_|refine Η ?_)
 refine ο<|cI te (λb s' z=>?_) λ_ _ z=>z.elim
 obtain⟨rfl,rfl⟩:=z
 rw[if_pos rfl]
 refine ο<|nP ?_
 first
  |exact Η ⟨_,rfl,Η q⟩
  |exact ο<|Η<|Η ⟨_,rfl,Η q⟩
theorem D5(e:sliceFrom c v H K w=some r): ∃i p,w= .int i/\sq H v=some p/\0<=i/\((p.1=true/\i<=p.2.length/\K (.tup<|p.2.drop i.toNat) H=some r)∨(p.1=false/\newL c (H.ϴ<|jK i) (p.2.drop i.toNat) K=some r)):=by
 induction w with
 |d d=>
  cases d with
  |int i=>
   have e:(match sq H v with
    |some (true,l)=>if 0<=i/\i<=l.length then K (.tup<|l.drop i.toNat) H else none
    |some (false,l)=>if 0<=i then newL c (H.ϴ<|jK i) (l.drop i.toNat) K else none
    |none=>none)=some r:=e
   induction h:sq H v with
   |none=>rw[h] at e;exact Ϝ e
   |some p=>
    obtain⟨T,l⟩:=p
    rw[h] at e
    induction T with
    |true=>
     obtain⟨q,e⟩:=bE e
     exact⟨i,_,rfl,rfl,q.1,.inl ⟨rfl,q.2,e⟩⟩
    |false=>
     obtain⟨q,e⟩:=bE e
     exact⟨i,_,rfl,rfl,q,.inr ⟨rfl,e⟩⟩
  |_=>exact Ϝ e
 |_=>exact Ϝ e
theorem D6(e:AD c v K w H=some r)(o:eo K r):H.ok:=by
 obtain⟨_,_,_,_,_,⟨_,_,e⟩|⟨_,e⟩⟩:=D5 e
 ·exact o _ _ e
 ·exact(cG e o).1.1
theorem S7(hr:HR C g)(e:AD c v K w g.H=some r)(o:eo K r)(X:VR C g v x)(Y:VR C g w y)(hs:g.s.heap.IsSliceOf sl y .none .none)(q:Nd C g K r Q):fT C A g.s x (.ref sl) Q:=by
 obtain⟨i,⟨T,l⟩,rfl,h1,h0,e⟩:=D5 e
 obtain⟨t,rfl⟩:=Y
 obtain⟨m,rfl⟩:=aS h0
 have S:Bb g T l x:=mY hr X h1
 induction S with
 | @mk a its n il z ds=>
  have hl:=ds.len.trans Ϙ
  have hz:its.size<=sizeLine:=by rw[<-hl,show sizeLine=16777216 by decide];unfold big at z;omega
  rcases e with⟨e0,h2,e⟩|⟨e0,e⟩
  ·cases e0
   refine⟨"tuple",_,ny.lookup,⟨_,il,rfl⟩,?_⟩
   by_cases hm:m=0
   ·subst hm
    refine se il hs<|iz q hr e ?_
    induction v with
    |d d=>exact(sY h1 rfl)▸X
    |_=>exact(sY h1 rfl)▸X
   ·have h2:=h2
    exact getItem_tuple_from ⟨_,il,rfl,_,rfl⟩ hs (Nat.one_le_iff_ne_zero.mpr hm) (by omega) (mz (T:=true) q hr (Gr.push _ _) (ϱ _) (ai rfl) rfl (ds.drop m) (η (m7▸qH _ _) z) e) hz
  ·cases e0
   refine⟨"list",_,iN.lookup,⟨_,il,rfl⟩,?_⟩
   refine zN (aJ il) hs (.int _ _) .none .none (by simp) ?_ hz
   rw[slicePick_from']
   exact lA (H:=g.H.ϴ _) q hr (Gr.push _ _) (ϱ _) (ai rfl) (ds.drop m) rfl e o
theorem D_(e:sliceTo s v H K w=some r): ∃i,w= .int i/\v= .Μ/\0<=i/\newL 0 (H.ϴ<|jK i) ((s.map D.int).take i.toNat) K=some r:=by
 induction w with
 |d d=>
  cases d with
  |int i=>
   induction v with
   |Μ=>
    obtain⟨h,e⟩:=bE e
    exact⟨i,rfl,rfl,h,e⟩
   |_=>exact Ϝ e
  |_=>exact Ϝ e
 |_=>exact Ϝ e
theorem Ea(e:C5 s v K w H=some r)(o:eo K r):H.ok:=by
 refine(D_ e).elim λ_ q_=>q_.elim λ_ q_=>q_.elim λ_ q_=>q_.elim λ_ e=>?_
 exact(cG e o).1.1
theorem S_(S:Pb C s)(hr:HR C g)(e:C5 s v K w g.H=some r)(o:eo K r)(X:VR C g v x)(Y:VR C g w y)(hs:g.s.heap.IsSliceOf sl .none y .none)(q:Nd C g K r Q):fT C A g.s x (.ref sl) Q:=by
 obtain⟨i,rfl,rfl,h0,e⟩:=D_ e
 obtain⟨t,rfl⟩:=Y
 obtain⟨m,rfl⟩:=aS h0
 obtain⟨its,n,il,z,ds⟩:=S
 have il:=(hr.old _ _ il).2
 have ds:=ds g.z g.s.heap
 have hz:its.size<=sizeLine:=by rw[<-(ds.len.trans Ϙ),ς,show sizeLine=16777216 by decide];unfold big at z;omega
 cases X
 refine⟨"list",_,iN.lookup,⟨_,il,rfl⟩,?_⟩
 refine zN (aJ il) hs .none (.int _ _) .none (by simp) ?_ hz
 rw[slicePick_upto']
 exact lA (H:=g.H.ϴ _) q hr (Gr.push _ _) (ϱ _) (ai rfl) (ds.take m) rfl e o
variable{F:Fn}{pe:Ο}{f1 f2:FE}{e1 e2:Ϛ}{pos p:gB}
noncomputable def Sg.lay(g:Sg)(o:e9):Sg:=g.up g.H (g.s.heap.push o) g.s.toks
theorem JT(hr:HR C g)(o:e9):Le [] g (g.lay o):=gh hr (Gr.push _ _) rfl
theorem JS(hr:HR C g)(o:e9):HR C (g.lay o):=lF hr (Gr.push _ _) rfl
theorem VZ(h1:SE C A F pe f1 (eval e1 pe))(h2:SE C A F pe f2 (eval e2 pe)):ST C A F pe (λenv H K=>f1 env H (Rx (f2 env) c K)) (.Subscript e1 (.Slice (some e2) none none p) pos):=SE.st ⟨λe o=>h1.1 e λv H e=>h2.1 e λw H e=>D6 e o,
 λ{R r K env g Q} e o hr f q=>IC (h1.2 e (λv H e=>h2.1 e λw H e=>D6 e o) hr f λk v y L hr V e=>wpAny_Slice (h2.2 e (λw H e=>D6 e o) hr (f.le L) λk' w y' M hr' W e=>Η (Η (by
  have N:=JT hr' {cls:=.type "slice",data:=.fields #[y',.none,.none]}
  exact(S7 (JS hr' _) e o ((M.trans N).v _ _ V) (N.v _ _ W) (nS _ _ _ _) (b_ ((L.trans M).trans N) q)).tail rfl))))⟩ (λ_=>rfl) ⟨λ_ _=>rfl,λ_=>rfl,λ_=>rfl,λ_ _=>rfl⟩
theorem V0(S:Pb C s)(h1:SE C A F pe f1 (eval e1 pe))(h2:SE C A F pe f2 (eval e2 pe)):ST C A F pe (λenv H K=>f1 env H (Ry (f2 env) s K)) (.Subscript e1 (.Slice none (some e2) none p) pos):=SE.st ⟨λe o=>h1.1 e λv H e=>h2.1 e λw H e=>Ea e o,
 λ{R r K env g Q} e o hr f q=>IC (h1.2 e (λv H e=>h2.1 e λw H e=>Ea e o) hr f λk v y L hr V e=>wpAny_Slice (Η (h2.2 e (λw H e=>Ea e o) hr (f.le L) λk' w y' M hr' W e=>Η (by
  have N:=JT hr' {cls:=.type "slice",data:=.fields #[.none,y',.none]}
  exact(S_ S (JS hr' _) e o ((M.trans N).v _ _ V) (N.v _ _ W) (nS _ _ _ _) (b_ ((L.trans M).trans N) q)).tail rfl))))⟩ (λ_=>rfl) ⟨λ_ _=>rfl,λ_=>rfl,λ_=>rfl,λ_ _=>rfl⟩
end
def vL(A:Ϡ)(n:Nat):Prop:=A.handled=none/\A.depth+2*n<recursionLimit/\A.units+16*n+90<cLine
def zR(A:Ϡ)(n:Nat):Prop:=A.handled=none/\A.depth+2*n+1<recursionLimit/\A.units+16*n+100<cLine
theorem zR.c{A:Ϡ}{n:Nat}(h:zR A n):vL A n:=⟨h.1,by have:=h.2.1;exact Nat.lt_of_succ_lt this,by have:=h.2.2;omega⟩
theorem vL.body{A:Ϡ}{n:Nat}{pe:Ο}(h:vL A (n+1)):zR (A.deeper pe) n:=⟨h.1,by show A.depth+1+2*n+1<_;have:=h.2.1;omega,by show A.units+3+16*n+100<_;have:=h.2.2;omega⟩
theorem zR.u{A:Ϡ}{n:Nat}(h:zR A n):A.units+64<cLine:=by have:=h.2.2;omega
inductive fR(C:Ctx)(Cl:Call)(N:Nat)(u:Bool):Prop
 |mk (ok: ∀{f:Nat}{args:List V}{H H':Hp}{v:V},Cl f args H=some (v,H')->H'.ok->H.ok) (w: ∀{f:Nat}{args:List V}{g:Sg}{H':Hp}{v:V}{A:Ϡ}{xs:List χ}{Q:Result->Χ->Prop},Cl f args g.H=some (v,H')->H'.ok->g.m=u->vL A N->HR C g->Ϸ (VR C g) args xs->(∀k y,Le [] g k->HR C k->VR C k v y->k.H=H'->Q (.ok<|.ret y) k.s)->codeAny (model pw C.w) A (.call (.ref<|kE f) ⟨xs,[]⟩) Q g.s)
section
variable{C:Ctx}{A:Ϡ}{g:Sg}{R:Type}{r:R}{K:KV R}{H:Hp}{v w u:V}{x y:χ}{Q:χ->Χ->Prop}{f n m N:Nat}{Cl:Call}{F:Fn}{pe:Ο}{env:Env}{f1:FE}{fl:FL}{e1:Ϛ}{xs:List Ϛ}{vs:List V}{ys first:List χ}{pos:gB}
theorem tw{c:Option (V×Hp)}(e:un c K=some r): ∃v H,c=some (v,H)/\K v H=some r:=by
 have e:=lu e
 induction c with
 |none=>exact Ϝ e
 |some p=>exact⟨p.1,p.2,rfl,e⟩
theorem zK{u:Bool}(hC:fR C Cl N u)(e:un (Cl f vs H) K=some r)(o:eo K r):H.ok:=by
 refine(tw e).elim λv q_=>q_.elim λH' q_=>q_.elim λh e=>?_
 exact hC.1 h<|o _ _ e
theorem JX{u:Bool}(hC:fR C Cl N u)(hm:g.m=u)(hA:vL A N)(hr:HR C g)(V:Ϸ (VR C g) vs ys)(e:un (Cl f vs g.H) K=some r)(o:eo K r)(q:Nd C g K r Q):WP C A (call (.ref<|kE f) ys) Q g.s:=by
 obtain⟨v,H',h,e⟩:=tw e
 refine vK<|hC.2 h (o _ _ e) hm hA hr V λk y L hr V hk=>?_
 subst hk
 exact q k v y L hr V e
abbrev Old(C:Ctx)(h:ao):Prop:=∀a o,C.s.heap.get? a=some o->h.get? a=some o
theorem HR.o(hr:HR C g):Old C g.s.heap:=λa o e=>(hr.old a o e).2
theorem call_of{fv:χ}{kp:Keeper}(hk:kp= .frame∨kp= .machine∨kp= .boundFrame)(hf: ∀h,Old C h->cO (model pw C.w) h (keeperOf fv) kp)(h:SL C A F pe fl xs){KL':KL R}(e:fl env g.H KL'=some r)(o:eo KL' r)(hr:HR C g)(fr:FR C F pe g env)
 (q:Nl C g xs.length KL' r λys s=>WP C A (call fv<|first++ys) Q s):WP C A (callWith pos fv first (backTo pos<|starEach xs pe) []) Q g.s:=
 callWith_of (P:=Old C) (by rw[h.star];rfl) (λh o=>⟨kp,hk,hf h o⟩) (cI (h.arg pos (h.w pos e o hr fr (Q:=λys s=>Old C s.heap/\WP C A (call fv (first++ys)) Q s) λk vs ys l L hr V e=>⟨hr.o,q k vs ys l L hr V e⟩)) (λa s h=>by
  obtain⟨ys,rfl,h⟩:=h
  exact h) λ_ _ e=>e)
theorem yX{a:ό}(hf:vN C a): ∀h,Old C h->cO (model pw C.w) h (keeperOf<|.ref a) .frame:=λh o=>by
 refine hf.elim λfd hf=>?_
 exact(gj<|o _ _ hf).andThen .now
theorem C6{c:Nat}(hc:U1 C c): ∀h,Old C h->cO (model pw C.w) h (keeperOf<|.ref<|ju c) .machine:=λh o=>by
 refine hc.9.elim λcd q_=>q_.elim λsl q_=>q_.elim λe _=>?_
 refine(gj<|o _ _ e).andThen ?_
 refine(hc.8.call.keeps o).andThen ?_
 exact .now
theorem VU{X:Cx}{id:ak}{p:gB}(hX:X.k=F.m)(hC:fR C X.C N X.k)(hA:zR A N)(hf:vN C (kE f))(hg:kH C id (.ref (kE f)))(hk:pe.kindOf id=some .globalImplicit)(hd:(id==("__debug__":ak))=false)(h:SL C A F pe fl xs):ST C A F pe (λenv H K=>fl env H (Rn X f K)) (.Call (.Name id p) xs [] pos):=SE.st ⟨λe o=>h.ok e λv H e=>zK hC e o,
 λ{R r K env g Q} e o hr fr q=>bH (oM hg hk hd hr fr (call_of (first:=[]) (.inl rfl) (yX hf) h e (λv H e=>zK hC e o) hr fr λk vs ys l L hr V e=>JX hC (L.md.trans (fr.md.trans hX.symm)) hA.c hr V e o (b_ L q)))⟩ (λ_=>rfl) ⟨λ_ _=>rfl,λ_=>rfl,λ_=>rfl,λ_ _=>rfl⟩
variable{c:Nat}{X:Cx}
theorem KA{h:ao}{f:ό}{o:e9}{self:χ}(e:h.get? f=some o)(c:o.cls= .type "function"):cO (model pw C.w) h (bindSpecial (.ref f) self) (.ref f,[self]):=by
 have L:cO (model pw C.w) h (typeOf<|.ref f) o.cls:=(gj e).andThen .now
 rw[c] at L
 exact L.andThen<|qG (by kernel_rfl)
theorem yg(A:Ϡ)(c:ό)(rest:List χ):(A.under<|.builtin "type.__call__" ⟨.ref c::rest,[]⟩).depth=A.depth+1/\(A.under<|.builtin "type.__call__" ⟨.ref c::rest,[]⟩).units<=A.units+4/\(A.under<|.builtin "type.__call__" ⟨.ref c::rest,[]⟩).handled=A.handled:=by
 refine⟨?_,?_,rfl⟩
 ·show A.depth+Ob _=_
  have:Ob (.builtin "type.__call__" ⟨.ref c::rest,[]⟩)=1:=by rfl
  rw[this]
 ·show A.units+Oa _<=_
  have:Oa (.builtin "type.__call__" ⟨.ref c::rest,[]⟩)=1:=by rfl
  rw[this];omega
noncomputable def GJ(h:ao)(c:Nat):ao:=(h.push emptyDict).push<|instObj (ju c) h.objs.size
noncomputable def Sg.ins(g:Sg)(c:Nat):Sg:=(g.new g.s.heap.objs.size (g.H.new<|.at []) (g.s.heap.push emptyDict) g.s.toks).yQ (g.s.heap.objs.size+1) (g.H.new<|.at []) (GJ g.s.heap c) g.s.toks
theorem oO{h:ao}:(GJ h c).get? (h.objs.size+1)=some (instObj (ju c) h.objs.size):=by
 have:=aB (o:=instObj (ju c) h.objs.size) (h.push emptyDict) rfl
 rwa [dN] at this
theorem uN{h:ao}:(h.push emptyDict).get? (h.objs.size+1)=none:=by
 have:=ϱ<|h.push emptyDict
 rwa [dN] at this
theorem yR(hr:HR C g):HR C (g.new g.s.heap.objs.size (g.H.new<|.at []) (g.s.heap.push emptyDict) g.s.toks):=xW hr (Gr.push _ _) (ϱ _) (ϖ<|aB _ rfl) rfl<|show Uq C _ _ _ from .mk (ds:=[]) (n:=0) (aB _ rfl) rfl
theorem LR(hr:HR C g):Le [] g (g.ins c):=(o7 hr (Gr.push _ _) (ϱ _) rfl).trans<|xy (yR hr) (Gr.push _ _) uN rfl
theorem LQ(hr:HR C g):HR C (g.ins c):=CO (yR hr) (Gr.push _ _) uN (ϖ oO) rfl
theorem LS(hr:HR C g)(hc:c<19):VR C (g.ins c) (.ins c g.H.c.length) (.ref<|g.s.heap.objs.size+1):=show U4 (g.ins c) c _ _ from .mk hc (sR hr.len) (.inr rfl) oO
theorem CP{n:Nat}(e:Ju c n K v H=some r):v= .none/\K (.ins c n) H=some r:=by
 induction v with
 |d d=>
  cases d with
  |none=>exact⟨rfl,e⟩
  |_=>exact Ϝ e
 |_=>exact Ϝ e
theorem B8(e:AA X c K vs H=some r):(∃f,dZ c=some f/\un (X.C f (.ins c H.c.length::vs)<|H.new<|.at []) (Ju c H.c.length K)=some r)∨(dZ c=none/\vs=[]/\K (.ins c H.c.length) (H.new<|.at [])=some r):=by
 unfold AA at e
 induction h:dZ c with
 |some f=>rw[h] at e;exact .inl ⟨f,rfl,e⟩
 |none=>
  rw[h] at e
  induction vs with
  |nil=>exact .inr ⟨rfl,rfl,e⟩
  |cons _ _=>exact Ϝ e
theorem IU{u:Bool}(hC:fR C X.C N u)(e:AA X c K vs H=some r)(o:eo K r):H.ok:=by
 rcases B8 e with⟨f,_,e⟩|⟨_,_,e⟩
 ·exact show(H.new<|.at []).ok from zK hC e λv H e=>o _ _ (CP e).2
 ·exact mC o e
theorem P0(S:nQ C)(hc:c<19)(hC:fR C X.C N X.k)(hm:g.m=X.k)(hA:zR A N)(hr:HR C g)(V:Ϸ (VR C g) vs ys)(e:AA X c K vs g.H=some r)(o:eo K r)(q:Nd C g K r Q):WP C A (call (.ref<|ju c) ys) Q g.s:=by
 have hk:=S c hc
 have Y:Makes (model pw C.w) g.s.heap (ju c):=by
  obtain⟨⟨oc,od,cd,sl,ho,r⟩,a,b,c',d,e',f⟩:=hk.8
  exact⟨⟨oc,od,cd,sl,(hr.old _ _ ho).2,r⟩,c6 hr a,c6 hr b,c6 hr c',c6 hr d,c6 hr e',c6 hr f⟩
 have hi:=c6 hr hk.6
 have L:=LR (c:=c) hr
 have h2:=LQ (c:=c) hr
 have X2:=LS hr hc
 refine vK ?_
 rcases B8 e with⟨f,hf,e⟩|⟨hf,rfl,e'⟩
 ·rw[hf] at hi
  refine(hk.7 f hf).elim λfd ho=>?_
  obtain⟨u,H2,e1,e2⟩:=tw e
  obtain⟨rfl,e2⟩:=CP e2
  refine make_core Y hi (λself=>KA (hr.old _ _ ho).2 rfl) (.inl rfl) ?_
  obtain⟨u1,u2,u3⟩:=yg A (ju c) ys
  refine hC.2 (g:=g.ins c) e1 (o _ _ e2) hm ⟨by rw[u3];exact hA.1,by rw[u1];have:=hA.2.1;omega,by have:=hA.2.2;omega⟩ h2 ⟨_,_,rfl,X2,(V.mono L.v)⟩ λk y M hr3 W hk=>⟨W,?_⟩
  subst hk
  exact q k _ _ (L.trans M) hr3 (M.v _ _ X2) e2
 ·rw[hf] at hi
  cases(show ys=[] from V)
  have t1:cO (model pw C.w) (GJ g.s.heap c) (typeOf<|.ref<|g.s.heap.objs.size+1) (.ref<|ju c):=(gj oO).andThen .now
  refine make_core Y hi (λself=>qG<|oi_bind self) (.inr ⟨rfl,rfl⟩) ?_
  refine E7 oi_plain entry_oi<|@check_slot (model pw C.w) _ _ _ "object.__init__" "object" "__init__" (.ref<|g.s.heap.objs.size+1) [] [] _ oi_kind oi_split (t1.andThen (Y.top.keeps λ_ _ e=>af _<|af _ e):cO (model pw C.w) (GJ g.s.heap c) (isInstance (.ref<|g.s.heap.objs.size+1)<|.type "object") true) (oi_args<|.ref<|g.s.heap.objs.size+1) ?_
  rw[oi_run]
  exact Η<|cH rfl<|q (g.ins c) _ _ L h2 X2 e'
theorem VY{id:ak}{p:gB}(hX:X.k=F.m)(S:nQ C)(hc:c<19)(hC:fR C X.C N X.k)(hA:zR A N)(hg:kH C id (.ref (ju c)))(hk:pe.kindOf id=some .globalImplicit)(hd:(id==("__debug__":ak))=false)(h:SL C A F pe fl xs):ST C A F pe (λenv H K=>fl env H (AA X c K)) (.Call (.Name id p) xs [] pos):=SE.st ⟨λe o=>h.ok e λv H e=>IU hC e o,
 λ{R r K env g Q} e o hr fr q=>bH (oM hg hk hd hr fr (call_of (first:=[]) (.inr (.inl rfl)) (C6 (S c hc)) h e (λv H e=>IU hC e o) hr fr λk vs ys l L hr V e=>P0 S hc hC (L.md.trans (fr.md.trans hX.symm)) hA hr V e o (b_ L q)))⟩ (λ_=>rfl) ⟨λ_ _=>rfl,λ_=>rfl,λ_=>rfl,λ_ _=>rfl⟩
end
section
variable{C:Ctx}{A:Ϡ}{g:Sg}{R:Type}{r:R}{K:KV R}{H:Hp}{v w u:V}{x y:χ}{Q:χ->Χ->Prop}{j n m N c:Nat}{args:List V}{ys:List χ}{kp:Bool}{po:PO}{l:List D}{a:ό}{its:Array χ}
theorem Du{h:ao}{t:Nat}(q:Nd C g K r Q)(hr:HR C g)(ea:g.r[j]? =some a)(nz: ¬g.z a)(s:b8 a g.s.heap h)(ne:h.get? a≠none)(hc:H.c=g.H.c)(nb:O3 g j po)(o:OR C (g.up (H.put j po) h t) a po)(V:VR C g v y)(e:K v (H.put j po)=some r):Q y (g.up (H.put j po) h t).s:=
 have L:Le [] g (g.up (H.put j po) h t):=iB hr ea nz s ne (congrArg (lQ · j po) hc) nb
 q _ v y L (DJ hr L ea nz s (congrArg (lQ · j po) hc) o) (L.v _ _ V) e
theorem zf{k:Nat}{t:Nat}{f:Array χ->Array χ}(q:Nd C g K r Q)(hr:HR C g)(ea:g.r[j]? =some a)(nz: ¬g.z a)(il:IsL g.s.heap a its k)(hc:H.c=g.H.c)(D:bg g.z g.s.heap l (f its).toList)(hz:l.length<=big)(V:VR C g v y)(e:K v (H.put j<|.list l)=some r):Q y {g.s with heap:=g.s.heap.update a<|bO f,toks:=t}:=
 have s:=aK g.s.heap a<|bO f
 have u:=il.update f
 have L:Le [] g (g.up (H.put j<|.list l) (g.s.heap.update a<|bO f) t):=iB hr ea nz s (ϖ u) (congrArg (lQ · j _) hc) λ_ _ _=>trivial
 Du (po:=.list l) (t:=t) q hr ea nz s (ϖ u) hc (λ_ _ _=>trivial) (show Iz _ _ _ _ from .mk u hz (bg.mono L.zz L.im _ _ D)) V e
theorem G2{k:Nat}{t:Nat}{l:List V}{f:Array χ->Array χ}(nb:O3 g j (.vl l))(q:Nd C g K r Q)(hr:HR C g)(ea:g.r[j]? =some a)(nz: ¬g.z a)(il:IsL g.s.heap a its k)(hc:H.c=g.H.c)(D:Ϸ (VR C g) l (f its).toList)(hz:l.length<=big)(V:VR C g v y)(e:K v (H.put j<|.vl l)=some r):Q y {g.s with heap:=g.s.heap.update a<|bO f,toks:=t}:=
 have s:=aK g.s.heap a<|bO f
 have u:=il.update f
 Du (po:=.vl l) (t:=t) q hr ea nz s (ϖ u) hc nb (show Iz _ _ _ _ from .mk u hz (D.mono (iB hr ea nz s (ϖ u) (congrArg (lQ · j _) hc) nb:Le [] g (g.up (H.put j<|.vl l) (g.s.heap.update a<|bO f) t)).v)) V e
theorem Ϸ.app{α β:Type}{S:α->β->Prop}{l m:List α}{x y:List β}(a:Ϸ S l x)(b:Ϸ S m y):Ϸ S (l++m) (x++y):=by
 induction l generalizing x with
 |nil=>cases(show x=[] from a);exact b
 |cons d l ih=>
  obtain⟨z,x,rfl,p,q⟩:=a
  exact⟨z,_,rfl,p,ih q⟩
theorem Ϸ.one{α β:Type}{S:α->β->Prop}{a:α}{b:β}(p:S a b):Ϸ S [a] [b]:=⟨b,[],rfl,p,rfl⟩
theorem qW{α:Type}{l:List α}{k:Nat}(D:l.length=k)(h:l.length<=big):k<=sizeLine:=by
 rw[show sizeLine=16777216 by decide];unfold big at h;omega
theorem vn:VR C g .none .none:=rfl
inductive R1(kp:Bool)(H:Hp)(j:Nat)(K:KV R)(r:R)(args:List V):PO->Prop
 |li {l:List D} {d:D}:args=[.d d]->K .none ((H.ϴ<|l.length<big).put j<|.list<|l++[d])=some r->R1 kp H j K r args (.list l)
 |vl {l:List V} {w:V}:kp=true->args=[w]->K .none ((H.ϴ<|l.length<big).put j<|.vl<|l++[w])=some r->R1 kp H j K r args (.vl l)
theorem Mh{α:Type}{l:List α}(h:l.length<=1):l=[]∨∃x,l=[x]:=by
 induction l with
 |nil=>exact .inl rfl
 |cons x l=>exact .inr ⟨x,congrArg (x:: ·)<|tG.mp<|O2.mp<|iR h⟩
theorem MJ(e:DK kp H j 1 args K po=some r)(ha:args.length<=1):R1 kp H j K r args po:=by
 rcases Mh ha with h|⟨w,h⟩<;>subst h
 ·induction po with
  |list l=>exact Ϝ<|lu e
  |vl l=>induction kp<;>exact Ϝ e
  |_=>exact Ϝ e
 ·induction po with
  |list l=>
   have e:=lu e
   induction w with
   |d d=>exact .li rfl e
   |_=>exact Ϝ e
  |vl l=>
   induction kp with
   |true=>exact .vl rfl rfl e
   |false=>exact Ϝ e
  |_=>exact Ϝ e
theorem rF{α β:Type}{S:α->β->Prop}{a:α}{l:List α}{ys:List β}{P:List β->Prop}(Y:Ϸ S l ys)(e:l=[a])(q: ∀y,S a y->P [y]):P ys:=by
 subst e
 refine Y.elim λy q_=>q_.elim λ_ q_=>q_.elim λe q_=>q_.elim λW e0=>?_
 exact e▸e0▸q y W
theorem W8(hm:g.m=kp)(e:DK kp g.H j 1 args K po=some r)(o:eo K r)(hp:g.H.get j=po)(ha:args.length<=1)(hr:HR C g)(X:VR C g (.obj j) x)(Y:Ϸ (VR C g) args ys)(q:Nd C g K r Q):WP C A (call (.builtin "list.append")<|x::ys) Q g.s:=by
 have i:=MJ e ha
 clear e
 induction i with
 | @li l d h e=>
  refine dY (P:=λx=>WP C A (call (.builtin "list.append")<|x::ys) Q g.s) hr X hp (λh=>PO.noConfusion h) λa ea O nz=>?_
  refine rF (P:=λys=>WP C A (call (.builtin "list.append")<|.ref a::ys) Q g.s) Y h λy W=>?_
  induction O with
  | @mk its k il z D=>
   refine gY F.slot_list_append ⟨_,il,rfl⟩ F.entry_list_append (F.args_list_append_2 _ _) (lN a its k _<|qW (D.len.trans Ϙ) z) ⟨il,?_⟩
   exact zf (H:=g.H.ϴ _) (f:=λxs=>xs.push y) q hr ea nz il rfl ((congrArg (bg g.z g.s.heap _)<|dM (xs:=its)).mpr<|D.app<|nR W (l:=[]) (m:=[]) rfl) (by rw[θ];exact(o _ _ e).2) vn e
 | @vl l w hk h e=>
  refine dY (P:=λx=>WP C A (call (.builtin "list.append")<|x::ys) Q g.s) hr X hp (λh=>PO.noConfusion h) λa ea O nz=>?_
  refine rF (P:=λys=>WP C A (call (.builtin "list.append")<|.ref a::ys) Q g.s) Y h λy W=>?_
  induction O with
  | @mk its k il z D=>
   refine gY F.slot_list_append ⟨_,il,rfl⟩ F.entry_list_append (F.args_list_append_2 _ _) (lN a its k _<|qW ((bQ _ D).trans Ϙ) z) ⟨il,?_⟩
   exact G2 (H:=g.H.ϴ _) (f:=λxs=>xs.push y) (λz=>nomatch (hm.trans hk).symm.trans z) q hr ea nz il rfl ((congrArg (Ϸ (VR C g) _)<|dM (xs:=its)).mpr<|D.app<|Ϸ.one W) (by rw[θ];exact(o _ _ e).2) vn e
theorem bg.erase{z:ό->Prop}{h:ao}: ∀(k:Nat)(l:List D)(m:List χ),bg z h l m->bg z h (l.eraseIdx k) (m.eraseIdx k):=λk=>by
 induction k with
 |zero=>
  intro l m q
  induction l with
  |nil=>cases(show m=[] from q);exact rfl
  |cons d l=>
   induction q with
   |mk p q=>exact q
 |succ k ih=>
  intro l m q
  induction l with
  |nil=>cases(show m=[] from q);exact rfl
  |cons d l=>
   induction q with
   |mk p q=>exact .mk p<|ih _ _ q
theorem toList_erase(xs:Array χ)(i:Nat):(xs.eraseIdxIfInBounds i).toList=xs.toList.eraseIdx i:=by
 unfold Array.eraseIdxIfInBounds
 split
 ·exact Array.toList_eraseIdx
 ·rename_i h
  exact(List.eraseIdx_of_length_le (by rw[Ϙ];exact bW h)).symm
theorem pop_at{k:Nat}{b:D}(i:Nat)(hb:l[i]? =some b)(q:Nd C g K r Q)(hr:HR C g)(ea:g.r[j]? =some a)(nz: ¬g.z a)(hc:H.c=g.H.c)(D:bg g.z g.s.heap l its.toList)(hz:l.length<=big)(il:IsL g.s.heap a its k)(e:K (.d b) (H.put j<|.list<|l.eraseIdx i)=some r): ∃y,its[i]? =some y/\Q y {g.s with heap:=g.s.heap.update a (bO λxs=>xs.eraseIdxIfInBounds i)}:=by
 refine(D.get _ _ hb).elim λy q_=>?_
 exact q_.elim λh1 h2=>⟨y,aF.symm.trans h1,zf (f:=λxs=>xs.eraseIdxIfInBounds i) q hr ea nz il hc ((congrArg (bg g.z g.s.heap _)<|toList_erase _ _).mpr<|D.erase i _ _) (η (List.length_eraseIdx_le _ _) hz) (v:=.d b) h2 e⟩
inductive U8(H:Hp)(j:Nat)(K:KV R)(r:R)(args:List V):PO->Prop
 |last {l:List D}:args=[]->K (.d<|l.getLast?.getD .none) ((H.ϴ<|l≠[]).put j<|.list l.dropLast)=some r->U8 H j K r args (.list l)
 |zero {b:D} {l:List D}:args=[.d<|.int 0]->K (.d b) (H.put j<|.list l)=some r->U8 H j K r args (.list<|b::l)
theorem Hh(e:DK kp H j 67 args K po=some r)(ha:args.length<=1):U8 H j K r args po:=by
 induction po with
 |list l=>
  rcases Mh ha with h|⟨w,h⟩
  ·subst h
   exact .last rfl<|lu<|show lock (K (.d<|l.getLast?.getD .none)<|(H.ϴ<|l≠[]).put j<|.list l.dropLast)=some r from e
  ·subst h
   induction w with
   |d d=>
    cases d with
    |int i=>
     induction l with
     |nil=>rcases i with(_|i)|i<;>exact Ϝ<|lu e
     |cons b l=>
      rcases i with(_|i)|i
      ·exact .zero rfl<|lu<|show lock (K (.d b)<|H.put j<|.list l)=some r from e
      ·exact Ϝ<|lu e
      ·exact Ϝ<|lu e
    |_=>exact Ϝ<|lu e
   |_=>exact Ϝ<|lu e
 |_=>exact Ϝ e
theorem Kq{α β:Type}{S:α->β->Prop}{l:List α}{ys:List β}{P:List β->Prop}(Y:Ϸ S l ys)(e:l=[])(q:P []):P ys:=by
 subst e
 exact(show ys=[] from Y)▸q
theorem lH{P:χ->Prop}{i:Int}(W:VR C g (.d<|.int i) y)(k: ∀t,P<|.int i t):P y:=by
 refine W.elim λt e=>?_
 exact e▸k t
theorem GY{n:Nat}(hl:l.length=n)(hn:l≠[]):l[n-1]? =some (l.getLast?.getD .none):=by
 rw[<-hl,<-qE]
 induction h:l.getLast? with
 |none=>exact absurd (List.getLast?_eq_none_iff.mp h) hn
 |some d=>rfl
theorem Su(e:DK kp g.H j 67 args K po=some r)(o:eo K r)(hp:g.H.get j=po)(ha:args.length<=1)(hr:HR C g)(X:VR C g (.obj j) x)(Y:Ϸ (VR C g) args ys)(q:Nd C g K r Q):WP C A (call (.builtin "list.pop")<|x::ys) Q g.s:=by
 have i:=Hh e ha
 clear e
 induction i with
 | @last l h e=>
  refine Kq (P:=λys=>WP C A (call (.builtin "list.pop")<|x::ys) Q g.s) Y h<|dY (P:=λx=>WP C A (call (.builtin "list.pop") [x]) Q g.s) hr X hp (λh=>PO.noConfusion h) λa ea O nz=>?_
  induction O with
  | @mk its k il z D=>
   have hl:=D.len.trans Ϙ
   rw[<-List.eraseIdx_length_sub_one (l:=l),hl] at e
   refine(pop_at (H:=g.H.ϴ _) _ (GY hl (o _ _ e).2) q hr ea nz rfl D z il e).elim λy q_=>q_.elim λh1 h2=>?_
   exact gY F.slot_list_pop ⟨_,il,rfl⟩ F.entry_list_pop (F.args_list_pop_1 _) (Kf a its k y h1<|qW hl z) ⟨il,h2⟩
 | @zero b l h e=>
  refine rF (P:=λys=>WP C A (call (.builtin "list.pop")<|x::ys) Q g.s) Y h λy W=>lH (P:=λy=>WP C A (call (.builtin "list.pop") [x,y]) Q g.s) W λt=>dY (P:=λx=>WP C A (call (.builtin "list.pop") [x,.int 0 t]) Q g.s) hr X hp (λh=>PO.noConfusion h) λa ea O nz=>?_
  induction O with
  | @mk its k il z D=>
   refine(pop_at (H:=g.H) 0 (l:=b::l) rfl q hr ea nz rfl D z il e).elim λy q_=>q_.elim λh1 h2=>?_
   exact gY F.slot_list_pop ⟨_,il,rfl⟩ F.entry_list_pop (F.args_list_pop_2 _ _) (Ka a its k 0 t 0 y (by decide) (seqIndex_at (by omega) (by have:=(Array.getElem?_eq_some_iff.mp h1).1;omega)) h1<|qW (D.len.trans Ϙ) z) ⟨il,h2⟩
variable{d:ό}
theorem l7{z:ό->Prop}{h:ao}{d:D}{l:List D}{m:List χ}(V:bg z h (d::l) (x::m)):DR z h d x/\bg z h l m:=by
 cases V with
 |mk a b=>exact⟨a,b⟩
theorem Cn{z:ό->Prop}{h:ao}{d:D}{l:List D}{m:List χ}(V:bg z h (d::l) m): ∃y m',m=y::m':=by
 induction V with
 |mk a b=>exact⟨_,_,rfl⟩
theorem sj{d:D}{l:List D}{i:List Int}(e:gD (d::l)=some i): ∃a b,qS d=some a/\gD l=some b/\i=a::b:=by
 refine(dG e).elim λa q_=>q_.elim λe1 e=>?_
 refine(fH e).elim λb q_=>q_.elim λe2 e=>?_
 exact⟨a,b,e1,e2,e.symm⟩
theorem Ax{d:D}{i:Int}{s:Χ}{Q:Int->Χ->Prop}(e:qS d=some i)(hu:A.units<cLine){z:ό->Prop}(X:DR z s.heap d x)(q: ∀t,Q i {s with toks:=t}):WP C A (pyHash x) Q s:=by
 cases d with
 |int k=>
  obtain⟨t,rfl⟩:=X
  cases ξ e
  exact wpAny_pyHash_int<|q _
 |tup l=>
  induction l with
  |nil=>
   induction X with
   | @mk a its n _ it _ vs=>
    cases ξ e
    exact wpAny_pyHash_tuple hu (⟨_,its,n,it,rfl,rfl,by rw[show its.toList=[] from vs];exact .nil⟩:IsTupleKey (intKind pw C.w) s.heap [] a)<|q _
  |cons _ _=>exact Ϝ e
 |_=>exact Ϝ e
inductive Ph(z:ό->Prop)(h:ao)(l:List D)(a:ό):Prop
 |mk {its:Array χ} {k:Nat}:h.get? a=some (gn true its k)->bg z h l its.toList->Ph z h l a
theorem xe{z:ό->Prop}{h:ao}{l:List D}{a:ό}(V:DR z h (.tup l) (.ref a)):Ph z h l a:=by
 cases V with
 |mk _ t _ v=>exact .mk t v
inductive HJ(z:ό->Prop)(s:Χ)(hs:List Int):List χ->Array Int->Χ->Prop
 |mk {l:List D} {left:List Int} {rest:List χ} {b:Array Int} {t:Nat}:hs=b.toList++left->gD l=some left->bg z s.heap l rest->HJ z s hs rest b {s with toks:=t}
inductive HN(z:ό->Prop)(s:Χ)(hs:List Int)(x:χ)(rest:List χ)(b:Array Int):Χ->Prop
 |mk {d:D} {i:Int} {t:Nat}:qS d=some i->DR z s.heap d x->(∀t',HJ z s hs rest (b.push i) {s with toks:=t'})->HN z s hs x rest b {s with toks:=t}
theorem GG{z:ό->Prop}{s s':Χ}{hs:List Int}{rest:List χ}{b:Array Int}(j:HJ z s hs (x::rest) b s'):HN z s hs x rest b s':=by
 cases j with
 | @mk l left _ _ t h hl hv=>
  induction l with
  |nil=>cases hv
  |cons v l=>
   refine(sj hl).elim λi q_=>q_.elim λleft' q_=>q_.elim λhi q_=>q_.elim λhl2 e=>?_
   exact .mk hi (l7 hv).1 λt'=>.mk (by rw[h,e,dM,Α];rfl) hl2 (l7 hv).2
theorem LG{z:ό->Prop}{s s':Χ}{hs:List Int}{b:Array Int}(j:HJ z s hs [] b s'):b.toList=hs/\∃t,s'={s with toks:=t}:=by
 cases j with
 | @mk l left _ _ t h hl hv=>
  induction l with
  |nil=>exact⟨by rw[h,show left=[] from(ξ hl).symm,Ν],t,rfl⟩
  |cons _ _=>cases hv
theorem GD{hs:List Int}{s:Χ}{Q:Int->Χ->Prop}(e:gD l=some hs)(hu:A.units+8<cLine){z:ό->Prop}(X:DR z s.heap (.tup l) (.ref a))(q: ∀t,Q (reduceHash<|cD hs) {s with toks:=t}):WP C A (pyHash<|.ref a) Q s:=by
 induction xe X with
 | @mk its n it vs=>
 have hT:s.TypeIs (.ref a) "tuple":=⟨_,it,rfl⟩
 first|unfold pyHashByItsType|skip
 first|refine ο (wpAny_cRoomFor_or (.inr<|vD hu) ?_)|skip
 refine ο<|tO hT F.slot_tuple_hash.lookup ?_
 rw[if_neg (by rw[beq_builtin_none];exact ϟ)]
 refine ο<|tO hT F.slot_tuple_hash.lookup ?_
 refine ο<|wpAny_callSpecialIfBoundUnlessNone?_slot hT F.slot_tuple_hash<|dc F.slot_tuple_hash hT F.entry_tuple_hash ?_ (F.args_tuple_hash_1 _)
 show wpAny _ _ (ku (.ref a)>>=_) _ _ s
 refine ο<|J4 it rfl ?_
 refine ο ?_
 rw[<-Array.forIn_toList]
 refine wpAny_forIn_list _ (HJ z s hs) _ ?_ ?_ _ _ (.mk rfl e vs)
 ·intro x rest b s' j
  induction GG j with
  |mk hi V h=>
   refine ο<|Ax hi (by show A.units+1<cLine;omega) V λt'=>?_
   first
    |exact Η<|h t'
    |exact ο<|Η<|Η<|h t'
 ·intro b s' j
  refine(LG j).elim λhb q_=>q_.elim λt e=>?_
  rw[<-hb] at q
  rw[e]
  refine wpAny_ret_mkInt ?_
  unfold reduceHash at q
  show wpAny _ _ (if(decide (-(2:Int)^63<=cD b.toList)&&decide (cD b.toList<2^63))=true then _ else _) Q _ _
  split
  ·next hr=>exact Η<|(if_pos hr▸q) _
  ·next hr=>exact ο<|nP<|Η<|(if_neg hr▸q) _
theorem uK{i:Int}{s:Χ}{Q:Int->Χ->Prop}(e:fG l=some i)(hu:A.units+8<cLine){z:ό->Prop}(X:DR z s.heap (.tup l) (.ref a))(q: ∀t,Q i {s with toks:=t}):WP C A (pyHash<|.ref a) Q s:=
 (fH e).elim λhs h=>GD h.1 hu X<|h.2▸q
theorem Aw{z:ό->Prop}{h:ao}{d d':D}{y:χ}{i i':Int}(p:DR z h d y)(q:DR z h d' y)(e:qS d=some i)(e':qS d'=some i'):i=i':=by
 cases d with
 |int k=>
  obtain⟨t,rfl⟩:=p
  cases d' with
  |int k'=>
   obtain⟨t,ek⟩:=q
   cases ek
   exact ξ<|e.symm.trans e'
  |tup _=>cases q
  |_=>exact Ϝ e'
 |tup k=>
  induction k with
  |cons _ _=>exact Ϝ e
  |nil=>
   cases p
   cases d' with
   |int k'=>
    refine q.elim λt ek=>?_
    cases ek
   |tup k'=>
    induction k' with
    |cons _ _=>exact Ϝ e'
    |nil=>exact ξ<|e.symm.trans e'
   |_=>exact Ϝ e'
 |_=>exact Ϝ e
theorem xq{z:ό->Prop}{h:ao}(l:List D): ∀(l':List D)(m:List χ),bg z h l m->bg z h l' m->∀i i',gD l=some i->gD l'=some i'->i=i':=by
 induction l with
 |nil=>
  intro l' m p q i i' e e'
  rw[show m=[] from p] at q
  induction l' with
  |nil=>exact ξ<|e.symm.trans e'
  |cons _ _=>exact(Cn q).elim λ_ h=>h.elim λ_ h=>absurd h.symm<|aq _ _
 |cons d l ih=>
  intro l' m p q i i' e e'
  refine(Cn p).elim λy q_=>q_.elim λm' em=>?_
  rw[em] at p q
  induction l' with
  |nil=>exact absurd q<|aq _ _
  |cons d' l' _=>
   refine(sj e).elim λa q_=>q_.elim λb q_=>q_.elim λe1 q_=>q_.elim λe2 e=>?_
   refine(sj e').elim λa' q_=>q_.elim λb' q_=>q_.elim λe1' q_=>q_.elim λe2' e'=>?_
   rw[e,e',ih _ _ (l7 p).2 (l7 q).2 _ _ e2 e2',Aw (l7 p).1 (l7 q).1 e1 e1']
theorem El{es:List (List D×V)}: ∀ds,Ϸ (UE C g) es ds->∀e∈ds,∃x∈es,UE C g x e:=by
 induction es with
 |nil=>exact λds h e m=>by cases h;cases m
 |cons x es ih=>
  rintro _ ⟨b,ds,rfl,p,q⟩ e m
  rcases Θ.mp m with rfl|m
  ·exact⟨x,.head _,p⟩
  ·exact(ih ds q e m).imp λ_ h=>⟨.tail _ h.1,h.2⟩
theorem za{es:List (List D×V)}{i:Int}(hm:dH es l=true)(e:fG l=some i){x:List D×V}(m:x∈es):fG x.1≠some i:=by
 unfold dH at hm
 rw[e] at hm
 exact bne_iff_ne.mp<|ϐ.mp hm _ m
theorem HB{T:Bool}{x y:Array χ}{n m:Nat}(e:gn T x n=gn T y m):y=x:=by
 cases e;rfl
theorem J5{α:Type}{c:Prop}[Decidable c]{t e:Kh α}{Q:α->Χ->Prop}{s:Χ}(h: ¬c)(k:WP C A e Q s):WP C A (ite c t e) Q s:=by rw[if_neg h];exact k
theorem H8{z:ό->Prop}{h:ao}{l l':List D}{a:ό}{i i':List Int}(V:DR z h (.tup l) (.ref a))(X:DR z h (.tup l') (.ref a))(e:gD l=some i)(e':gD l'=some i'):i=i':=
 (xe V).casesOn λt1 v1=>(xe X).casesOn λt2 v2=>xq _ _ _ v1 (HB (ξ<|t1.symm.trans t2)▸v2) _ _ e e'
theorem qO{es:List (List D×V)}{ds:Array ϧ}{o:e9}{ep:Nat}{i:Int}{Q:Option Nat->Χ->Prop}{t:Nat}(hm:dH es l=true)(e:fG l=some i)(X:DR g.z g.s.heap (.tup l) (.ref a))
 (ho:g.s.heap.get? d=some o) (hd:o.data= .dict ds ep) (T:Ϸ (UE C g) es ds.toList) (q:Q none {g.s with toks:=t}):WP C A (dictFind d (.ref a) i) Q {g.s with toks:=t}:=by
 have key: ∀e∈ds,e.hash≠i:=λe' he' hi=>by
  refine(El _ T e'<|jl.mpr he').elim λx q_=>q_.elim λm q_=>q_.elim λ_ q_=>q_.elim λhk _=>?_
  exact za hm e m<|hi▸hk
 have hp:placesWithHash ds.size (λi=>ds[i]?.map (·.hash)) i=[]:=by
  unfold placesWithHash
  rw[tR]
  intro j hj
  have hj':j<ds.size:=ϭ.mp hj
  show¬(((ds[j]?).map (·.hash))==some i)=true
  rw[p5 hj',A8]
  have:=key _<|Array.getElem_mem hj'
  simpa using this
 have hany: ¬(ds.any λe=>e.key==ru a&&e.hash !=i)=true:=by
  rw[<-mH,aW]
  rintro ⟨e',he',hc⟩
  obtain⟨x,m,⟨b,ka,V'⟩,hk,_⟩:=El _ T e' he'
  rw[ka] at hc
  refine(fH hk).elim λi1 q_=>q_.elim λe1 e1'=>?_
  refine(fH e).elim λi2 q_=>q_.elim λe2 e2'=>?_
  exact za hm e m<|hk.trans<|congrArg some<|e1'.symm.trans<|(congrArg (λz=>reduceHash<|cD z)<|H8 V' (X8 (eq_of_beq<|aL hc)▸X) e1 e2).trans e2'
 unfold dictFind
 try with_reducible refine ύ ?_
 refine ο<|wpAny_dictEntries ho hd ?_
 refine J5 (λh=>ff h)<|J5 hany ?_
 rw[hp]
 refine ο<|Η ?_
 exact Η q
theorem GA{N:Type}[DecidableEq N]{knd:A1 pw C.w N}{k:N}{key dflt:χ}{s:Χ}{kvs:List (N×χ)}(hd:(d==sysModules)=false)(hkey:knd.is k key=true)(hm:s.heap.DictOf knd d kvs)
 (q:Q ((valueAt kvs k).getD dflt) {s with toks:=s.toks+1}):WP C A (call (.builtin "dict.get") [.ref d,key,dflt]) Q s:=
 Yh F.slot_dict_get hm.mapOf.typeIs F.entry_dict_get (F.args_dict_get_3 _ _ _) (meets_dict_get_default knd d hkey hd dflt) ⟨_,hm.mapOf,q⟩
theorem Gz{N:Type}[DecidableEq N]{knd:A1 pw C.w N}{k:N}{key:χ}{s:Χ}{kvs:List (N×χ)}(hd:(d==sysModules)=false)(hkey:knd.is k key=true)(hm:s.heap.DictOf knd d kvs)
 (q:Q ((valueAt kvs k).getD .none) {s with toks:=s.toks+1}):WP C A (call (.builtin "dict.get") [.ref d,key]) Q s:=
 Yh F.slot_dict_get hm.mapOf.typeIs F.entry_dict_get (F.args_dict_get_2 _ _) (meets_dict_get knd d hkey hd) ⟨_,hm.mapOf,q⟩
theorem qX{i:Int}{es:List (Int×V)}{kvs:List (Int×χ)}{z:χ}(r:Ϸ (λe x=>e.1=x.1/\VR C g e.2 x.2) es kvs)(Z:VR C g v z):VR C g ((look i es).getD v) ((valueAt kvs i).getD z):=by
 refine(gA (P:=Eq) (AF (k:=i)) es _ r).elim λh1 h2=>?_
 induction e:look i es with
 |none=>
  rw[e] at h2
  induction e':valueAt kvs i with
  |none=>exact Z
  |some _=>rw[e'] at h2;cases h2
 |some v=>
  refine(h1 v e).elim λx q_=>q_.elim λq V=>?_
  rw[q];exact V
theorem Bw{α β:Type}{S:α->β->Prop}{a b:α}{l:List α}{ys:List β}{P:List β->Prop}(Y:Ϸ S l ys)(e:l=[a,b])(q: ∀y z,S a y->S b z->P [y,z]):P ys:=by
 subst e
 refine Y.elim λy q_=>q_.elim λ_ q_=>q_.elim λe q_=>q_.elim λW q_=>q_.elim λz q_=>q_.elim λ_ q_=>q_.elim λe1 q_=>q_.elim λZ e0=>?_
 exact e▸e1▸e0▸q y z W Z
inductive RG(es:List (Int×V))(H:Hp)(K:KV R)(r:R)(args:List V):Prop
 |one {i:Int}:args=[.d<|.int i]->K ((look i es).getD .none) H=some r->RG es H K r args
 |two {i:Int} {w:V}:args=[.d<|.int i,w]->K ((look i es).getD w) H=some r->RG es H K r args
theorem MO{es:List (Int×V)}(e:vh es H args K=some r)(ha:args.length<=2):RG es H K r args:=by
 induction args with
 |nil=>exact Ϝ e
 |cons w args=>
  induction w with
  |d w=>
   cases w with
   |int i=>exact(Mh<|iR ha).elim (λh=>.one (i:=i) (h▸rfl)<|(congrArg (λa=>K ((look i es).getD<|O1 a .none) H) h).symm.trans e) λ⟨w,h⟩=>.two (i:=i) (h▸rfl)<|(congrArg (λa=>K ((look i es).getD<|O1 a .none) H) h).symm.trans e
   |_=>exact Ϝ e
  |_=>exact Ϝ e
theorem zB{es:List (Int×V)}{kvs:List (Int×χ)}(hd:(d==sysModules)=false)(D:g.s.heap.DictOf (intKind pw C.w) d kvs)(r':Ϸ (λe x=>e.1=x.1/\VR C g e.2 x.2) es kvs)(e:vh es g.H args K=some r)(ha:args.length<=2)(hr:HR C g)(Y:Ϸ (VR C g) args ys)(q:Nd C g K r Q):WP C A (call (.builtin "dict.get")<|.ref d::ys) Q g.s:=
 (MO e ha).casesOn (λh e=>rF (P:=λys=>WP C A (call (.builtin "dict.get")<|.ref d::ys) Q g.s) Y h λy W=>lH (P:=λy=>WP C A (call (.builtin "dict.get") [.ref d,y]) Q g.s) W λt=>Gz hd (fM _ _ _ t) D<|bS q hr e<|qX r' vn)
  λh e=>Bw (P:=λys=>WP C A (call (.builtin "dict.get")<|.ref d::ys) Q g.s) Y h λy z W Z=>lH (P:=λy=>WP C A (call (.builtin "dict.get") [.ref d,y,z]) Q g.s) W λt=>GA hd (fM _ _ _ t) D<|bS q hr e<|qX r' Z
inductive R6(H:Hp)(K:KV R)(r:R)(args:List V):PO->Prop
 |di {es:List (Int×V)}:vh es H args K=some r->R6 H K r args (.di es)
 |dt {es:List (List D×V)} {l:List D} {w:V}:args=[.d<|.tup l,w]->dH es l=true->K w H=some r->R6 H K r args (.dt es)
theorem MK(e:DK kp H j 6 args K po=some r):R6 H K r args po:=by
 induction po with
 |di es=>exact .di e
 |dt es=>
  cases args with
  |nil=>exact Ϝ e
  |cons w args=>
   induction w with
   |d w=>
    cases w with
    |tup l=>
     rcases args with _|⟨w2,_|⟨_,_⟩⟩
     ·exact Ϝ e
     ·exact .dt rfl (bE<|show(if dH es l=true then K w2 H else none)=some r from e).1 (bE<|show(if dH es l=true then K w2 H else none)=some r from e).2
     ·exact Ϝ e
    |_=>exact Ϝ e
   |_=>exact Ϝ e
 |_=>exact Ϝ e
theorem qY{es:List (List D×V)}(hm:dH es l=true): ∃i,fG l=some i:=by
 unfold dH at hm
 induction h:fG l with
 |none=>rw[h] at hm;exact ff hm
 |some i=>exact⟨i,rfl⟩
theorem W9(S:dU C)(hu:A.units+64<cLine)(e:DK kp g.H j 6 args K po=some r)(hp:g.H.get j=po)(ha:args.length<=2)(hr:HR C g)(X:VR C g (.obj j) x)(Y:Ϸ (VR C g) args ys)(q:Nd C g K r Q):WP C A (call (.builtin "dict.get")<|x::ys) Q g.s:=by
 have i:=MK e
 clear e
 induction i with
 |di e=>
  refine dY (P:=λx=>WP C A (call (.builtin "dict.get")<|x::ys) Q g.s) hr X hp (λh=>PO.noConfusion h) λa ea O nz=>?_
  induction O with
  |mk D _ r'=>exact zB (lB S hr nz) D.dictOf r' e ha hr Y q
 | @dt es l w h hm e=>
  refine dY (P:=λx=>WP C A (call (.builtin "dict.get")<|x::ys) Q g.s) hr X hp (λh=>PO.noConfusion h) λa ea O nz=>Bw (P:=λys=>WP C A (call (.builtin "dict.get")<|.ref a::ys) Q g.s) Y h λb z B Z=>?_
  refine(qY hm).elim λi hi=>?_
  induction O with
  |mk ho hc hd _ T=>
   obtain⟨b',eb⟩: ∃b',b= .ref b':=by cases B;exact⟨_,rfl⟩
   rw[eb] at B⊢
   refine dc F.slot_dict_get ⟨_,ho,hc.1⟩ F.entry_dict_get ?_ (F.args_dict_get_3 _ _ _)
   show wpAny _ _ (dictGet a (.ref b')>>=_) _ _ _
   refine ο ?_
   unfold dictGet
   try with_reducible refine ύ ?_
   refine ο<|uK (z:=g.z) hi (by show A.units+1+8<cLine;omega) B λt=>?_
   refine ο<|qO hm hi B ho hd T ?_
   refine Η ?_
   exact ο<|wpAny_missed_other (lB S hr nz)<|Η ⟨z,rfl,bS q hr e Z⟩
theorem AS:typeOf (.builtin "list.append")=pure (.type "method_descriptor"):=by show builtinType _=_;rw[mR];kernel_rfl
theorem NT:typeOf (.builtin "list.pop")=pure (.type "method_descriptor"):=by show builtinType _=_;rw[mR];kernel_rfl
theorem NS:typeOf (.builtin "dict.get")=pure (.type "method_descriptor"):=by show builtinType _=_;rw[mR];kernel_rfl
theorem t1:txt 1= "append":=by kernel_rfl
theorem t6:txt 6= "get":=by kernel_rfl
theorem ZA:txt 67= "pop":=by kernel_rfl
inductive Bt(n:Nat):String->Prop
 |a:n=1->Bt n "list.append"
 |p:n=67->Bt n "list.pop"
 |g:n=6->Bt n "dict.get"
variable{i f:Nat}{tg:ID}{X:Cx}
inductive UB(H:Hp)(n:Nat):V->ID->Prop
 |ins {c i f:Nat} {es:List (Nat×V)}:gT c n=some f->H.get i= .at es->look n es=none->UB H n (.ins c i) (.fn f<|.ins c i)
 |cell {j:Nat}:Fb j n (H.get j)=some (.cell j)->UB H n (.obj j) (.cell j)
 |gd {k:Nat}:n=6->UB H n (.gd k) (.gd k)
theorem zA(e:Fb j n po=some tg):tg= .cell j:=by
 induction po with
 |list l=>exact(aC e).2.symm
 |vl l=>exact(aC e).2.symm
 |di l=>exact(aC e).2.symm
 |dt l=>exact(aC e).2.symm
 |_=>exact Ϝ e
theorem Ht(e:UU f c i n po=some tg): ∃es,po= .at es/\look n es=none/\tg= .fn f (.ins c i):=by
 induction po with
 |«at» es=>
  have e:W7 f c i n (look n es)=some tg:=e
  induction h:look n es with
  |none=>rw[h] at e;exact⟨es,rfl,h,(ξ e).symm⟩
  |some _=>rw[h] at e;exact Ϝ e
 |_=>exact Ϝ e
theorem DO(e:resolve H n v=some tg):UB H n v tg:=by
 induction v with
 |ins c i=>
  have e:(match gT c n with|some f=>UU f c i n (H.get i)|none=>none)=some tg:=e
  induction h:gT c n with
  |none=>rw[h] at e;exact Ϝ e
  |some f=>
   rw[h] at e
   refine(Ht e).elim λes q_=>q_.elim λh2 q_=>q_.elim λh3 h4=>?_
   exact h4▸.ins h h2 h3
 |obj j=>exact zA (show Fb j n (H.get j)=some tg from e)▸.cell (zA (show Fb j n (H.get j)=some tg from e)▸e)
 |gd k=>exact(aC e).2▸.gd (aC e).1
 |_=>exact Ϝ e
abbrev GM(C:Ctx)(A:Ϡ)(g:Sg)(n:Nat)(x:χ)(f:χ):Prop:=∀(pl:Kh Bool)(Q:χ×List χ->Χ->Prop),Q (f,[x]) g.s->WP C A (getMethod x (txt n) pl) Q g.s
theorem Ly{es:List (Nat×V)}(S:nQ C)(hm:n<c7)(hr:HR C g)(X:VR C g (.ins c i) x)(e1:g.H.get i= .at es)(e2:gT c n=some f)(e3:look n es=none):vN C (kE f)/\GM C A g n x (.ref<|kE f):=by
 obtain⟨a,d,ds,k,rfl,I⟩:=xB S hr X e1
 have hf:=I.1.2 n f e2
 refine⟨hf,λpl Q q=>?_⟩
 have L0:=I.type (M:=model pw C.w)
 have L3:=c6 hr<|I.1.1 n hm
 rw[e2] at L3
 refine hf.elim λfd hf=>?_
 refine ο<|ο<|L0.at ((c6 hr I.1.3).at ?_)
 show wpAny _ _ (if(Manifest.canonical "object.__getattribute__" != "object.__getattribute__")=true then _ else _) _ _ _
 rw[if_neg (by decide+kernel)]
 refine ο<|ο<|L0.at ((c6 hr I.1.4).at ?_)
 refine ο<|ο<|L0.at (L3.at ?_)
 refine ο<|((gj (hr.old _ _ hf).2).andThen .now:cO (model pw C.w) g.s.heap (typeOf<|.ref<|kE f) (.type "function")).at ?_
 refine ο<|eU I.3 ?_
 refine ο (m:=nsGet d<|txt n) ?_
 have LN:cO (model pw C.w) g.s.heap (nsGet d<|txt n) none:=by
  unfold nsGet
  refine(gj I.4).andThen ?_
  exact qG<|nsLook_of<|uT I.5<|(yt hm ds I.5).2 e3
 refine LN.at ?_
 exact ο<|nP<|Η q
theorem yN{its:Array χ}{k:Nat}(il:g.s.heap.get? a=some (gn false its k))(h:n=1∨n=67): ∃id,Bt n id/\GM C A g n (.ref a) (.builtin id):=by
 have hd: ∀b,ru a= .ref b->∃o,g.s.heap.get? b=some o/\o.dict=none:=λb e=>by cases e;exact⟨_,il,rfl⟩
 rcases h with rfl|rfl
 ·exact⟨_,.a rfl,λpl Q q=>by
   rw[t1]
   exact pV ⟨_,il,rfl⟩ p8 PySem.F.slot_list_append AS hd q⟩
 ·exact⟨_,.p rfl,λpl Q q=>by
   rw[ZA]
   exact pV ⟨_,il,rfl⟩ p8 PySem.F.slot_list_pop NT hd q⟩
theorem sf(hT:g.s.TypeIs (.ref a) "dict")(hd: ∀b,ru a= .ref b->∃o,g.s.heap.get? b=some o/\o.dict=none)(h:n=6): ∃id,Bt n id/\GM C A g n (.ref a) (.builtin id):=by
 subst h
 exact⟨_,.g rfl,λpl Q q=>by
  rw[t6]
  exact pV hT PySem.F.plainAttrs_dict PySem.F.slot_dict_get NS hd q⟩
theorem GB(hr:HR C g)(X:VR C g (.obj j) x)(e:Fb j n (g.H.get j)=some tg): ∃id,Bt n id/\GM C A g n x (.builtin id):=by
 obtain⟨po,hp⟩: ∃po,g.H.get j=po:=⟨_,rfl⟩
 rw[hp] at e
 induction po with
 |list l=>
  obtain⟨a,rfl,ea,O,nz⟩:=bY hr X hp<|λh=>PO.noConfusion h
  induction O with
  |mk il _ _=>exact yN il (aC e).1
 |vl l=>
  obtain⟨a,rfl,ea,O,nz⟩:=bY hr X hp<|λh=>PO.noConfusion h
  induction O with
  |mk il _ _=>exact yN il<|.inl (aC e).1
 |di l=>
  obtain⟨a,rfl,ea,O,nz⟩:=bY hr X hp<|λh=>PO.noConfusion h
  induction O with
  |mk D _ _=>exact sf D.dictOf.mapOf.typeIs D.dictOf.mapOf.noDict (aC e).1
 |dt l=>
  obtain⟨a,rfl,ea,O,nz⟩:=bY hr X hp<|λh=>PO.noConfusion h
  induction O with
  |mk ho hc _ _ _=>exact sf ⟨_,ho,hc.1⟩ (λb e=>by cases e;exact⟨_,ho,hc.2.1⟩) (aC e).1
 |_=>exact Ϝ e
theorem QU(S:dU C)(hr:HR C g)(X:VR C g (.gd i) x)(h:n=6): ∃id,Bt n id/\GM C A g n x (.builtin id):=by
 obtain⟨hk,rfl⟩:=X
 obtain⟨ns,D⟩:=S.2 i hk
 obtain⟨kvs,D,r⟩:=D g hr
 exact sf D.mapOf.typeIs D.mapOf.noDict h
abbrev o8(n k:Nat):Bool:=bif n==6 then decide (k<=2) else decide (k<=1)
theorem F9(hm:g.m=kp){id:String}(S:dU C)(hu:A.units+64<cLine)(b:Bt n id)(e:runC kp g.H j n args K=some r)(o:eo K r)(ha:o8 n args.length=true)(hr:HR C g)(X:VR C g (.obj j) x)(Y:Ϸ (VR C g) args ys)(q:Nd C g K r Q):WP C A (call (.builtin id)<|x::ys) Q g.s:=by
 induction b with
 |a h=>subst h;exact W8 hm e o rfl (of_decide_eq_true ha) hr X Y q
 |p h=>subst h;exact Su e o rfl (of_decide_eq_true ha) hr X Y q
 |g h=>subst h;exact W9 S hu e rfl (of_decide_eq_true ha) hr X Y q
variable{F:Fn}{pe:Ο}{env:Env}{f1:FE}{fl:FL}{e1:Ϛ}{xs:List Ϛ}{pos apos:gB}
theorem rn(e:Fb j n po=some tg):n=1∨n=67∨n=6:=by
 induction po with
 |list l=>exact(aC e).1.imp_right .inl
 |vl l=>exact .inl (aC e).1
 |di l=>exact .inr<|.inr (aC e).1
 |dt l=>exact .inr<|.inr (aC e).1
 |_=>exact Ϝ e
theorem sQ{po:PO}(o:eo K r)(e:K v (H.put j po)=some r):H.ok:=show(H.put j po).ok from o _ _ e
theorem zC{es:List (Int×V)}(e:vh es H args K=some r)(o:eo K r):H.ok:=by
 induction args with
 |nil=>exact Ϝ e
 |cons w args=>
  induction w with
  |d d=>
   cases d with
   |int i=>exact o _ _ e
   |_=>exact Ϝ e
  |_=>exact Ϝ e
theorem zD{l:List D}(hn:n=1∨n=67)(e:Sv H j l n args K=some r)(o:eo K r):H.ok:=by
 cases args with
 |nil=>
  refine(bE<|lu<|show lock (if n=67 then K (.d<|l.getLast?.getD .none) ((H.ϴ<|l≠[]).put j<|.list l.dropLast) else none)=some r from e).elim λ_ e=>?_
  exact(sQ (H:=H.ϴ _) o e).1
 |cons w args=>
  induction w with
  |d d=>
   rcases hn with rfl|rfl
   ·exact(sQ (H:=H.ϴ _) o<|lu<|show lock (K .none<|(H.ϴ<|l.length<big).put j<|.list<|l++[d])=some r from e).1
   ·cases d with
    |int i=>
     cases l with
     |nil=>rcases i with(_|i)|i<;>exact Ϝ<|lu e
     |cons b l=>
      rcases i with(_|i)|i
      ·exact sQ o<|lu<|show lock (K (.d b)<|H.put j<|.list l)=some r from e
      ·exact Ϝ<|lu e
      ·exact Ϝ<|lu e
    |_=>exact Ϝ<|lu e
  |_=>exact Ϝ<|lu e
theorem Sj(hn:n=1∨n=67∨n=6)(e:DK kp H j n args K po=some r)(o:eo K r):H.ok:=by
 induction po with
 |list l=>
  rcases hn with rfl|rfl|rfl
  ·exact zD (.inl rfl) e o
  ·exact zD (.inr rfl) e o
  ·exact Ϝ e
 |vl l=>
  rcases hn with rfl|rfl|rfl
  ·induction kp with
   |false=>exact Ϝ e
   |true=>
    rcases args with _|⟨w,_|⟨_,_⟩⟩
    ·exact Ϝ e
    ·exact(sQ (H:=H.ϴ _) o e).1
    ·exact Ϝ e
  ·exact Ϝ e
  ·exact Ϝ e
 |di es=>
  rcases hn with rfl|rfl|rfl
  ·exact Ϝ e
  ·exact Ϝ e
  ·exact zC e o
 |dt es=>
  rcases hn with rfl|rfl|rfl
  ·exact Ϝ e
  ·exact Ϝ e
  ·rcases args with _|⟨w,args⟩
   ·exact Ϝ e
   ·induction w with
    |d d=>
     cases d with
     |tup k=>
      rcases args with _|⟨w2,_|⟨_,_⟩⟩
      ·exact Ϝ e
      ·exact o _ _ (bE<|show(if dH es k=true then K w2 H else none)=some r from e).2
      ·exact Ϝ e
     |_=>exact Ϝ e
    |_=>exact Ϝ e
 |_=>exact Ϝ e
theorem xS{f:Run R (KL R)}(e:L6 X f n K v H=some r): ∃tg,resolve H n v=some tg/\f H (GS X n K tg)=some r:=by
 unfold L6 at e
 induction h:resolve H n v with
 |none=>rw[h] at e;exact Ϝ e
 |some tg=>rw[h] at e;exact⟨tg,rfl,e⟩
theorem DQ{H0:Hp}{u:Bool}(hC:fR C X.C N u)(h:resolve H0 n v=some tg)(e:GS X n K tg args H=some r)(o:eo K r):H.ok:=by
 have h:=DO h
 induction h with
 |ins _ _ _=>exact zK hC e o
 |cell h=>exact Sj (rn h) e o
 |gd _=>exact zC e o
theorem Gu(h:SL C A F pe fl xs)(hl:xs.length<20)(pos:gB):methodCallForm (xs.length+([]:List Keyword).length) (backTo pos<|starEach xs pe) (backToKw pos<|keywordEach [] pe)=true:=by
 have h2:(backTo pos<|starEach xs pe).all (λy=>!y.1)=true:=by
  rw[ϐ]
  intro y hy
  induction hq:y.1 with
  |false=>rfl
  |true=>exact absurd ((h.star pos).symm.trans<|aW.mpr ⟨y,hy,hq⟩)<|λh=>ff h
 unfold methodCallForm
 rw[h2]
 rw[show backToKw pos (keywordEach [] pe)=[] from rfl]
 simp
 omega
theorem Ϸ.cons{α β:Type}{S:α->β->Prop}{a:α}{b:β}{l:List α}{m:List β}(p:S a b)(q:Ϸ S l m):Ϸ S (a::l) (b::m):=⟨b,m,rfl,p,q⟩
theorem Lw{id:String}{k:Sg}(S:dU C)(h3:n=6)(b:Bt n id)(W0:VR C g (.gd j) y)(hr':HR C k)(W:Ϸ (VR C k) args ys)(ha:o8 n args.length=true)(e:GS X n K (.gd j) args k.H=some r)(q:Nd C k K r Q):WP C A (call (.builtin id)<|y::ys) Q k.s:=by
 subst h3
 obtain⟨hk,rfl⟩:=W0
 obtain⟨ns,D⟩:=S.2 j hk
 refine(D _ hr').elim λkvs q_=>q_.elim λD r'=>?_
 induction b with
 |g _=>exact zB (beq_eq_false_iff_ne.mpr ns) D r' e (of_decide_eq_true ha) hr' W q
 |a h=>exact absurd h (by decide)
 |p h=>exact absurd h (by decide)
theorem PR{id:String}{l:Nat}(b:Bt n id)(ha:(n !=1&&n !=67&&n !=6)||o8 n l):o8 n l=true:=by
 induction b with
 |a h=>subst h;exact ha
 |p h=>subst h;exact ha
 |g h=>subst h;exact ha
theorem VX(hX:X.k=F.m)(S:dU C)(A_:nQ C)(hC:fR C X.C N X.k)(hA:zR A N)(hn:n<c7)(hb:Bs pe e1)(hline:(apos.endLine==pos.line)=true)(hl:xs.length<20)(ha:(n !=1&&n !=67&&n !=6)||o8 n xs.length)(h1:SE C A F pe f1 (eval e1 pe))(h:SL C A F pe fl xs):ST C A F pe (λenv H K=>f1 env H (L6 X (fl env) n K)) (.Call (.Attribute e1 (txt n) apos) xs [] pos):=SE.st ⟨λe o=>h1.1 e λv H e=>(xS e).elim λtg q=>h.ok q.2 λvs H e=>DQ hC q.1 e o,
 λ{R r K env g Q} e o hr f q=>by
  have hpos:methodCallPos true e1 pe apos pos=pure pos:=by unfold methodCallPos;simp[hline]
  rw[arm_eval_Call,hb]
  refine ο<|h1.2 e (λv H e=>(xS e).elim λtg q=>h.ok q.2 λvs H e=>DQ hC q.1 e o) hr f λk v y L hr W0 e=>?_
  refine ο<|aE ?_
  unfold methodCall
  rw[Gu h hl]
  have bt {K:KL R} (e:fl env k.H K=some r) (ok: ∀vs H,K vs H=some r->H.ok) {id:String} (b:Bt n id) (run: ∀{k':Sg}{vs:List V}{ys:List χ},o8 n vs.length=true->Le [] k k'->HR C k'->Ϸ (VR C k') vs ys->K vs k'.H=some r->WP C A (call (.builtin id)<|y::ys) Q k'.s):WP C A (do let callPos <-methodCallPos true e1 pe apos pos;callWith callPos (.builtin id) [y] (backTo pos<|starEach xs pe) (backToKw pos<|keywordEach [] pe)) Q k.s:=
   ο (Ff hpos<|Calls.callWith_builtin (h.star pos)<|cI (h.arg pos<|h.w pos e ok hr (f.le L) λk' vs ys l M hr' W e=>run (l▸PR b ha) M hr' W e) (λa s h=>h.elim λys h=>h.1▸h.2) λ_ _ e=>e)
  refine(xS e).elim λtg e=>?_
  have ok (vs:List V) (H:Hp) (e':GS X n K tg vs H=some r):H.ok:=DQ hC e.1 e' o
  have rs:=DO e.1
  have e:=e.2
  induction rs with
  |ins e2 e1 e3=>
   have gm:=Ly (A:=A) A_ hn hr W0 e1 e2 e3
   exact ο<|ύ<|gm.2 _ _<|ο<|Ff hpos<|call_of (first:=[y]) (.inl rfl) (yX gm.1) h e ok hr (f.le L) λk' vs ys l M hr' W e=>JX hC ((M.md.trans L.md).trans<|f.md.trans hX.symm) hA.c hr' (Ϸ.cons (M.v _ _ W0) W) e o<|b_ (L.trans M) q
  |cell h3=>exact(GB (A:=A) hr W0 h3).elim λid h=>ο<|ύ<|h.2 _ _<|bt e ok h.1 λha M hr' W e=>F9 ((M.md.trans L.md).trans<|f.md.trans hX.symm) S hA.u h.1 e o ha hr' (M.v _ _ W0) W<|b_ (L.trans M) q
  | @gd j h3=>
   refine(QU (A:=A) S hr W0 h3).elim λid h=>ο<|ύ<|h.2 _ _<|bt e ok h.1 λha M hr' W e=>?_
   exact Lw S h3 h.1 W0 hr' W ha e (b_ (L.trans M) q)⟩ (λ_=>rfl) ⟨λ_ _=>rfl,λ_=>rfl,λ_=>rfl,λ_ _=>rfl⟩
end
section
variable{C:Ctx}{A:Ϡ}{g:Sg}{R:Type}{r:R}{K:KV R}{H:Hp}{v w u:V}{x y:χ}{Q:χ->Χ->Prop}{j n m N c i f:Nat}{l:List D}{a d:ό}{T:Bool}{F:Fn}{pe:Ο}{env:Env}{f1:FE}{e1:Ϛ}{pos:gB}{b:Nat}
theorem BP(e:builtin b v H K=some r):(∃T l,sq H v=some (T,l)/\(T=true->b<3)/\UJ b H K l=some r)∨∃j l,v= .obj j/\H.get j= .vl l/\b=0/\K (.int l.length) H=some r:=by
 induction v with
 |obj j=>
  have e:=lu<|show lock (Vy b H K<|H.get j)=some r from e
  induction h:H.get j with
  |list l=>
   rw[h] at e
   exact .inl ⟨false,l,congrArg (E8<|pP false) h,(λh=>ff h),e⟩
  |vl l=>
   rw[h] at e
   induction b with
   |zero=>exact .inr ⟨j,l,rfl,h,rfl,e⟩
   |succ b=>exact Ϝ e
  |_=>rw[h] at e;exact Ϝ e
 |d d=>
  cases d with
  |tup l=>
   rcases b with _|_|_|b
   ·exact .inl ⟨true,l,rfl,λ_=>by decide,e⟩
   ·exact .inl ⟨true,l,rfl,λ_=>by decide,e⟩
   ·exact .inl ⟨true,l,rfl,λ_=>by decide,e⟩
   ·induction b<;>exact Ϝ e
  |lst l=>exact .inl ⟨false,l,rfl,(λh=>ff h),e⟩
  |_=>exact Ϝ e
 |_=>exact Ϝ e
theorem KC(e:UJ b H K l=some r)(o:eo K r):H.ok:=by
 rcases b with _|_|_|_|_|b
 ·exact o _ _ e
 ·exact(cG (c:=0) e o).1
 ·exact(cG (c:=1) e o).1
 ·exact(uG o e).1
 ·exact(aN e).elim λm h=>o _ _ h.2
 ·induction b<;>exact Ϝ e
theorem IS(e:builtin b v H K=some r)(o:eo K r):H.ok:=(BP e).elim (λh=>h.elim λ_ h=>h.elim λ_ h=>KC h.2.2 o) λh=>h.elim λ_ h=>h.elim λ_ h=>o _ _ h.2.2.2
theorem G5{z:ό->Prop}{h:ao}{m:Int}: ∀xs,bg z h l xs->qw l=some m->∃is:List Int,xs.map (λv=>match v with| .int i _=>i|_=>0)=is/\(∀v∈xs,∃i t,v= .int i t)/\m∈is/\∀i∈is,i<=m:=by
 induction l generalizing m with
 |nil=>exact λxs _ e=>Ϝ e
 |cons d l ih=>
  intro xs q e
  induction q with
  | @mk y xs V r=>
   cases d with
   |int i=>
    obtain⟨t,rfl⟩:=V
    cases l with
    |nil=>
     cases ξ e
     cases(show xs=[] from r)
     exact⟨[m],rfl,λv hv=>⟨m,t,υ.mp hv⟩,.head _,λj hj=>Og<|υ.mp hj⟩
    |cons d' l=>
     obtain⟨m',e',rfl⟩:=fH<|show(qw<|d'::l).map (λm=>if i<m then m else i)=some m from e
     obtain⟨is,b,c,d,f⟩:=ih xs r e'
     refine⟨i::is,by rw[aU,b],λv hv=>?_,?_,λj hj=>?_⟩
     ·rcases Θ.mp hv with rfl|hv
      ·exact⟨_,_,rfl⟩
      ·exact c v hv
     ·split
      ·exact .tail _ d
      ·exact .head _
     ·rcases Θ.mp hj with rfl|hj
      ·split<;>omega
      ·have:=f j hj;split<;>omega
   |_=>exact Ϝ e
noncomputable def Ou(b:Nat):χ:=num b [.builtin "len",.type "list",.type "list",.type "tuple",.builtin "max"] .none
theorem Mj{its:Array χ}{n:Nat}{m:Int}(hh:A.handled=none)(il:g.s.heap.get? a=some (gn false its n))(D:bg g.z g.s.heap l its.toList)(em:qw l=some m)(hr:HR C g)(e:K (.int m) g.H=some r)(q:Nd C g K r Q):WP C A (call (.builtin "max") [.ref a]) Q g.s:=by
 obtain⟨is,hb,hc,hd,hf⟩:=G5 _ D em
 have at_: ∀j v,its[j]? =some v->∃t,v=Pj (is.getD j 0) t:=λj v ev=>by
  rw[<-aF] at ev
  obtain⟨i,t,rfl⟩:=hc v<|Υ ev
  refine⟨t,?_⟩
  have:is[j]? =some i:=by rw[<-hb,ϒ,ev];rfl
  rw[bh,this];rfl
 have hsz:its.size=is.length:=by
  have:=congrArg au hb
  rw[ς,Ϙ] at this;exact this
 have hne:0<its.size:=by rw[hsz];exact List.length_pos_of_mem hd
 have hlt:a<g.s.heap.objs.size:=cM il
 refine call_max_walk<|pZ (aJ il) ?_
 refine⟨g.s.heap.objs.size,_,_,_,_,_,λi j=>decide<|is.getD i 0>is.getD j 0,rfl,Walks.list (A:=A.in1) hh _ a (iS hlt) its,⟨⟨_,aB _ rfl,rfl,rfl⟩,(aJ il).push _⟩,?_,hne,?_,?_⟩
 ·intro b hb
  show b<(g.s.heap.push _).objs.size
  rw[dN]
  rcases Θ.mp hb with rfl|hb
  ·exact ϝ _
  ·rcases Θ.mp hb with rfl|hb
   ·exact mO hlt
   ·cases hb
 ·exact CmpOf.ints_gt (λj=>is.getD j 0) at_
 ·intro v h' tk hP hk
  refine(at_ _ _ hP).elim λt e_1=>?_
  subst e_1
  have old: ∀b o,g.s.heap.get? b=some o->h'.get? b=some o:=λb o e=>hk b o (λhm=>by
   rw[υ.mp hm] at e;exact absurd (cM e) (a_ _)) (af _ e)
  have key:is.getD (argBest (λi j=>decide<|is.getD i 0>is.getD j 0)<|its.size-1) 0=m:=by
   obtain⟨a1,a2⟩:=argBest_gt (λj=>is.getD j 0)<|its.size-1
   obtain⟨j,hj,rfl⟩:=List.mem_iff_getElem.mp hd
   have a3:=a2 j (by omega)
   have gd: ∀(k:Nat)(hk:k<is.length),is.getD k 0=is[k]:=λk hk=>by rw[bh,ϊ hk];rfl
   have hb:=hf _<|g4<|show argBest (λi j=>decide<|is.getD i 0>is.getD j 0) (its.size-1)<is.length by omega
   rw[<-gd _ (by omega)] at hb
   rw[gd j hj] at a3
   exact Fq hb a3
  rw[key]
  exact Dv q hr old rfl e ki
theorem ze{k:Nat}{its:Array χ}{T:Bool}(hr:HR C g)(z:its.size<=sizeLine)(il:g.s.heap.get? a=some (gn T its k))(D:bg g.z g.s.heap l its.toList)(e:newL c g.H l K=some r)(o:eo K r)(q:Nd C g K r Q):WP C A (call (.type "list") [.ref a]) Q g.s:=
 call_list_seq a (by induction T with|true=>exact .inr rfl|false=>exact .inl rfl) il rfl rfl (λh' c k hn=>lA (H:=g.H) q hr k (ϱ _) hn D rfl e o) z
theorem none_of{h h':ao}(k: ∀b o,h.get? b=some o->h'.get? b=some o):h.get? h'.objs.size=none:=by
 induction e:h.get? h'.objs.size with
 |none=>rfl
 |some o=>exact absurd (cM<|k _ _ e)<|a_ _
theorem PT(hh:A.handled=none)(hr:HR C g)(e:builtin b v g.H K=some r)(o:eo K r)(X:VR C g v x)(q:Nd C g K r Q):WP C A (call (Ou b) [x]) Q g.s:=by
 rcases BP e with⟨T,l,h,ht,e⟩|⟨j,l,rfl,h,rfl,e'⟩
 ·have S:Bb g T l x:=mY hr X h
  induction S with
  | @mk a its k il z D=>
   have hl:=D.len.trans Ϙ
   have hz:=qW hl z
   have hz2:its.size<2^63:=by rw[show sizeLine=16777216 by decide] at hz;omega
   rcases b with _|_|_|_|_|b
   ·have e:K (.int l.length) g.H=some r:=e
    rw[hl] at e
    induction T with
    |true=>exact vX il (by omega)<|bS q hr e ki
    |false=>exact yy (aJ il) (Oh.mp hz2)<|bS q hr e ki
   ·exact ze (c:=0) hr hz il D e o q
   ·exact ze (c:=1) hr hz il D e o q
   ·induction T with
    |true=>exact absurd (ht rfl) (by decide)
    |false=>exact call_tuple_list (aJ il) (λh' k=>mz (T:=true) (n:=0) (H:=g.H.ϴ _) q hr (λb o e=>af _<|k b o e) (none_of k) (IsT.new _ _) rfl D z e) hz
   ·induction T with
    |true=>exact absurd (ht rfl) (by decide)
    |false=>
     obtain⟨m,em,e⟩:=aN e
     exact Mj hh il D em hr e q
   ·induction b<;>exact Ϝ e
 ·obtain⟨a,rfl,ea,O,nz⟩:=bY hr X h<|λh=>PO.noConfusion h
  induction O with
  | @mk its k il z D=>
   have hl:=(bQ _ D).trans Ϙ
   rw[hl] at e'
   exact yy (aJ il) (by unfold big at z;omega)<|bS q hr e' ki
variable{f2:FE}{e2:Ϛ}
theorem VP{id:ak}{p:gB}(hh:A.handled=none)(hg:mJ C id (Ou b))(hk:pe.kindOf id=some .globalImplicit)(hd:(id==("__debug__":ak))=false)(hb:b<5)(h1:ST C A F pe f1 e1):ST C A F pe (λenv H K=>f1 env H (Rc b K)) (.Call (.Name id p) [e1] [] pos):=SE.st ⟨λe o=>h1.v.1 e λv H e=>IS e o,
 λ{R r K env g Q} e o hr fr q=>bH (i9 hg hk hd hr fr (by
  have z:WP C A (eval e1 pe) (λv s=>WP C A (call (Ou b) [v]) Q s) g.s:=h1.v.2 e (λv H e=>IS e o) hr fr λk v y L hr V e=>PT hh hr e o V<|b_ L q
  show WP C A (callWith pos (Ou b) [] (backTo pos<|starEach [e1] pe) []) Q g.s
  rw[h1.p.1]
  rcases b with _|_|_|_|_|b
  ·exact pU z
  ·exact gX z
  ·exact gX z
  ·exact gX z
  ·exact pU z
  ·exact absurd hb (ϯ.mpr (ϣ 5 b))))⟩ (λ_=>rfl) ⟨λ_ _=>rfl,λ_=>rfl,λ_=>rfl,λ_ _=>rfl⟩
inductive lK(g:Sg)(it:ό):Option (Nat×PO)->List D->Prop
 |tu {t:ό} {its:Array χ} {n:Nat} {l:List D} (i:Nat):g.z t->g.s.heap.get? t=some (gn true its n)->bg g.z g.s.heap l its.toList->g.s.heap.IsTupleIter it t i->lK g it none (l.drop i)
 |ls {t:ό} {its:Array χ} {n:Nat} {l:List D} (i:Nat):g.z t->g.s.heap.get? t=some (gn false its n)->bg g.z g.s.heap l its.toList->g.s.heap.IsListIter it t i->lK g it none (l.drop i)
 |rn {x left:Int}:IsRangeIter g.s.heap it x left 1->lK g it none (Ϫ x<|x+left)
 |li {j:Nat} {a:ό} {l:List D} (i:Nat):g.r[j]? =some a->g.s.heap.IsListIter it a i->lK g it (some (j,.list l)) (l.drop i)
 |di {j:Nat} {a:ό} {es:List (Int×V)} (i:Nat):g.r[j]? =some a->g.s.heap.IsKeyIter it a i es.length es.length->lK g it (some (j,.di es)) ((es.map λe=>D.int e.1).drop i)
end
section
variable{C:Ctx}{A:Ϡ}{g k g0:Sg}{own:List ό}{it:ό}{kp:Option (Nat×PO)}{l xs:List D}{x:D}{h:ao}{t:Nat}
abbrev kL(kp:Option (Nat×PO))(H:Hp):Prop:=∀j o,kp=some (j,o)->H.c[j]? =some o
theorem lK.mono(pre:g.r<+:k.r)(zz: ∀a,g.z a->k.z a)(im: ∀a,g.z a->k.s.heap.get? a=g.s.heap.get? a)(e: ∀o,g.s.heap.get? it=some o->k.s.heap.get? it=some o)(I:lK g it kp l):lK k it kp l:=by
 induction I with
 |tu i z q D x=>obtain⟨o,e',r⟩:=x;exact .tu i (zz _ z) ((im _ z).trans q) (bg.mono zz im _ _ D) ⟨o,e _ e',r⟩
 |ls i z q D x=>obtain⟨o,e',r⟩:=x;exact .ls i (zz _ z) ((im _ z).trans q) (bg.mono zz im _ _ D) ⟨o,e _ e',r⟩
 |rn x=>exact .rn<|e _ x
 |li i ea x=>obtain⟨o,e',r⟩:=x;exact .li i (nM pre ea) ⟨o,e _ e',r⟩
 |di i ea x=>obtain⟨o,e',r⟩:=x;exact .di i (nM pre ea) ⟨o,e _ e',r⟩
theorem lK.le(I:lK g it kp l)(o:Own g it)(L:Le own g k)(n:it∉own):lK k it kp l:=I.mono L.pre L.zz L.im λb e=>L.kp _ _ e o.2 n
theorem drop_cons{α:Type}{l xs:List α}{x:α}{i:Nat}(e:l.drop i=x::xs):l[i]? =some x/\xs=l.drop (i+1):=by
 have h1:i<l.length:=by
  refine cK (mL i l.length) (λh=>?_) λh=>?_
  ·exact h
  ·rw[List.drop_of_length_le h] at e;cases e
 rw[List.drop_eq_getElem_cons h1] at e
 cases e
 exact⟨ϊ h1,rfl⟩
theorem drop_nil{α:Type}{l:List α}{i:Nat}(e:l.drop i=[]):l[i]? =none:=vA<|List.drop_eq_nil_iff.mp e
theorem sS{a n:Int}(e:Ϫ a n=x::xs):a<n/\x= .int a/\xs=Ϫ (a+1) n:=by
 unfold Ϫ at e⊢
 induction hm:(n-a).toNat with
 |zero=>rw[hm] at e;cases e
 |succ m=>
  rw[hm,List.range_succ_eq_map,aU,Ϲ] at e
  have e3:(n-(a+1)).toNat=m:=by rw[<-Int.sub_sub,Int.pred_toNat,hm];rfl
  refine⟨Int.lt_of_sub_pos<|Oh.mp<|hm▸cT m,(bC e).1.symm.trans<|congrArg D.int<|Int.add_zero a,?_⟩
  rw[e3,<-(bC e).2]
  exact jU λk _=>congrArg D.int ((congrArg (a+ ·)<|Of k 1).trans (Int.add_assoc a 1 k).symm)
theorem u5{a n:Int}(e:Ϫ a n=[]):n<=a:=by
 unfold Ϫ at e
 have:=congrArg au e
 simp at this
 exact Int.le_of_sub_nonpos this
abbrev Nx(C:Ctx)(g:Sg)(it:ό)(kp:Option (Nat×PO))(x:D)(xs:List D)(Q:Option χ->Χ->Prop):Prop:=∀k v,Le [it] g k->HR C k->k.H=g.H->lK k it kp xs->DR k.z k.s.heap x v->Q (some v) k.s
theorem uZ{Q:Option χ->Χ->Prop}{v:χ}(hr:HR C g)(o:Own g it)(sb:b8 it g.s.heap h)(ne:h.get? it≠none)(X:DR g.z g.s.heap x v)(I:lK (g.up g.H h t) it kp xs)(q:Nx C g it kp x xs Q):Q (some v) (g.up g.H h t).s:=
 have L:Le [it] g (g.up g.H h t):=jh o sb ne (.head _) rfl
 q _ v L (pA hr o sb ne rfl) rfl I (DR.mono L.zz L.im _ _ X)
theorem sC{Q:Option χ->Χ->Prop}(I:lK g it kp l)(hl:l=x::xs)(S:kL kp g.H)(hr:HR C g)(o:Own g it)(q:Nx C g it kp x xs Q):WP C A (pyNext<|.ref it) Q g.s:=by
 induction I with
 |tu i z e D hi=>
  obtain⟨e1,rfl⟩:=drop_cons hl
  obtain⟨y,ey,X⟩:=D.get _ _ e1
  refine wpAny_pyNext_tuple_item hi ⟨_,e,rfl,_,rfl⟩ (aF.symm.trans ey) λh' hi' sb=>?_
  obtain⟨b,hb,_⟩:=id hi'
  have L:Le [it] g (g.up g.H h' g.s.toks):=jh o sb (ϖ hb) (.head _) rfl
  exact uZ hr o sb (ϖ hb) X (.tu (i+1) z ((L.im _ z).trans e) (bg.mono L.zz L.im _ _ D) hi') q
 |ls i z e D hi=>
  obtain⟨e1,rfl⟩:=drop_cons hl
  obtain⟨y,ey,X⟩:=D.get _ _ e1
  refine Bf hi (aJ e) (aF.symm.trans ey) λh' hi' sb=>?_
  obtain⟨b,hb,_⟩:=id hi'
  have L:Le [it] g (g.up g.H h' g.s.toks):=jh o sb (ϖ hb) (.head _) rfl
  exact uZ hr o sb (ϖ hb) X (.ls (i+1) z ((L.im _ z).trans e) (bg.mono L.zz L.im _ _ D) hi') q
 | @rn x' left hi=>
  obtain⟨e1,rfl,rfl⟩:=sS hl
  refine wpAny_pyNext_range_item hi (by omega) λh' hi' sb=>?_
  refine uZ (x:=.int x') hr o sb (ϖ hi') ⟨_,rfl⟩ ?_ q
  rw[show x'+left=(x'+1)+(left-1) by omega]
  exact .rn hi'
 | @li j a l i ea hi=>
  refine(drop_cons hl).elim λe1 e_1=>?_
  subst e_1
  refine(hr.at_ j _ a (S _ _ rfl) ea).elim λO nz=>?_
  induction O with
  |mk il z D=>
   obtain⟨y,ey,X⟩:=D.get _ _ e1
   refine Bf hi (aJ il) (aF.symm.trans ey) λh' hi' sb=>?_
   obtain⟨b,hb,_⟩:=id hi'
   exact uZ hr o sb (ϖ hb) X (.li (i+1) ea hi') q
 | @di j a es i ea hi=>
  refine(drop_cons hl).elim λe1 e_1=>?_
  subst e_1
  obtain⟨O,nz⟩:=hr.at_ j _ a (S _ _ rfl) ea
  induction O with
  | @mk kvs D z r=>
   have hlen:=bQ _ r
   rw[ϒ] at e1
   obtain⟨⟨kk,vv⟩,e2,rfl⟩:=dF.mp e1
   obtain⟨⟨k',v'⟩,e4,e5,_⟩:=r.get _ _ e2
   cases(show kk=k' from e5)
   have hi2:=hi
   rw[hlen] at hi D
   refine wpAny_pyNext_dict_item hi D e4 λkey h' hkey hi' sb=>?_
   obtain⟨b,hb,_⟩:=id hi'
   have: ∃t,key= .int kk t:=by induction key<;>simp[intKind,Value.isInt] at hkey;exact⟨_,by rw[hkey]⟩
   obtain⟨t,rfl⟩:=this
   rw[<-hlen] at hi'
   exact uZ (x:=.int kk) hr o sb (ϖ hb) ⟨_,rfl⟩ (.di (i+1) ea hi') q
variable{R:Type}{r:R}{F:Fn}{pe:Ο}{env:Env}{H:Hp}{v w:V}{y z:χ}{f1 f2:FE}{e1 e2:Ϛ}{pos:gB}
theorem oJ(L:Le own g0 g)(n0:g0.s.heap.get? it=none)(hr:HR C g0)(x:dm it g.s.heap h):Le own g0 (g.up g.H h t):=
 have up {a:ό} {o:e9} (q:g0.s.heap.get? a≠none) (e:g.s.heap.get? a=some o):h.get? a=some o:=x a o (λz=>q<|z▸n0) e
 have nn {a:ό} {o:e9} (e:g0.s.heap.get? a=some o):g0.s.heap.get? a≠none:=ϖ e
 {pre:=L.pre,zz:=L.zz,
  im:=λa q=>by
   have q':=hr.ex a<|.inl q
   induction e:g0.s.heap.get? a with
   |none=>exact absurd e q'
   |some o=>exact up q'<|(L.im a q).trans e,
  kp:=λa o e n m=>up (nn e)<|L.kp a o e n m,ex:=λa q=>by
   induction e:g.s.heap.get? a with
   |none=>exact absurd e<|L.ex a q
   |some o=>exact ϖ<|up q e,
  fr:=L.fr,fz:=L.fz,md:=L.md,hf:=L.hf,sh:=by
   show({g.s with heap:=h,toks:=t}:Χ)={g0.s with heap:=h,toks:=t}
   rw[L.sh]}
theorem r8(hr:HR C g)(nz: ¬g.z it)(x:dm it g.s.heap h)(a:ό)(q:g.z a):h.get? a=g.s.heap.get? a:=by
 induction e:g.s.heap.get? a with
 |none=>exact absurd e<|hr.ex a<|.inl q
 |some o=>exact x a o (λz=>nz<|z▸q) e
theorem Le.drop{own':List ό}{m:Sg}(L:Le own g k)(M:Le own' k m)(n: ∀a∈own',a∈own∨g.s.heap.get? a=none):Le own g m where
 pre:=L.pre.trans M.pre
 zz a q:=M.zz a<|L.zz a q
 im a q:=(M.im a<|L.zz a q).trans<|L.im a q
 kp a o e q r:=M.kp a o (L.kp a o e q r) (λy=>(L.fr a y).elim q λy=>bP _<|e.symm.trans y) λz=>(n a z).elim r λz=>bP _<|e.symm.trans z
 ex a q:=M.ex a<|L.ex a q
 fr a q:=(M.fr a q).elim (L.fr a) λy=>.inr<|Ϻ λx=>L.ex a x y
 fz a q:=(M.fz a q).elim (L.fz a) λy=>.inr<|y.elim (L.fr a) λy=>.inr<|Ϻ λx=>L.ex a x y
 md:=M.md.trans L.md
 hf e n h w:=have q:=L.hf e n h w;M.hf (L.md.trans e) n q.1 q.2
 sh:=by rw[M.sh,L.sh]
theorem oH(hr:HR C g)(nr:it∉g.r)(nz: ¬g.z it)(x:dm it g.s.heap h):HR C (g.up g.H h t):=
 have up {a:ό} (q:g.z a∨a∈g.r):h.get? a=g.s.heap.get? a:=by
  induction e:g.s.heap.get? a with
  |none=>exact absurd e<|hr.ex a q
  |some o=>exact x a o (λz=>q.elim (z▸nz)<|z▸nr) e
 {len:=hr.len,nd:=hr.nd,ex:=λa q=>up q▸hr.ex a q,old:=λa o e=>⟨(hr.old a o e).1,(up (.inl (hr.old a o e).1)).trans (hr.old a o e).2⟩,
  at_:=λi po a e q=>(hr.at_ i po a e q).imp_left (OR.mono (g:=g) (k:=g.up g.H h t) (ϓ _) (λ_ q=>q) (λa q=>up (.inl q)) (up (.inr (Υ q))) po)}
theorem xG{Q:Option χ->Χ->Prop}(hh:A.handled=none)(I:lK g it kp l)(hl:l=[])(S:kL kp g.H)(hr:HR C g)(q: ∀h,dm it g.s.heap h->Q none {g.s with heap:=h}):WP C A (pyNext<|.ref it) Q g.s:=by
 induction I with
 |tu i z e D hi=>
  refine wpAny_pyNext_tuple_end hh hi ⟨_,e,rfl,_,rfl⟩ ?_ q
  have:=drop_nil hl
  rw[cR,D.len,Ϙ] at this
  exact iE this
 |ls i z e D hi=>
  refine EO hh hi (aJ e) ?_ q
  have:=drop_nil hl
  rw[cR,D.len,Ϙ] at this
  exact iE this
 |rn hi=>
  have:=u5 hl
  exact wpAny_pyNext_range_end hh hi (by omega) q
 | @li j a l i ea hi=>
  obtain⟨O,nz⟩:=hr.at_ j _ a (S _ _ rfl) ea
  induction O with
  |mk il z D=>
   refine EO hh hi (aJ il) ?_ q
   have:=drop_nil hl
   rw[cR,D.len,Ϙ] at this
   exact iE this
 | @di j a es i ea hi=>
  obtain⟨O,nz⟩:=hr.at_ j _ a (S _ _ rfl) ea
  induction O with
  | @mk kvs D z r=>
   have hlen:=bQ _ r
   have:=drop_nil hl
   rw[hlen] at hi D
   refine wpAny_pyNext_dict_end hh hi D ?_ q
   rw[cR,ς,hlen] at this
   exact vA this
abbrev Ni(C:Ctx)(g:Sg)(kp:Option (Nat×PO))(l:List D)(H:Hp)(Q:χ->Χ->Prop):Prop:=∀k it,Le [] g k->HR C k->Own k it->g.s.heap.get? it=none->lK k it kp l->k.H=H->Q (.ref it) k.s
theorem uX{o:e9}{Q:χ->Χ->Prop}(hr:HR C g)(f:o.isFreed=false)(hc:H.c=g.H.c)(I:lK (g.up H (g.s.heap.push o) t) g.s.heap.objs.size kp l)(q:Ni C g kp l H Q):Q (.ref g.s.heap.objs.size) (g.up H (g.s.heap.push o) t).s:=
 q _ _ (gh hr (Gr.push _ _) hc) (lF hr (Gr.push _ _) hc) ⟨ϖ<|ai f,λm=>hr.ex _ (.inr m)<|ϱ _,λm=>hr.ex _ (.inl m)<|ϱ _⟩ (ϱ _) I rfl
theorem uP{Q:χ->Χ->Prop}(S:dU C)(e:iy g.H v=some (l,kp))(X:VR C g v y)(hr:HR C g)(q:Ni C g kp l g.H Q):WP C A (pyIter y) Q g.s:=by
 induction v with
 |d d=>
  cases d with
  |tup l'=>
   cases ξ e
   induction X with
   | @mk a its n z e _ D=>
    have L:=gh (own:=[]) (H:=g.H) (t:=g.s.toks) hr (Gr.push g.s.heap {cls:=.type "tuple_iterator",data:=.fields #[.ref a,.int 0 0]}) rfl
    exact wpAny_pyIter_tuple ⟨_,e,rfl,_,rfl⟩<|uX (o:={cls:=.type "tuple_iterator",data:=.fields #[.ref a,.int 0 0]}) hr rfl rfl (.tu 0 z ((L.im _ z).trans e) (bg.mono L.zz L.im _ _ D) ⟨_,ai rfl,rfl,rfl⟩) q
  |lst l'=>
   cases ξ e
   induction X with
   | @mk a its n z e _ D=>
    have L:=gh (own:=[]) (H:=g.H) (t:=g.s.toks) hr (Gr.push g.s.heap {cls:=.type "list_iterator",data:=.fields #[.ref a,.int 0 0]}) rfl
    exact pZ (aJ e)<|uX (o:={cls:=.type "list_iterator",data:=.fields #[.ref a,.int 0 0]}) hr rfl rfl (.ls 0 z ((L.im _ z).trans e) (bg.mono L.zz L.im _ _ D) ⟨_,ai rfl,rfl,rfl⟩) q
  |_=>exact Ϝ e
 |obj j=>
  obtain⟨po,hp⟩: ∃po,g.H.get j=po:=⟨_,rfl⟩
  have e:UN j po=some (l,kp):=hp▸e
  induction po with
  |list l'=>
   cases ξ e
   obtain⟨a,rfl,ea,O,nz⟩:=bY hr X hp<|λh=>PO.noConfusion h
   induction O with
   |mk il z D=>exact pZ (aJ il)<|uX (o:={cls:=.type "list_iterator",data:=.fields #[.ref a,.int 0 0]}) hr rfl rfl (.li 0 ea ⟨_,ai rfl,rfl,rfl⟩) q
  |di es=>
   cases ξ e
   obtain⟨a,rfl,ea,O,nz⟩:=bY hr X hp<|λh=>PO.noConfusion h
   induction O with
   |mk D z r=>exact wpAny_pyIter_dict (lB S hr nz) D<|uX hr rfl rfl (.di 0 ea ⟨_,ai rfl,rfl,by rw[bQ _ r];rfl⟩) q
  |_=>exact Ϝ e
 |_=>exact Ϝ e
noncomputable abbrev FI:Type 1:={R:Type}->Env->Hp->KI R->Option R
end
abbrev U7{R:Type}(K:KI R)(r:R):Prop:=∀l kp H,K l kp H=some r->H.ok
abbrev Ns(C:Ctx)(g:Sg){R:Type}(K:KI R)(r:R)(Q:χ->Χ->Prop):Prop:=∀k it l kp,Le [] g k->HR C k->Own k it->g.s.heap.get? it=none->lK k it kp l->K l kp k.H=some r->Q (.ref it) k.s
structure SS(C:Ctx)(A:Ϡ)(F:Fn)(pe:Ο)(f:FI)(x:Ϛ):Prop where
 fs: ∀v,foldedSetIterable x pe v=pure v
 ok: ∀{R:Type}{r:R}{K:KI R}{env:Env}{H:Hp},f env H K=some r->U7 K r->H.ok
 w: ∀{R:Type}{r:R}{K:KI R}{env:Env}{g:Sg}{Q:χ->Χ->Prop},f env g.H K=some r->U7 K r->HR C g->FR C F pe g env->Ns C g K r Q->WP C A (eval x pe) (λv s=>WP C A (pyIter v) Q s) g.s
section
variable{C:Ctx}{A:Ϡ}{g k g0:Sg}{own:List ό}{it:ό}{kp:Option (Nat×PO)}{l xs:List D}{x:D}{h:ao}{t:Nat}{R:Type}{r:R}{F:Fn}{pe:Ο}{env:Env}{H:Hp}{v w:V}{y z:χ}{f1 f2:FE}{e1 e2:Ϛ}{pos:gB}{K:KI R}{Q:χ->Χ->Prop}
theorem Le.nn(L:Le own g k){a:ό}(e:k.s.heap.get? a=none):g.s.heap.get? a=none:=Ϻ λq=>L.ex a q e
theorem R3(L:Le [] g k)(q:Ns C g K r Q)(e:K l kp H=some r)(hH:k.H=H):Ni C k kp l H Q:=λm it M hr o n I hm=>q m it l kp (L.trans M) hr o (L.nn n) I<|hm▸e
theorem xH(e:OH K v H=some r): ∃l kp,iy H v=some (l,kp)/\K l kp H=some r:=by
 unfold OH at e
 induction h:iy H v with
 |none=>rw[h] at e;exact Ϝ e
 |some p=>rw[h] at e;exact⟨p.1,p.2,rfl,e⟩
theorem Xl(S:dU C)(h1:ST C A F pe f1 e1):SS C A F pe (λenv H K=>f1 env H<|OH K) e1 where
 fs:=h1.p.2
 ok e o:=h1.v.1 e λv H e=>(xH e).elim λ_ h=>h.elim λ_ h=>o _ _ _ h.2
 w {R r K env g Q} e o hr f q:=h1.v.2 e (λv H e=>(xH e).elim λ_ h=>h.elim λ_ h=>o _ _ _ h.2) hr f λk v y L hr V e=>(xH e).elim λ_ h=>h.elim λ_ h=>uP S h.1 V hr<|R3 L q h.2 rfl
theorem x9{a b:Int}{t u w:X7}{tk:Nat}(ha:jK a)(hb:jK b)(hr:HR C g)(hc:H.c=g.H.c)(q:Ni C g none (Ϫ a b) H Q):WP C A (pyIter<|.ref g.s.heap.objs.size) Q {g.s with heap:=g.s.heap.push {cls:=.type "range",data:=.fields #[.int a t,.int b u,.int 1 w]},toks:=tk}:=by
 refine wpAny_pyIter_range (IsRange.new _ _ _ _ _ _ _) (small_one (by omega) (by omega) (by omega) (by omega)) ?_
 have L0:=gh (own:=[]) (H:=H) (t:=tk) hr (Gr.push g.s.heap {cls:=.type "range",data:=.fields #[.int a t,.int b u,.int 1 w]}) hc
 refine uX (g:=g.up H (g.s.heap.push {cls:=.type "range",data:=.fields #[.int a t,.int b u,.int 1 w]}) tk) (H:=H) (t:=tk) (kp:=none) (l:=Ϫ a b) (lF (H:=H) (t:=tk) hr (Gr.push g.s.heap {cls:=.type "range",data:=.fields #[.int a t,.int b u,.int 1 w]}) hc) rfl rfl ?_ λm it M hr o n I hm=>q m it (L0.trans M) hr o (L0.nn n) I hm
 have hz:Ϫ a b=Ϫ a (a+N9 a b 1):=by
  rw[rangeSize_one]
  split
  ·rw[show a+(b-a)=b by exact OY<|(λ{b a c}=>Int.sub_eq_iff_eq_add'.mp) rfl]
  ·unfold Ϫ
   rw[show(b-a).toNat=0 by omega,show(a+0-a).toNat=0 by omega]
 rw[hz]
 exact .rn<|ai rfl
theorem x6(e:Jv v K w H=some r): ∃a b,v= .int a/\w= .int b/\K (Ϫ a b) none (H.ϴ<|jK a/\jK b)=some r:=by
 refine(jg e).elim λa q_=>q_.elim λb q_=>q_.elim λh1 q_=>q_.elim λh2 e=>?_
 exact⟨a,b,h1,h2,lu e⟩
theorem u0(e:Jv v K w H=some r)(o:U7 K r):H.ok:=by
 refine(x6 e).elim λa q_=>q_.elim λb q_=>q_.elim λ_ q_=>q_.elim λ_ e=>?_
 exact(o _ _ _ e).1
variable{id:ak}{p:gB}
theorem SM(hg:mJ C id (.type "range"))(hk:pe.kindOf id=some .globalImplicit)(hd:(id==("__debug__":ak))=false)(h1:ST C A F pe f1 e1):SS C A F pe (λenv H K=>f1 env H<|Jv (.int 0) K) (.Call (.Name id p) [e1] [] pos) where
 fs _:=rfl
 ok e o:=h1.v.1 e λv H e=>u0 e o
 w {R r K env g Q} e o hr f q:=bH (i9 hg hk hd hr f (by
  show WP C A (callWith pos (.type "range") [] (backTo pos<|starEach [e1] pe) []) _ g.s
  rw[h1.p.1]
  refine gX<|h1.v.2 e (λv H e=>u0 e o) hr f λk v y L hr V e=>?_
  obtain⟨a,b,ha,rfl,e⟩:=x6 e
  obtain⟨t,rfl⟩:=V
  cases ha
  exact Yi (x9 (H:=k.H.ϴ _) (o _ _ _ e).2.1 (o _ _ _ e).2.2 hr rfl λm it M hr o n I hm=>q m it _ _ (L.trans M) hr o (L.nn n) I (hm▸e))))
theorem Xm(hg:mJ C id (.type "range"))(hk:pe.kindOf id=some .globalImplicit)(hd:(id==("__debug__":ak))=false)(h1:ST C A F pe f1 e1)(h2:ST C A F pe f2 e2):SS C A F pe (λenv H K=>f1 env H<|UO (f2 env) K) (.Call (.Name id p) [e1,e2] [] pos) where
 fs _:=rfl
 ok e o:=h1.v.1 e λv H e=>h2.v.1 e λw H e=>u0 e o
 w {R r K env g Q} e o hr f q:=bH (i9 hg hk hd hr f (by
  show WP C A (callWith pos (.type "range") [] (backTo pos<|starEach [e1,e2] pe) []) _ g.s
  rw[h1.p.1,h2.p.1]
  refine PySem.callWith_type rfl<|vp<|kB<|h1.v.2 e (λv H e=>h2.v.1 e λw H e=>u0 e o) hr f λk v y L hr V e=>kB<|h2.v.2 e (λw H e=>u0 e o) hr (f.le L) λk' w y' M hr' W e=>zS ?_
  obtain⟨a,b,rfl,rfl,e'⟩:=x6 e
  obtain⟨t,rfl⟩:=V
  obtain⟨u,rfl⟩:=W
  exact call_range_2 (x9 (H:=k'.H.ϴ _) (o _ _ _ e').2.1 (o _ _ _ e').2.2 hr' rfl λm it N hr o n I hm=>q m it _ _ ((L.trans M).trans N) hr o ((L.trans M).nn n) I (hm▸e'))))
theorem x8(e:C4 K v H=some r): ∃p,sq H v=some p/\K (Ϫ 0 p.2.length) none H=some r:=by
 unfold C4 at e
 induction h:sq H v with
 |none=>rw[h] at e;exact Ϝ e
 |some p=>rw[h] at e;exact⟨p,rfl,e⟩
theorem Xn{id2:ak}{p2 pos2:gB}(hg:mJ C id (.type "range"))(hk:pe.kindOf id=some .globalImplicit)(hd:(id==("__debug__":ak))=false)(hg2:mJ C id2 (.builtin "len"))(hk2:pe.kindOf id2=some .globalImplicit)(hd2:(id2==("__debug__":ak))=false)(h1:ST C A F pe f1 e1):SS C A F pe (λenv H K=>f1 env H<|C4 K) (.Call (.Name id p) [.Call (.Name id2 p2) [e1] [] pos2] [] pos) where
 fs _:=rfl
 ok e o:=h1.v.1 e λv H e=>(x8 e).elim λ_ h=>o _ _ _ h.2
 w {R r K env g Q} e o hr f q:=bH (i9 hg hk hd hr f (by
  refine gX<|bH<|i9 hg2 hk2 hd2 hr f ?_
  rw[h1.p.1]
  refine pU<|h1.v.2 e (λv H e=>(x8 e).elim λ_ h=>o _ _ _ h.2) hr f λk v y L hr V e=>?_
  obtain⟨⟨T,l⟩,h,e⟩:=x8 e
  have S:Bb k T l y:=mY hr V h
  induction S with
  | @mk a its n il z D=>
   have hl:=D.len.trans Ϙ
   have z:l.length<=1000000:=z
   have fin {t:X7} {tk:Nat}:WP C A (call (.type "range") [.int its.size t]) (λv s=>WP C A (pyIter v) Q s) {k.s with toks:=tk}:=by
    have T2:=iJ (t:=tk) hr
    rw[hl] at e
    exact Yi<|x9 (g:=k.up k.H k.s.heap tk) (H:=k.H) (by omega) (by omega) (jP hr) rfl λm it M hr o n I hm=>q m it _ _ ((L.trans T2).trans M) hr o ((L.trans T2).nn n) I<|hm▸e
   induction T with
   |true=>exact vX il (by omega) fin
   |false=>exact yy (aJ il) (by omega) fin))
end
section
variable{C:Ctx}{A:Ϡ}{g:Sg}{H:Hp}{v w u:V}{x y z:χ}{Q:Unit->Χ->Prop}{j:Nat}{a:ό}{kp:Bool}
abbrev Nu(C:Ctx)(g:Sg)(H:Hp)(Q:Unit->Χ->Prop):Prop:=∀k,Le [] g k->HR C k->k.H=H->Q () k.s
theorem o_{h:ao}{t:Nat}{po:PO}(q:Nu C g (H.put j po) Q)(hr:HR C g)(ea:g.r[j]? =some a)(nz: ¬g.z a)(s:b8 a g.s.heap h)(ne:h.get? a≠none)(hc:H.c=g.H.c)(nb:O3 g j po)(o:OR C (g.up (H.put j po) h t) a po):Q () (g.up (H.put j po) h t).s:=
 have L:Le [] g (g.up (H.put j po) h t):=iB hr ea nz s ne (congrArg (lQ · j po) hc) nb
 q _ L (DJ hr L ea nz s (congrArg (lQ · j po) hc) o) rfl
abbrev Mv(g:Sg)(v:V):Prop:=g.m=false->∀n,v.bl n
theorem Dm(hm:g.m=kp)(h:may kp v=true):Mv g v:=λz n=>by
 cases hm.symm.trans z
 induction v with
 |d x=>exact trivial
 |_=>exact ff h
theorem o6{p0 po:PO}(hp:g.H.get j=p0)(ne:p0≠.dead)(h:Mv g v)(f: ∀n,v.bl n->p0.bl n->po.bl n):O3 g j po:=λz n b=>f n (h z n)<|b _<|get_some hp ne
theorem BH{α:Type}{n:Nat}{k:α}(es:List (α×V))(hv:v.bl n)(h: ∀e∈es,e.2.bl n): ∀e∈es++[(k,v)],e.2.bl n:=λe m=>(Ζ.mp m).elim (h e) λm=>υ.mp m▸hv
theorem wU{α:Type}[DecidableEq α]{n:Nat}{k:α}(es:List (α×V))(hv:v.bl n):(∀e∈es,e.2.bl n)->∀e∈put k v es,e.2.bl n:=by
 induction es with
 |nil=>exact λ_ e m=>υ.mp m▸hv
 |cons a es ih=>
  intro h e m
  have m:e∈(if a.1=k then(a.1,v)::es else a::put k v es):=m
  split at m
  ·exact(Θ.mp m).elim (λq=>q▸hv) λm=>h e<|.tail _ m
  ·exact(Θ.mp m).elim (λq=>h e<|q▸.head _)<|ih (λe m=>h e<|.tail _ m) e
theorem AR{N:Type}[DecidableEq N]{j:N}{z:χ}{b:N×χ}{kvs:List (N×χ)}(h:b.1≠j):stored (b::kvs) j z=b::stored kvs j z:=by
 unfold stored
 rw[kC,decide_eq_false h,Bool.false_or]
 split
 ·rw[aU,if_neg h]
 ·rfl
theorem Dk{N:Type}[DecidableEq N]{j:N}{z:χ}{kvs:List (N×χ)}(h:j∉kvs.map (·.1)):kvs.map (λkv=>if kv.1=j then(kv.1,z) else kv)=kvs:=by
 conv=>rhs;rw[<-List.map_id kvs]
 exact jU λx m=>if_neg λe=>h<|Ϗ.mpr ⟨x,m,e⟩
theorem AQ{N:Type}[DecidableEq N]{z:χ}{b:N×χ}{kvs:List (N×χ)}(h:b.1∉kvs.map (·.1)):stored (b::kvs) b.1 z=(b.1,z)::kvs:=by
 unfold stored
 rw[kC,decide_eq_true rfl,Bool.true_or,if_pos rfl,aU,if_pos rfl,Dk h]
theorem ME{M N:Type}[DecidableEq M][DecidableEq N]{P:M->N->Prop}{k:M}{j:N}(hk: ∀k' j',P k' j'->(k'=k↔j'=j))(pk:P k j)(Z0:VR C g v z)(es:List (M×V)): ∀kvs:List (N×χ),(kvs.map (·.1)).Nodup->Ϸ (λe x=>P e.1 x.1/\VR C g e.2 x.2) es kvs->Ϸ (λe x=>P e.1 x.1/\VR C g e.2 x.2) (put k v es) (stored kvs j z):=by
 induction es with
 |nil=>exact λkvs _ h=>(show kvs=[] from h)▸⟨(j,z),[],rfl,⟨pk,Z0⟩,rfl⟩
 |cons e es ih=>
  rintro _ nd ⟨x,kvs,rfl,⟨p,W⟩,r⟩
  have nd:=cF.mp (show(x.1::kvs.map (·.1)).Nodup from nd)
  by_cases h:e.1=k
  ·have hx:=(hk _ _ p).mp h
   subst hx
   rw[AQ nd.1,show put k v (e::es)=(e.1,v)::es from if_pos h]
   exact⟨_,_,rfl,⟨p,Z0⟩,r⟩
  ·rw[AR λq=>h<|(hk _ _ p).mpr q,show put k v (e::es)=e::put k v es from if_neg h]
   exact⟨_,_,rfl,⟨p,W⟩,ih kvs nd.2 r⟩
theorem stored_new{N:Type}[DecidableEq N]{j:N}{z:χ}{kvs:List (N×χ)}(h:(valueAt kvs j).isSome=false):stored kvs j z=kvs++[(j,z)]/\kvs.any (λkv=>kv.1=j)=false:=by
 have q:kvs.any (λkv=>decide<|kv.1=j)=false:=by
  induction e:kvs.any (λkv=>decide<|kv.1=j) with
  |false=>rfl
  |true=>
   have:(valueAt kvs j).isSome=true:=by
    unfold valueAt
    rw[Option.isSome_map];exact List.find?_isSome.mpr<|aW.mp e
   exact ff<|h.symm.trans this
 exact⟨by unfold stored;rw[q];rfl,q⟩
theorem yb{N:Type}[DecidableEq N]{knd:A1 pw C.w N}{d:ό}{kvs:List (N×χ)}{ep:Nat}{k:N}{key v:χ}{s:Χ}(hkey:knd.is k key=true)(hm:s.heap.DictAt knd d kvs ep)(hz:kvs.length<=sizeLine)(hnew:kvs.any (λkv=>kv.1=k)=false)
 (q: ∀h',h'.DictAt knd d (kvs++[(k,v)]) (ep+1)->b8 d s.heap h'->Q () {s with heap:=h',toks:=s.toks+1}):WP C A (setItem (.ref d) key v) Q s:=by
 have hT:s.TypeIs (.ref d) "dict":=hm.dictOf.mapOf.typeIs
 obtain⟨o,es,ho,hc,hd,hk,hp,hn⟩:=hm
 have hes:es.size<=sizeLine:=by
  have e1:=hp.length
  have e2:es.toList.length=es.size:=by simp
  omega
 unfold setItem
 try with_reducible refine ύ ?_
 refine ο<|iO hT (by decide) ?_
 refine ο<|dW (name:=ϵ "__setitem__") hT iM<|dc iM hT I9 ?_ (Kv _ _ _)
 show wpAny _ _ (OT "__setitem__" ⟨[.ref d,key,v],[]⟩>>=_) _ _ s
 refine ο<|EM hT ?_
 show wpAny _ _ (dictSet d key v>>=_) _ _ s
 refine ο ?_
 unfold dictSet
 try with_reducible refine ύ ?_
 refine ο<|knd.pyHash hkey ?_
 unfold dictSetHashed
 try with_reducible refine ύ ?_
 refine ο<|wpAny_dictFind_of (s:={s with toks:=s.toks+1}) hkey ho hd hk ?_
 have hidx:(es.findIdx? λe=>knd.is k e.key)=kvs.findIdx? λkv=>decide (kv.1=k):=by
  rw[<-hp.findIdx k];obtain⟨l⟩:=es;simp
 have hi:(es.findIdx? λe=>knd.is k e.key)=none:=by
  rw[hidx,qD]
  exact λx m=>List.any_eq_false.mp hnew x m|>(by simpa using·)
 rw[hi]
 refine ο (nP (Fg (hz:=hes) (s:={s with toks:=s.toks+1}) ho hd (Η ⟨.none,rfl,Η (q _ ⟨_,_,iU _ ho (zX (fy hd _)),
  hc.mapDictKeys _,fy hd _,hk.push hkey _,?_,?_⟩ (aK ..))⟩)))
 ·have:=hp.append hkey (knd.hash k) v
  simpa using this
 ·rw[Ξ,dP]
  refine⟨hn,by simp,?_⟩
  intro a ha b hb
  simp only[aU,J_,υ] at hb
  subst hb
  exact λe=>(not_mem_of_findIdx_none<|hidx▸hi)<|e▸ha
variable{H':Hp}{d:ό}{l:List D}
theorem S5{items:Array χ}{n:Nat}{k:Int}{t:X7}{v:χ}{s:Χ}(hl:IsL s.heap a items n)(h0:0<=k)(hfit:k<2^63)(hn:k<items.size)
 (q:Q () {s with heap:=s.heap.update a (bO λxs=>xs.setIfInBounds k.toNat v)}):WP C A (setItem (.ref a) (.int k t) v) Q s:=by
 have hT:s.TypeIs (.ref a) "list":=⟨_,hl,rfl⟩
 unfold setItem
 try with_reducible refine ύ ?_
 first|refine ο (Η ?_)|skip
 refine ο<|iO hT (by decide)<|ο<|dW (name:=ϵ "__setitem__") hT Nc<|dc Nc hT entry_list_setitem ?_ (args_list_setitem _ _ _)
 show wpAny _ _ (OV (.int k t)>>=_) _ _ s
 refine ο<|wpAny_listSubscript_int (fitsIndex_of h0 hfit) ?_
 clear hfit
 obtain⟨j,rfl⟩:=aS h0
 refine ο<|ο<|wpAny_seqItemAt hl rfl<|Η ?_
 rw[p5 (iQ.mp hn:j<items.size)]
 refine ο<|wpAny_setSeqItemAt hl rfl ?_
 first
  |exact ο<|Η<|Η ⟨.none,rfl,Η q⟩
  |exact Η ⟨.none,rfl,Η q⟩
theorem bg.set{zz:ό->Prop}{h:ao}{x:D}{y:χ}(p:DR zz h x y): ∀(k:Nat)(l:List D)(m:List χ),bg zz h l m->bg zz h (l.set k x) (m.set k y):=λk=>by
 induction k with
 |zero=>
  intro l m q
  induction l with
  |nil=>cases(show m=[] from q);exact rfl
  |cons d l=>
   induction q with
   |mk _ q=>exact .mk p q
 |succ k ih=>
  intro l m q
  induction l with
  |nil=>cases(show m=[] from q);exact rfl
  |cons d l=>
   induction q with
   |mk p' q=>exact .mk p'<|ih _ _ q
inductive Pd(kp:Bool)(H H':Hp)(v:V):V->V->Prop
 |mk {j:Nat} {i:D}:may kp v=true->Fc H j i v (H.get j)=some H'->Pd kp H H' v (.obj j) (.d i)
theorem set_inv(e:bF kp H u w v=some H'):Pd kp H H' v u w:=by
 have e:=lu e
 induction h:may kp v with
 |false=>rw[h] at e;exact Ϝ e
 |true=>
  rw[h] at e
  induction u with
  |obj j=>
   induction w with
   |d i=>exact .mk h e
   |_=>exact Ϝ e
  |_=>exact Ϝ e
inductive Pf(H:Hp)(j:Nat):D->V->PO->Hp->Prop
 |li {l:List D} {i:Int} {b:D}:0<=i->i<l.length->Pf H j (.int i) (.d b) (.list l) (H.put j<|.list<|l.set i.toNat b)
 |di {es:List (Int×V)} {i:Int} {v:V}:Pf H j (.int i) v (.di es) ((H.ϴ<|es.length<big/\look i es=none).put j<|.di<|es++[(i,v)])
 |ds {es:List (Nat×V)} {i:Nat} {v:V}:Pf H j (.str i) v (.ds es) ((H.ϴ<|es.length<big).put j<|.ds<|put i v es)
 |dt {es:List (List D×V)} {k:List D} {v:V}:dH es k=true->Pf H j (.tup k) v (.dt es) ((H.ϴ<|es.length<big).put j<|.dt<|es++[(k,v)])
theorem zG{po:PO}{i:D}(e:Fc H j i v po=some H'):Pf H j i v po H':=by
 induction po with
 |list l=>
  cases i with
  |int i=>
   induction v with
   |d b=>
    have e:=aC<|show(if 0<=i/\i<l.length then some (H.put j<|.list<|l.set i.toNat b) else none)=some H' from e
    exact e.2▸.li e.1.1 e.1.2
   |_=>exact Ϝ e
  |_=>exact Ϝ e
 |di es=>
  cases i with
  |int i=>exact ξ e▸.di
  |_=>exact Ϝ e
 |ds es=>
  cases i with
  |str i=>exact ξ e▸.ds
  |_=>exact Ϝ e
 |dt es=>
  cases i with
  |tup k=>
   have e:=aC<|show(if dH es k=true then some ((H.ϴ<|es.length<big).put j<|.dt<|es++[(k,v)]) else none)=some H' from e
   exact e.2▸.dt e.1
  |_=>exact Ϝ e
 |_=>exact Ϝ e
theorem ND{po:PO}{i:D}(e:Fc H j i v po=some H')(o:H'.ok):H.ok:=by
 induction zG e with
 |li _ _=>exact o
 |di=>exact(show(H.ϴ _).ok from o).1
 |ds=>exact(show(H.ϴ _).ok from o).1
 |dt _=>exact(show(H.ϴ _).ok from o).1
theorem D3(e:bF kp H u w v=some H')(o:H'.ok):H.ok:=by
 refine(set_inv e).casesOn λ_ e=>?_
 exact ND e o
theorem La{z:ό->Prop}{h:ao}{k:List D}{P:χ->Prop}(Y:DR z h (.tup k) y)(q: ∀b,P<|.ref b):P y:=by
 cases Y
 exact q _
theorem Hg{i:Nat}(es:List (Nat×V)):(put i v es).length<=es.length+1:=by
 induction es with
 |nil=>exact ώ _
 |cons e es ih=>
  show(if e.1=i then(e.1,v)::es else e::put i v es).length<=_
  split
  ·exact ϰ _
  ·exact cS ih
theorem Eg{n m:Nat}(h:n=m)(k:n<=1000000):m<=sizeLine:=by rw[show sizeLine=16777216 by decide];omega
theorem M_{i:Int}{b:D}(h0:0<=i)(h1:i<l.length)(hp:g.H.get j= .list l)(hr:HR C g)(X:VR C g (.obj j) x)(Y:VR C g (.d<|.int i) y)(Z:VR C g (.d b) z)(q:Nu C g (g.H.put j<|.list<|l.set i.toNat b) Q):WP C A (setItem x y z) Q g.s:=by
 refine dY (P:=λx=>WP C A (setItem x y z) Q g.s) hr X hp (λh=>PO.noConfusion h) λa ea O nz=>lH (P:=λy=>WP C A (setItem (.ref a) y z) Q g.s) Y λt=>?_
 induction O with
 | @mk its k il z' D=>
  have z2:l.length<=1000000:=z'
  have s:=aK g.s.heap a<|bO λxs=>xs.setIfInBounds i.toNat z
  have un:=Uv il λxs=>xs.setIfInBounds i.toNat z
  have L:Le [] g (g.up (g.H.put j<|.list<|l.set i.toNat b) (g.s.heap.update a<|bO λxs=>xs.setIfInBounds i.toNat z) g.s.toks):=iB hr ea nz s (ϖ un) rfl λ_ _ _=>trivial
  refine S5 il h0 (by omega) (lt_of_lt_of_eq h1<|congrArg Nat.cast<|D.len.trans Ϙ)<|o_ (po:=.list<|l.set i.toNat b) (t:=g.s.toks) q hr ea nz s (ϖ un) rfl (λ_ _ _=>trivial)<|show Iz _ _ _ _ from .mk un (by rw[bG];exact z') ?_
  rw[Array.toList_setIfInBounds]
  exact bg.mono L.zz L.im _ _<|bg.set Z _ _ _ D
theorem HE{i:Int}{es:List (Int×V)}(mv:Mv g v)(hp:g.H.get j= .di es)(o:((g.H.ϴ<|es.length<big/\look i es=none).put j<|.di<|es++[(i,v)]).ok)(hr:HR C g)(X:VR C g (.obj j) x)(Y:VR C g (.d<|.int i) y)(Z:VR C g v z)(q:Nu C g ((g.H.ϴ<|es.length<big/\look i es=none).put j<|.di<|es++[(i,v)]) Q):WP C A (setItem x y z) Q g.s:=by
 refine dY (P:=λx=>WP C A (setItem x y z) Q g.s) hr X hp (λh=>PO.noConfusion h) λa ea O nz=>lH (P:=λy=>WP C A (setItem (.ref a) y z) Q g.s) Y λt=>?_
 induction O with
 | @mk kvs D z' r=>
  have hb:es.length<big/\look i es=none:=(show(g.H.ϴ _).ok from o).2
  have hq:=(gA (P:=Eq) (AF (k:=i)) es _ r).2
  rw[hb.2] at hq
  refine yb (fM _ _ i t) D (Eg (bQ _ r) z') (stored_new (z:=z) hq.symm).2 λh' d' sb=>?_
  have ne:h'.get? a≠none:=d'.elim λo e=>e.elim λ_ e=>ϖ e.1
  have nb:=o6 (po:=.di<|es++[(i,v)]) hp (λh=>PO.noConfusion h) mv λn=>BH es
  exact o_ (po:=.di<|es++[(i,v)]) q hr ea nz sb ne rfl nb<|show Us C _ _ _ from .mk ((congrArg (λn=>Heap.DictAt (intKind pw C.w) h' a (kvs++[(i,z)]) n)<|θ (as:=es) (bs:=[(i,v)])).mpr d') (by rw[θ];exact hb.1) ((r.app<|Ϸ.one (a:=(i,v)) (b:=(i,z)) ⟨rfl,Z⟩).mono λ_ _ h=>⟨h.1,(iB hr ea nz sb ne rfl nb:Le [] g (g.up ((g.H.ϴ<|es.length<big/\look i es=none).put j<|.di<|es++[(i,v)]) h'<|g.s.toks+1)).v _ _ h.2⟩)
theorem HG{i:Nat}{es:List (Nat×V)}(mv:Mv g v)(hp:g.H.get j= .ds es)(o:((g.H.ϴ<|es.length<big).put j<|.ds<|put i v es).ok)(hr:HR C g)(X:VR C g (.obj j) x)(Y:VR C g (.d<|.str i) y)(Z:VR C g v z)(q:Nu C g ((g.H.ϴ<|es.length<big).put j<|.ds<|put i v es) Q):WP C A (setItem x y z) Q g.s:=by
 refine dY (P:=λx=>WP C A (setItem x y z) Q g.s) hr X hp (λh=>PO.noConfusion h) λa ea O nz=>?_
 induction O with
 | @mk kvs D z' r=>
  refine Y.elim λhi q_=>q_.elim λt ey=>?_
  rw[ey]
  refine wpAny_setItem_pairs (vJ _ _ (txt i) t) D (λh' d' sb=>?_)<|Eg (bQ _ r) z'
  have ne:h'.get? a≠none:=d'.elim λo e=>e.elim λ_ e=>e.elim λ_ e=>ϖ e.1
  have nb:=o6 (po:=.ds<|put i v es) hp (λh=>PO.noConfusion h) mv λn=>wU es
  exact o_ (po:=.ds<|put i v es) q hr ea nz sb ne rfl nb (show U3 C _ _ _ from .mk d' (η (Hg es) (show(g.H.ϴ _).ok from o).2) ((ME (Mc hi) ⟨hi,rfl⟩ Z es kvs (D.elim λ_ e=>e.elim λ_ e=>e.elim λ_ e=>e.2.2.2.2.2:(kvs.map (·.1)).Nodup) r).mono λ_ _ h=>⟨h.1,(iB hr ea nz sb ne rfl nb:Le [] g (g.up ((g.H.ϴ<|es.length<big).put j<|.ds<|put i v es) h'<|g.s.toks+1)).v _ _ h.2⟩))
theorem M9{k:List D}{es:List (List D×V)}(hu:A.units+64<cLine)(hm:dH es k=true)(mv:Mv g v)(hp:g.H.get j= .dt es)(o:((g.H.ϴ<|es.length<big).put j<|.dt<|es++[(k,v)]).ok)(hr:HR C g)(X:VR C g (.obj j) x)(Y:VR C g (.d<|.tup k) y)(Z:VR C g v z)(q:Nu C g ((g.H.ϴ<|es.length<big).put j<|.dt<|es++[(k,v)]) Q):WP C A (setItem x y z) Q g.s:=by
 refine dY (P:=λx=>WP C A (setItem x y z) Q g.s) hr X hp (λh=>PO.noConfusion h) λa ea O nz=>?_
 obtain⟨b,eb⟩: ∃b,y= .ref b:=La (P:=λy=>∃b,y= .ref b) (show DR g.z g.s.heap (.tup k) y from Y) λb=>⟨b,rfl⟩
 rw[eb] at Y⊢
 refine(qY hm).elim λi hi=>?_
 induction O with
 |mk ho hc hd z' T=>
  have hT:g.s.TypeIs (.ref a) "dict":=⟨_,ho,hc.1⟩
  unfold setItem
  try with_reducible refine ύ ?_
  refine ο<|iO hT (by decide) ?_
  refine ο (dW (name:=ϵ "__setitem__") hT iM
   (dc iM hT I9 ?_ (Kv _ _ _)))
  refine ο<|EM hT ?_
  show wpAny _ _ (dictSet a (.ref b) z>>=_) _ _ _
  refine ο ?_
  unfold dictSet
  try with_reducible refine ύ ?_
  refine ο<|uK (z:=g.z) hi (by show A.units+1+8<cLine;omega) Y λt=>?_
  unfold dictSetHashed
  try with_reducible refine ύ ?_
  refine ο<|qO hm hi Y ho hd T ?_
  refine ο<|nP<|Fg (hz:=Eg ((bQ _ T).trans Ϙ) z') (s:={g.s with toks:=t}) ho hd ?_
  have sb:=aK g.s.heap a<|pN λds=>ds.push {hash:=i,key:=.ref b,val:=z}
  have un:=iU (pN λds=>ds.push {hash:=i,key:=ru b,val:=z}) ho<|zX<|fy hd _
  have nb:=o6 (po:=.dt<|es++[(k,v)]) hp (λh=>PO.noConfusion h) mv λn=>BH es
  have L:Le [] g (g.up ((g.H.ϴ<|es.length<big).put j<|.dt<|es++[(k,v)]) (g.s.heap.update a<|pN λds=>ds.push {hash:=i,key:=.ref b,val:=z}) t):=iB hr ea nz sb (ϖ un) rfl nb
  refine Η ⟨.none,rfl,Η<|o_ (po:=.dt<|es++[(k,v)]) (t:=t) q hr ea nz sb (ϖ un) rfl nb<|show Ut C _ _ _ from .mk un (hc.mapDictKeys _) (fy hd _) (by rw[θ];exact(show(g.H.ϴ _).ok from o).2) ?_⟩
  rw[dM]
  exact(T.app<|Ϸ.one ⟨⟨b,rfl,Y⟩,hi,Z⟩).mono λ_ _ h=>⟨h.1.imp λ_ h=>⟨h.1,L.v _ _ h.2⟩,h.2.1,L.v _ _ h.2.2⟩
theorem vm(hm:g.m=kp)(hu:A.units+64<cLine)(e:bF kp g.H u w v=some H')(o:H'.ok)(hr:HR C g)(X:VR C g u x)(Y:VR C g w y)(Z:VR C g v z)(q:Nu C g H' Q):WP C A (setItem x y z) Q g.s:=by
 have i:=set_inv e
 clear e
 induction i with
 | @mk j i hv e=>
  have mv:=Dm hm hv
  have st:=zG e
  clear e hv hm
  generalize hp:g.H.get j=po at st
  induction st with
  |li h0 h1=>exact M_ h0 h1 hp hr X Y Z q
  |di=>exact HE mv hp o hr X Y Z q
  |ds=>exact HG mv hp o hr X Y Z q
  |dt hm=>exact M9 hu hm mv hp o hr X Y Z q
end
end J.Internal
namespace J.Internal
open PySem PySem.W PySem.Calls PyProof.Rows Builtin Builtin.ObjectAttr
variable [Key]
section
variable{C:Ctx}{A:Ϡ}{g:Sg}{H H':Hp}{v w u:V}{x y z:χ}{Q:Unit->Χ->Prop}{j n m c i:Nat}{a d:ό}{kp:Bool}{es:List (Nat×V)}{ds:List ϧ}
theorem Ku{hs:Int}{t:X7}(hn:n<c7)(Z:VR C g v z): ∀ds,Ϸ (J7 C g) es ds->
 Ϸ (J7 C g) (put n v es) (match ds.findIdx? (·.key.isStr (txt n)) with|some i=>ds.modify i λe=>{e with val:=z}|none=>ds++[⟨hs,.str (txt n) t,z⟩]):=by
 induction es with
 |nil=>
  intro ds h
  cases(show ds=[] from h)
  exact⟨⟨hs,.str (txt n) t,z⟩,[],rfl,⟨hn,⟨t,rfl⟩,Z⟩,rfl⟩
 |cons x es ih=>
  rintro _ ⟨e,ds,rfl,⟨hk,⟨t',he⟩,U⟩,r⟩
  have ih:=ih ds r
  have q:e.key.isStr (txt n)=(x.1==n):=by rw[he];exact qT hk hn
  rw[List.findIdx?_cons,q]
  by_cases h:x.1=n
  ·rw[if_pos<|beq_iff_eq.mpr h,show put n v (x::es)=(x.1,v)::es from if_pos h]
   exact⟨_,_,rfl,⟨hk,⟨t',he⟩,Z⟩,r⟩
  ·rw[if_neg<|λz=>h<|eq_of_beq z,show put n v (x::es)=x::put n v es from if_neg h]
   induction q:ds.findIdx? (·.key.isStr (txt n)) with
   |some i=>
    rw[q] at ih
    exact⟨_,_,rfl,⟨hk,⟨t',he⟩,U⟩,ih⟩
   |none=>
    rw[q] at ih
    exact⟨_,_,rfl,⟨hk,⟨t',he⟩,U⟩,ih⟩
theorem pF{name:ak}{hs:Int}{key z:χ}: ∃m',nV name hs key z (dictOf ds m)=dictOf (match ds.findIdx? (·.key.isStr name) with|some i=>ds.modify i λe=>{e with val:=z}|none=>ds++[⟨hs,key,z⟩]) m':=by
 rw[Obj.putName_eq]
 unfold Obj.putNameByArray dictOf
 dsimp only
 have e:(List.toArray ds).findIdx? (·.key.isStr name)=ds.findIdx? (·.key.isStr name):=by simp
 rw[e]
 induction q:ds.findIdx? (·.key.isStr name) with
 |some i=>exact⟨m,by simp⟩
 |none=>exact⟨m+1,by simp⟩
theorem DU(e:setattr kp H n v u=some H'): ∃c i es,u= .ins c i/\gT c n=none/\H.get i= .at es/\es.length<200/\may kp v=true/\H.put i (.at (put n v es))=H':=by
 induction u with
 |ins c i=>
  have e:(match gT c n,may kp v with
   |none,true=>UW H i n v<|H.get i
   |_,_=>none)=some H':=e
  induction h:gT c n with
  |some _=>rw[h] at e;exact Ϝ e
  |none=>
   rw[h] at e
   induction h2:may kp v with
   |false=>rw[h2] at e;exact Ϝ e
   |true=>
    rw[h2] at e
    have e:UW H i n v (H.get i)=some H':=e
    induction h3:H.get i with
    |«at» es=>
     rw[h3] at e
     refine(aC<|show(if es.length<200 then some (H.put i<|.at (put n v es)) else none)=some H' from e).elim λh4 e=>?_
     exact⟨c,i,es,rfl,h,h3,h4,rfl,e⟩
    |_=>rw[h3] at e;exact Ϝ e
 |_=>exact Ϝ e
theorem SX(e:setattr kp H n v u=some H')(o:H'.ok):H.ok:=by
 obtain⟨c,i,es,_,_,_,_,_,rfl⟩:=DU e
 exact o
theorem SW(hm:g.m=kp)(S:nQ C)(hn:n<c7)(e:setattr kp g.H n v u=some H')(hr:HR C g)(X:VR C g u x)(Z:VR C g v z)(q:Nu C g H' Q):WP C A (setAttr x (txt n) z) Q g.s:=by
 obtain⟨c,i,es,rfl,e2,e1,hsz,hv,rfl⟩:=DU e
 have mv:=Dm hm hv
 obtain⟨a,d,ds,m,rfl,I⟩:=xB S hr X e1
 have L0:=I.type (M:=model pw C.w)
 have L2:=c6 hr<|I.1.1 n hn
 rw[e2] at L2
 refine I.1.9.elim λcd q_=>q_.elim λsl q_=>q_.elim λhc q_=>q_.elim λhhd ho=>?_
 have LC:cO (model pw C.w) g.s.heap (classData<|ju c) cd:=(gj (part:=none) (hr.old _ _ hc).2).andThen .now
 refine ο<|Be<|ο<|ο<|ο<|L0 _ _ _ _ (λ_ _ e=>e)<|(c6 hr I.1.5) _ _ _ _ (λ_ _ e=>e)<|ύ ?_
 rw[bD.slot.bind]
 refine ο<|Η<|ο<|vK ?_
 refine E7 bD.slot.plain bD.entry<|@check_slot (model pw C.w) _ _ _ "object.__setattr__" "object" "__setattr__" (.ref a) [.str (txt n) g.s.toks,z] [] _ bD.kind bD.split (L0.andThen (c6 hr I.1.8.top):cO (model pw C.w) g.s.heap (isInstance (.ref a)<|.type "object") true) (bD.args (.ref a) (.str (txt n) g.s.toks) z) ?_
 show wpAny _ _ (Builtin.«object.__setattr__» ⟨[.ref a,.str (txt n) g.s.toks,z],[]⟩) _ _ _
 rw[osa_eq,refuse_eq]
 refine ο<|ο<|L0.at (ο<|(LC.andThen .now:cO (model pw C.w) g.s.heap (mroOf<|.ref<|ju c) cd.mro).at ?_)
 rw[refuse_only _ ho]
 refine Η<|ο<|L0.at (ο<|L2.at (ο<|(show cO (model pw C.w) g.s.heap (storeTaker? none) none from .now).at ?_))
 refine ο<|Η<|ο<|ο<|eU I.3<|ο<|LC.at ?_
 rw[hhd]
 refine Η (a:=some d)<|ο<|Η<|ο ?_
 refine ο<|ο<|wpAny_askSetting<|Η<|ο<|Be<|ο<|eU I.4 ?_
 dsimp only[dictOf]
 have cc:(!ds.toArray.any (·.key.isStr (txt n))&&ds.toArray.any (·.refKey))=false:=by
  rw[<-mH,<-mH,jV,tZ ds I.5,jA]
 rw[aRefKeyMayBeTheName_at,cc]
 refine(pF (ds:=ds) (m:=m) (name:=txt n) (hs:=iZ (model pw C.w).w.params<|txt n) (key:=.str (txt n)<|g.s.toks+1) (z:=z)).elim λm' hm'=>?_
 have D':=iU (h:=g.s.heap) (λo=>nV (txt n) (iZ (model pw C.w).w.params<|txt n) (.str (txt n)<|g.s.toks+1) z o) I.4 (by rw[hm'];rfl)
 refine wpAny_updatePart I.4 ?_
 have hlen:=bQ _ I.5
 have sb:=aK g.s.heap d<|λo=>nV (txt n) (iZ (model pw C.w).w.params<|txt n) (.str (txt n)<|g.s.toks+1) z o
 rw[hm'] at D'
 have hsz': ∀en:ϧ,(match ds.findIdx? (λ(e:ϧ)=>e.key.isStr<|txt n) with|some i=>ds.modify i λe=>{e with val:=z}|none=>ds++[en]).length<=200:=λen=>by
  split
  ·rw[List.length_modify];omega
  ·rw[θ,bu];exact le_of_eq_of_le (congrFun (congrArg HAdd.hAdd<|_root_.id<|OY hlen) 1) hsz
 refine ο<|wpAny_lookBehind D' (pastItsLine_dict (by rw[List.size_toArray,show sizeLine=16777216 by decide];exact η (hsz' _) (by decide:200<=16777216+1))) ?_
 exact Η<|Η<|Η<|o_ (po:=.at (put n v es)) (t:=g.s.toks+1+1) q hr I.2 I.6 sb (ϖ D') rfl (o6 e1 (λh=>PO.noConfusion h) mv λn=>wU es)<|show Uq C _ _ _ from .mk D' ((Ku hn Z ds I.5).mono λ_ _ h=>⟨h.1,h.2.1,(iB hr I.2 I.6 sb (ϖ D') rfl (o6 e1 (λh=>PO.noConfusion h) mv λn=>wU es):Le [] g (g.up (g.H.put i<|.at (put n v es)) (g.s.heap.update d<|λo=>nV (txt n) (iZ (model pw C.w).w.params<|txt n) (.str (txt n)<|g.s.toks+1) z o)<|g.s.toks+1+1)).v _ _ h.2.2⟩)
end
end J.Internal
namespace J.Internal
open PySem PySem.W PySem.Calls PyProof.Rows
variable [Key]
noncomputable abbrev FS:Type 1:={R:Type}->Env->Hp->KS R->Option R
abbrev yl{R:Type}(K:KS R)(r:R):Prop:=∀fl env H,K fl env H=some r->H.ok
noncomputable abbrev fY(pe:Ο):List ό:=pe.locals::pe.cells.map (·.2)
inductive Iw(C:Ctx)(g:Sg):Fl->vq->Prop
 |nx:Iw C g .next .next
 |br:Iw C g .brk .brk
 |ct:Iw C g .cont .cont
 |rt {v:V} {x:χ}:VR C g v x->Iw C g (.ret v) (.ret x)
theorem QE{C:Ctx}{g:Sg}{fl:Fl}{fw:vq}(W:Iw C g fl fw):(Fl.casesOn fl (fw= .next) (fw= .brk) (fw= .cont) λv=>∃x,fw= .ret x/\VR C g v x:Prop):=by
 induction W with
 |rt h=>exact⟨_,rfl,h⟩
 |_=>rfl
abbrev Nb(C:Ctx)(F:Fn)(pe:Ο)(g:Sg){R:Type}(K:KS R)(r:R)(Q:vq->Χ->Prop):Prop:=
 ∀k fl env fw,Le (fY pe) g k->HR C k->FR C F pe k env->Iw C k fl fw->K fl env k.H=some r->Q fw k.s
structure XE(C:Ctx)(A:Ϡ)(F:Fn)(pe:Ο)(f:FS)(m:Kh vq):Prop where
 ok: ∀{R:Type}{r:R}{K:KS R}{env:Env}{H:Hp},f env H K=some r->yl K r->H.ok
 w: ∀{R:Type}{r:R}{K:KS R}{env:Env}{g:Sg}{Q:vq->Χ->Prop},f env g.H K=some r->yl K r->HR C g->FR C F pe g env->Nb C F pe g K r Q->WP C A m Q g.s
section
variable{C:Ctx}{A:Ϡ}{F:Fn}{pe:Ο}{g:Sg}{R:Type}{r:R}{K:KS R}{H:Hp}{v w:V}{Q:vq->Χ->Prop}{f1 f2 f3:FE}{x1 x2:FS}{e1 e2 e3:Ϛ}{n m i:Nat}{env:Env}{pos:gB}{st:fB}{b1 b2 rest:List fB}
theorem zd{k:Sg}(L:Le (fY pe) g k)(q:Nb C F pe g K r Q):Nb C F pe k K r Q:=λm fl env fw M=>q m fl env fw<|L.trans M
theorem N5:XE C A F pe (λenv H K=>K (.ret .none) env H) (exec (.Return none pos) pe):=⟨λe o=>o _ _ _ e,λ{R r K env g Q} e o hr f q=>wpAny_Return_none<|q g _ _ _ .refl hr f (.rt vn) e⟩
theorem N6(h1:SE C A F pe f1 (eval e1 pe)):XE C A F pe (λenv H K=>f1 env H (AB env K)) (exec (.Return (some e1) pos) pe):=⟨λe o=>h1.1 e λv H e=>o _ _ _ e,
 λ{R r K env g Q} e o hr f q=>wpAny_Return_some (h1.2 e (λv H e=>o _ _ _ e) hr f λk v y L hr V e=>q k _ _ _ L.lift hr (f.le L) (.rt V) e)⟩
theorem XO(hs:swapsWith e1 none pos.line pe=pure false)(h1:SE C A F pe f1 (eval e1 pe)):XE C A F pe (λenv H K=>f1 env H (kEx env K)) (exec (.Expr e1 pos) pe):=⟨λe o=>h1.1 e λv H e=>o _ _ _ e,
 λ{R r K env g Q} e o hr f q=>wpAny_Expr_any (h1.2 e (λv H e=>o _ _ _ e) hr f λk v y L hr V e=>q k _ _ _ L.lift hr (f.le L) .nx e) (by unfold interactive;rw[f.kind];rfl) hs⟩
theorem CN(h2:XE C A F pe x1 (execs b1 pe))(h3:XE C A F pe x2 (execs b2 pe))(e:iH (x1 env) (x2 env) K v H=some r)(o:yl K r):H.ok:=by
 obtain⟨b,_,e⟩:=mq e
 induction b with
 |false=>exact h3.ok e o
 |true=>exact h2.ok e o
theorem XQ(h1:ST C A F pe f1 e1)(h2:XE C A F pe x1 (execs b1 pe))(h3:XE C A F pe x2 (execs b2 pe)):XE C A F pe (λenv H K=>f1 env H (iH (x1 env) (x2 env) K)) (exec (.If e1 b1 b2 pos) pe):=⟨λe o=>h1.v.1 e λv H e=>CN h2 h3 e o,
 λ{R r K env g Q} e o hr f q=>wpAny_If (h1.t e (λv H e=>CN h2 h3 e o) xw hr f λk v b L hr h e=>by
  obtain⟨b',h',e⟩:=mq e
  cases ξ (h.symm.trans h')
  induction b with
  |false=>exact h3.w e o hr (f.le L)<|zd L.lift q
  |true=>exact h2.w e o hr (f.le L) (zd L.lift q))⟩
theorem Uh:XE C A F pe (λenv H K=>K .next env H) (execs [] pe):=⟨λe o=>o _ _ _ e,λ{R r K env g Q} e o hr f q=>kq<|q g _ _ _ .refl hr f .nx e⟩
theorem Ua:XE C A F pe (λenv H K=>K .brk env H) (exec (.Break pos) pe):=⟨λe o=>o _ _ _ e,λ{R r K env g Q} e o hr f q=>wpAny_Break<|q g _ _ _ .refl hr f .br e⟩
theorem Uc:XE C A F pe (λenv H K=>K .cont env H) (exec (.Continue pos) pe):=⟨λe o=>o _ _ _ e,λ{R r K env g Q} e o hr f q=>wpAny_Continue<|q g _ _ _ .refl hr f .ct e⟩
theorem JV{fl:Fl}(h2:XE C A F pe x2 (execs rest pe))(e:pX x2 K fl env H=some r)(o:yl K r):H.ok:=by
 induction fl with
 |next=>exact h2.ok e o
 |_=>exact o _ _ _ e
theorem N2(h1:XE C A F pe x1 (exec st pe))(h2:XE C A F pe x2 (execs rest pe)):XE C A F pe (λenv H K=>x1 env H (pX x2 K)) (execs (st::rest) pe):=⟨λe o=>h1.ok e λfl env H e=>JV h2 e o,
 λ{R r K env g Q} e o hr f q=>wpAny_execs_cons (h1.w e (λfl env H e=>JV h2 e o) hr f λk fl env fw L hr f W e=>by
  induction W with
  |nx=>exact h2.w e o hr f<|zd L q
  |br=>exact q k _ _ _ L hr f .br e
  |ct=>exact q k _ _ _ L hr f .ct e
  |rt V=>exact q k _ _ _ L hr f (.rt V) e)⟩
variable{p:Fl×Env×Hp}
abbrev yj:=Env->Hp->KS (Fl×Env×Hp)->Option (Fl×Env×Hp)
noncomputable abbrev PG:KS (Fl×Env×Hp):=λf e h=>some (f,e,h)
section
variable{rc:Env->Hp->Option (Fl×Env×Hp)}{fl fl2:Fl}{e h:Hp}{env2 env3:Env}{h2 h3:Hp}{b b2:Bool}{body:yj}{test:Env->Hp->KV (V×Hp)->Option (V×Hp)}
theorem JK{v v':V}{h h':Hp}(e:some (v',h')=some (v,h))(o:h.ok):h'.ok:=by cases e;exact o
theorem Tt{v v':V}{h h':Hp}{b:Bool}(e:some (v',h')=some (v,h))(o:truth v=some b):truth v'=some b:=by cases e;exact o
noncomputable def Wa(rc:Env->Hp->Option (Fl×Env×Hp))(p:Fl×Env×Hp)(fl:Fl)(e:Env)(h:Hp):Prop:=@Fl.casesOn (λ_=>Prop) fl (rc e h=some p) (p=(.next,e,h)) (rc e h=some p) λv=>p=(.ret v,e,h)
inductive Pn(C:Ctx)(g:Sg)(rc:Env->Hp->Option (Fl×Env×Hp))(p:Fl×Env×Hp)(e:Env)(h:Hp):vq->Prop
 |nx:rc e h=some p->Pn C g rc p e h .next
 |ct:rc e h=some p->Pn C g rc p e h .cont
 |br:p=(.next,e,h)->Pn C g rc p e h .brk
 |rt {v:V} {x:χ}:VR C g v x->p=(.ret v,e,h)->Pn C g rc p e h (.ret x)
theorem TM{fw:vq}(W:Iw C g fl fw)(a:Wa rc p fl env h):Pn C g rc p env h fw:=by
 induction W with
 |nx=>exact .nx a
 |br=>exact .br a
 |ct=>exact .ct a
 |rt V=>exact .rt V a
theorem EC(a:Wa rc p fl env h)(e:PG fl2 env2 h2=some (fl,env,h)):Wa rc p fl2 env2 h2:=by
 cases e;exact a
theorem JZ(a:Wa rc p fl env h)(ih:rc env h=some p->h.ok)(o:p.2.2.ok):h.ok:=by
 induction fl with
 |next=>exact ih a
 |cont=>exact ih a
 |brk=>rw[show p=(.next,env,h) from a] at o;exact o
 |ret v=>rw[show p=(.ret v,env,h) from a] at o;exact o
inductive Om(body:yj)(rc:Env->Hp->Option (Fl×Env×Hp))(env:Env)(h:Hp)(p:Fl×Env×Hp):Bool->Prop
 |no:p=(.next,env,h)->Om body rc env h p false
 |go {fl:Fl} {e1:Env} {h1:Hp}:body env h PG=some (fl,e1,h1)->Wa rc p fl e1 h1->Om body rc env h p true
theorem TZ{v2:V}(w:Om body rc env h p b)(tb:truth v=some b)(tb2:truth v2=some b2)(e:some (v2,h2)=some (v,h)):Om body rc env h2 p b2:=by
 cases e;cases tb.symm.trans tb2;exact w
theorem J6(h2:XE C A F pe x1 (execs b1 pe))(w:Om (λenv H K=>x1 env H K) rc env h p b)(ih: ∀env h,rc env h=some p->h.ok)(o:p.2.2.ok):h.ok:=by
 induction w with
 |no e=>rw[e] at o;exact o
 |go hb a=>exact h2.ok hb λfl' env' H' e'=>JZ (EC a e') (ih _ _) o
inductive Yd(test:Env->Hp->KV (V×Hp)->Option (V×Hp))(body:yj)(env:Env)(H:Hp)(p:Fl×Env×Hp):Nat->Prop
 |mk {m:Nat} {v:V} {h:Hp} {b:Bool}:test env H (λv h=>some (v,h))=some (v,h)->truth v=some b->Om body (tN test body m) env h p b->Yd test body env H p (m+1)
theorem NX{o:Option (Fl×Env×Hp)}(e:(match o with
 |some (.next,e,h)=>rc e h
 |some (.cont,e,h)=>rc e h
 |some (.brk,e,h)=>some (Fl.next,e,h)
 |some (.ret v,e,h)=>some (.ret v,e,h)
 |none=>none)=some p): ∃fl e1 h1,o=some (fl,e1,h1)/\Wa rc p fl e1 h1:=by
 induction o with
 |none=>exact Ϝ e
 |some t=>exact⟨t.1,t.2.1,t.2.2,rfl,by
  obtain⟨fl,e1,h1⟩:=t
  induction fl with
  |next=>exact e
  |cont=>exact e
  |brk=>exact(ξ e).symm
  |ret v=>exact(ξ e).symm⟩
theorem zL(e:tN test body n env H=some p):Yd test body env H p n:=by
 induction n with
 |zero=>exact Ϝ e
 |succ n=>
  refine(tw e).elim λv q_=>q_.elim λh q_=>q_.elim λh1 e=>?_
  obtain⟨b,tb,e⟩:=aN e
  refine .mk h1 tb ?_
  induction b with
  |false=>exact .no (ξ e).symm
  |true=>
   refine(NX e).elim λfl q_=>q_.elim λe1 q_=>q_.elim λh1 q_=>q_.elim λhb a=>?_
   exact .go hb a
theorem zM(e:Ii test body env H K=some r): ∃n p,tN test body n env H=some p/\K p.1 p.2.1 p.2.2=some r:=by
 unfold Ii at e
 by_cases h: ∃n r,tN test body n env H=some r
 ·rw[dif_pos h] at e
  exact⟨_,_,h.choose_spec.choose_spec,e⟩
 ·rw[dif_neg h] at e
  exact Ϝ e
end
theorem EJ(h1:ST C A F pe f1 e1)(h2:XE C A F pe x1 (execs b1 pe))(o:p.2.2.ok)(n:Nat): ∀(env:Env)(H:Hp),tN (λenv H K=>f1 env H K) (λenv H K=>x1 env H K) n env H=some p->H.ok:=by
 induction n with
 |zero=>exact λenv H e=>Ϝ e
 |succ n ih=>
  intro env H e
  cases zL e with
  |mk e1 _ w=>exact h1.v.1 e1 λv' H' e'=>JK e'<|J6 h2 w ih o
end
section
variable{C:Ctx}{A:Ϡ}{F:Fn}{pe:Ο}{f1:FE}{x1:FS}{e1:Ϛ}{pos:gB}{b1:List fB}
inductive X_(C:Ctx)(F:Fn)(pe:Ο)(f1:FE)(x1:FS)(p:Fl×Env×Hp)(g:Sg)(m:Nat):Χ->Prop
 |mk {k:Sg} {env1:Env}:tN (λenv H K=>f1 env H K) (λenv H K=>x1 env H K) m env1 k.H=some p->HR C k->FR C F pe k env1->Le (fY pe) g k->X_ C F pe f1 x1 p g m k.s
theorem kp{R:Type}{r:R}{K:KS R}{p:Fl×Env×Hp}{f:Fl}{e:Env}{h:Hp}(k:K p.1 p.2.1 p.2.2=some r)(q:p=(f,e,h)):K f e h=some r:=by subst q;exact k
theorem Ul(h1:ST C A F pe f1 e1)(h2:XE C A F pe x1 (execs b1 pe)):XE C A F pe (λenv H K=>Ii (λenv H K=>f1 env H K) (λenv H K=>x1 env H K) env H K) (exec (.While e1 b1 [] pos) pe) where
 ok e o:=by
  obtain⟨n,p,e,e'⟩:=zM e
  exact EJ h1 h2 (o _ _ _ e') n _ _ e
 w {R r K env g Q} e o hr f q:=by
  obtain⟨n,p,e,eK⟩:=zM e
  have oK:p.2.2.ok:=o _ _ _ eK
  refine wpAny_While<|codeAny_whileLoop (X_ C F pe f1 x1 p g) (λm s' hI=>?_) n<|.mk e hr f .refl
  induction hI with
  | @mk k env1 w hr1 fr1 L=>
   induction zL w with
   | @mk m v h b et tb wt=>
    refine cI (h1.t et (λv' H' e'=>JK e' (J6 h2 wt (EJ h1 h2 oK m) oK:h.ok)) (λv' H' e'=>(Tt e' tb)▸rfl) hr1 fr1 λk2 v2 b2 M hr2 tb2 ev=>?_) (λ_ _ q=>q) λ_ _ z=>z.elim
    have f2:=fr1.le M
    have L2:=L.trans M.lift
    induction TZ wt tb tb2 ev with
    |no e=>exact kq<|q k2 _ _ _ L2 hr2 f2 .nx<|kp eK e
    |go hb a=>
     refine cI (h2.w hb (λfl' env' H' e'=>JZ (EC a e') (EJ h1 h2 oK m _ _) oK) hr2 f2 λk3 fl3 env3 fw N hr3 f3 W e3=>?_) (λ_ _ q=>q) λ_ _ z=>z.elim
     have w:=TM W<|EC a e3
     clear W
     have L3:=L2.trans N
     induction w with
     |nx e=>exact⟨m,ϝ m,.mk e hr3 f3 L3⟩
     |ct e=>exact⟨m,ϝ m,.mk e hr3 f3 L3⟩
     |br e=>exact q k3 _ _ _ L3 hr3 f3 .nx<|kp eK e
     |rt V e=>exact q k3 _ _ _ L3 hr3 f3 (.rt V)<|kp eK e
end
section
variable{C:Ctx}{A:Ϡ}{g:Sg}{it:ό}{kp:Option (Nat×PO)}{v:V}{y:χ}{l:List D}{T:Bool}
theorem pI{H H':Hp}(S:kL kp H)(e:H'=H):kL kp H':=e▸S
theorem Gk: ∀(xs:List D)(g:Sg)(Q:List χ->Χ->Prop),lK g it kp xs->kL kp g.H->HR C g->Own g it->(∀k ys,Le [it] g k->HR C k->k.H=g.H->lK k it kp []->bg k.z k.s.heap xs ys->Q ys k.s)->WP C A (draw (.ref it) xs.length) Q g.s:=λxs=>by
 induction xs with
 |nil=>
  intro g Q I S hr o q
  exact Η<|q g [] .refl hr rfl I rfl
 |cons x xs ih=>
  intro g Q I S hr o q
  refine ο<|sC I rfl S hr o λk v L hr1 hk I1 X=>?_
  refine ο<|ύ<|ih k _ I1 (pI S hk) hr1 (o.le L) λm ys M hr2 hm I2 Y=>Η ?_
  exact q m (v::ys) (L.trans M) hr2 (hm.trans hk) I2<|.mk (DR.mono M.zz M.im _ _ X) Y
theorem CW{H:Hp}(e:sq H v=some (T,l)): ∃kp,iy H v=some (l,kp)/\kL kp H:=by
 induction v with
 |d d=>
  cases d with
  |tup l'=>
   cases ξ e
   exact⟨none,rfl,λj o h=>Ϝ h⟩
  |lst l'=>
   cases ξ e
   exact⟨none,rfl,λj o h=>Ϝ h⟩
  |_=>exact Ϝ e
 |obj j=>
  obtain⟨l',h,f⟩:=qV e
  cases f
  refine⟨some (j,.list l),?_,λj' o h'=>?_⟩
  ·exact congrArg (UN j) h
  ·cases h'
   exact get_some h<|λh=>PO.noConfusion h
 |_=>exact Ϝ e
theorem AU{Q:List χ->Χ->Prop}(S:dU C)(hh:A.handled=none)(e:sq g.H v=some (T,l))(X:VR C g v y)(hr:HR C g)(q: ∀k ys,Le [] g k->HR C k->k.H=g.H->bg k.z k.s.heap l ys->Q ys k.s):WP C A (unpackItems y l.length none) Q g.s:=by
 refine(CW e).elim λkp q_=>q_.elim λe2 St=>?_
 have hT: ∃T id,g.s.TypeIs y T/\PySem.Slot T "__iter__" id:=by
  have S:Bb g T l y:=mY hr X e
  induction S with
  | @mk a its n il _ _=>
   induction T with
   |true=>exact⟨_,_,⟨_,il,rfl⟩,F.slot_tuple_iter⟩
   |false=>exact⟨_,_,⟨_,il,rfl⟩,slot_list_iter⟩
 refine hT.elim λT' q_=>q_.elim λid q_=>q_.elim λhT hs=>?_
 refine ο ?_
 refine ο<|tO hT hs.lookup ?_
 refine Η ?_
 simp only[kG,if_false]
 refine ο<|ύ<|uP S e2 X hr λk it L hr1 o n I hk=>?_
 refine ο<|ύ<|Gk l k _ I (pI St hk) hr1 o λm ys M hr2 hm I2 Y=>?_
 have hlen:l.length=ys.length:=Y.len
 rw[if_neg (by omega)]
 refine ο<|ύ<|xG hh I2 rfl (pI St<|hm.trans hk) hr2 λh x=>?_
 simp only[Option.isSome_none,kG,if_false]
 have o2:=o.le M
 exact Η<|q (m.up m.H h m.s.toks) ys (oJ (L.drop M λa z=>.inr<|υ.mp z▸n) n hr x) (oH hr2 o2.2 o2.3 x) (hm.trans hk)<|bg.mono (λ_ q=>q) (r8 hr2 o2.3 x) _ _ Y
inductive Bq(F:Fn)(pe:Ο)(own:List ό)(i:Nat)(id:ak):Prop
 |mk (at_:F.ns i=some id) (kd:UD pe own id)
class inductive TN(F:Fn)(pe:Ο)(own:List ό):E->List Ϛ->Prop
 |nil:TN F pe own .nil []
 |cons {t n m t' i m':Nat} {k k':List Nat} {a b c b' c':E} {id:ak} {p:gB} {es:List Ϛ}:Bq F pe own i id->TN F pe own b es->TN F pe own (.n t n m k (.n t' i m' k' a b' c') b c) (.Name id p::es)
inductive TG(F:Fn)(pe:Ο)(own:List ό):E->Ϛ->Prop
 |nm {i m:Nat} {k:List Nat} {a b c:E} {id:ak} {p:gB}:Bq F pe own i id->TG F pe own (.n 5 i m k a b c) (.Name id p)
 |tu {n m:Nat} {k:List Nat} {a b c:E} {es:List Ϛ} {x:Nat} {p:gB}:TN F pe own a es->TG F pe own (.n 15 n m k a b c) (.Tuple es x p)
end
section
variable{own:List ό}{C:Ctx}{A:Ϡ}{F:Fn}{pe:Ο}{g:Sg}{env env1:Env}{v:V}{y:χ}{i:Nat}{id:ak}{p:gB}{e:E}{es:List Ϛ}{l:List D}{ys:List χ}{Q:Unit->Χ->Prop}
abbrev Na(C:Ctx)(F:Fn)(pe:Ο)(own:List ό)(g:Sg)(env:Env)(Q:Unit->Χ->Prop):Prop:=∀k,Le own g k->HR C k->FR C F pe k env->k.H=g.H->Q () k.s
theorem lookup_mem{n:ak}{c:ό}{l:List (ak×ό)}(e:l.lookup n=some c):c∈l.map (·.2):=by
 induction l with
 |nil=>exact Ϝ e
 |cons a l ih=>
  obtain⟨k,d⟩:=a
  rw[aX] at e
  split at e
  ·exact ξ e▸.head _
  ·exact .tail _<|ih e
theorem yu(s:Bq F pe own i id)(hr:HR C g)(f:FR C F pe g env)(V:VR C g v y)(q:Na C F pe own g (env.set i<|some v) Q):WP C A (assign (.Name id p) pe y) Q g.s:=by
 rw[arm_assign_Name]
 exact ο<|aE<|wpAny_bindName<|u6 f hr s.1 s.2 V λh t f hr L=>q _ L hr f rfl
theorem HZ(h:TN F pe own e es):assignEach es pe=es.map λe=>(false,assign e pe):=by
 induction h with
 |nil=>rfl
 | @cons _ _ _ _ _ _ _ _ _ _ _ _ _ id p es _ _ ih=>
  show(false,assign (.Name id p) pe)::assignEach es pe=_
  rw[ih];rfl
theorem BO{t n m t' i m':Nat}{k k':List Nat}{a b c b' c':E}(e:eE (.n t n m k (.n t' i m' k' a b' c') b c) l env=some env1): ∃x l',l=x::l'/\eE b l' (env.set i<|some<|.d x)=some env1:=by
 induction l with
 |nil=>exact Ϝ e
 |cons x l=>exact⟨x,l,rfl,e⟩
theorem NL(h:TN F pe own e es): ∀(l:List D)(env:Env),eE e l env=some env1->es.length=l.length:=by
 induction h with
 |nil=>
  intro l env e
  induction l with
  |nil=>rfl
  |cons _ _=>exact Ϝ e
 |cons _ _ ih=>
  intro l env e
  obtain⟨x,l,rfl,e⟩:=BO e
  exact congrArg (· +1)<|ih _ _ e
theorem Kw(h:TN F pe own e es): ∀(l:List D)(ys:List χ)(env:Env)(g:Sg)(Q:Unit->Χ->Prop),eE e l env=some env1->HR C g->FR C F pe g env->bg g.z g.s.heap l ys->Na C F pe own g env1 Q->WP C A (assignInOrder (es.map λe=>assign e pe) ys) Q g.s:=by
 induction h with
 |nil=>
  intro l ys env g Q e hr f D q
  induction l with
  |nil=>
   cases ξ e
   cases(show ys=[] from D)
   exact Η<|q g .refl hr f rfl
  |cons _ _=>exact Ϝ e
 |cons s _ ih=>
  intro l ys env g Q e hr f D q
  obtain⟨x,l,rfl,e⟩:=BO e
  induction D with
  |mk X D=>
   refine ο<|ύ<|yu (v:=.d x) s hr f X λk L hr f hk=>?_
   exact ih l _ _ k Q e hr f (bg.mono L.zz L.im _ _ D) λm M hr f hm=>q m (L.trans M) hr f<|hm.trans hk
theorem II{T:Bool}{x:Nat}(S:dU C)(hh:A.handled=none)(h:TN F pe own e es)(es0:sq g.H v=some (T,l))(eb:eE e l env=some env1)(hr:HR C g)(f:FR C F pe g env)(V:VR C g v y)(q:Na C F pe own g env1 Q):WP C A (assign (.Tuple es x p) pe y) Q g.s:=by
 rw[arm_assign_Tuple]
 refine ο<|aE ?_
 unfold unpack
 rw[HZ h]
 have h2:(es.map λe=>(false,assign e pe)).findIdx? (·.1)=none:=by rw[qD];intro x hx;obtain⟨e,_,rfl⟩:=Ϗ.mp hx;rfl
 have h3:(es.map λe=>(false,assign e pe)).map (·.2)=es.map λe=>assign e pe:=by rw[Ϲ];rfl
 rw[((ς _).trans (NL h l env eb):(es.map λe=>(false,assign e pe)).length=l.length),h2,h3]
 refine ο<|ύ<|AU S hh es0 V hr λk ys L hr1 hk D=>?_
 exact Kw h l ys env k Q eb hr1 (f.le L) D λm M hr f hm=>q m (L.lift.trans M) hr f<|hm.trans hk
theorem PA{d:D}{tg:Ϛ}{t:E}(S:dU C)(hh:A.handled=none)(h:TG F pe own t tg)(e:nZ t d env=some env1)(hr:HR C g)(f:FR C F pe g env)(X:DR g.z g.s.heap d y)(q:Na C F pe own g env1 Q):WP C A (assign tg pe y) Q g.s:=by
 induction h with
 |nm s=>
  cases ξ e
  exact yu (v:=.d d) s hr f X q
 |tu h=>
  obtain⟨⟨T,l⟩,e1,e2⟩:=dG e
  exact II (v:=.d d) S hh h (show sq g.H (.d d)=_ from e1) e2 hr f X q
noncomputable abbrev FT:Type 1:={R:Type}->V->Env->Hp->KS R->Option R
end
structure AZ(C:Ctx)(A:Ϡ)(F:Fn)(pe:Ο)(f:FT)(tg:Ϛ):Prop where
 ok: ∀{R:Type}{r:R}{K:KS R}{env:Env}{H:Hp}{v:V},f v env H K=some r->yl K r->H.ok
 w: ∀{R:Type}{r:R}{K:KS R}{env:Env}{g:Sg}{v:V}{y:χ}{Q:Unit->Χ->Prop},f v env g.H K=some r->yl K r->HR C g->FR C F pe g env->VR C g v y->(∀k env',Le (fY pe) g k->HR C k->FR C F pe k env'->K .next env' k.H=some r->Q () k.s)->WP C A (assign tg pe y) Q g.s
section
variable{C:Ctx}{A:Ϡ}{F:Fn}{pe:Ο}{g:Sg}{R:Type}{r:R}{K:KS R}{H:Hp}{v w:V}{f1 f2 f3:FE}{ft:FT}{e1 e2 e3 tg:Ϛ}{n i x:Nat}{kp:Bool}{env:Env}{pos:gB}{a:E}{es:List Ϛ}{id:ak}{N:Nat}
theorem Ve(s:Bq F pe (fY pe) i id):AZ C A F pe (λv env H K=>K .next (env.set i<|some v) H) (.Name id pos):=⟨λe o=>o _ _ _ e,λ{R r K env g v y Q} e o hr f V q=>yu s hr f V λk L hr f hk=>q k _ L hr f<|hk▸e⟩
theorem Et(e:(ob ((sq H v).bind λl=>eE a l.2 env) λe=>K .next e H)=some r): ∃T l env1,sq H v=some (T,l)/\eE a l env=some env1/\K .next env1 H=some r:=by
 refine(aN e).elim λenv1 q_=>q_.elim λe1 e=>?_
 obtain⟨⟨T,l⟩,e1,e2⟩:=dG e1
 exact⟨T,l,env1,e1,e2,e⟩
theorem Vf(S:dU C)(hh:A.handled=none)(h:TN F pe (fY pe) a es):AZ C A F pe (λv env H K=>ob ((sq H v).bind λl=>eE a l.2 env) λe=>K .next e H) (.Tuple es x pos) where
 ok e o:=by
  refine(Et e).elim λT q_=>q_.elim λl q_=>q_.elim λenv1 q_=>q_.elim λ_ q_=>q_.elim λ_ e=>?_
  exact o _ _ _ e
 w e o hr f V q:=by
  refine(Et e).elim λT q_=>q_.elim λl q_=>q_.elim λenv1 q_=>q_.elim λe1 q_=>q_.elim λe2 e=>?_
  exact II S hh h e1 e2 hr f V λk L hr f hk=>q k _ L hr f<|hk▸e
theorem DT{o:V}(e:Rv kp n v env K o H=some r)(ok:yl K r):H.ok:=by
 refine(aN e).elim λH' q_=>?_
 exact q_.elim λe1 e=>(SX e1<|ok _ _ _ e)
theorem Vc(hX:kp=F.m)(S:nQ C)(hn:n<c7)(h1:SE C A F pe f1 (eval e1 pe)):AZ C A F pe (λv env H K=>f1 env H<|Rv kp n v env K) (.Attribute e1 (txt n) pos) where
 ok e o:=h1.1 e λw H e=>DT e o
 w {R r K env g v y Q} e o hr f V q:=by
  rw[arm_assign_Attribute]
  refine ο<|ύ<|h1.2 e (λw H e=>DT e o) hr f λk u z L hr U e=>?_
  obtain⟨H',e1,e⟩:=aN e
  refine ο<|aE<|ο<|ύ ?_
  exact SW (L.md.trans<|f.md.trans hX.symm) S hn e1 hr U (L.v _ _ V) λm M hr hm=>nq<|q m _ (L.trans M).lift hr (f.le<|L.trans M)<|hm▸e
theorem yd{o i:V}(e:GU kp o v env K i H=some r)(ok:yl K r):H.ok:=by
 refine(aN e).elim λH' q_=>?_
 exact q_.elim λe1 e=>(D3 e1<|ok _ _ _ e)
theorem Vd(hX:kp=F.m)(hA:zR A N)(h1:SE C A F pe f1 (eval e1 pe))(h2:SE C A F pe f2 (eval e2 pe)):AZ C A F pe (λv env H K=>f1 env H<|UP (f2 env) kp v env K) (.Subscript e1 e2 pos) where
 ok e o:=h1.1 e λw H e=>h2.1 e λu H e=>yd e o
 w {R r K env g v y Q} e o hr f V q:=by
  rw[arm_assign_Subscript]
  refine ο<|ύ<|h1.2 e (λw H e=>h2.1 e λu H e=>yd e o) hr f λk u z L hr U e=>?_
  refine ο<|ύ<|h2.2 e (λu H e=>yd e o) hr (f.le L) λk2 u2 z2 M hr U2 e=>?_
  obtain⟨H',e1,e⟩:=aN e
  refine ο<|aE<|ο<|ύ ?_
  have LM:=L.trans M
  exact vm (LM.md.trans<|f.md.trans hX.symm) hA.u e1 (o _ _ _ e) hr (M.v _ _ U) U2 (LM.v _ _ V) λm N hr hm=>nq<|q m _ (LM.trans N).lift hr (f.le<|LM.trans N)<|hm▸e
theorem T7(hs:swapsWith e1 (some tg) pos.line pe=pure false)(hw:swappedStores [tg] e1 pe=pure none)(he:(assignEach [tg] pe).map (·.2)=[assign tg pe])(h1:SE C A F pe f1 (eval e1 pe))(h2:AZ C A F pe ft tg):XE C A F pe (λenv H K=>f1 env H<|CX (λv=>ft v env) K) (exec (.Assign [tg] e1 pos) pe) where
 ok e o:=h1.1 e λv H e=>h2.ok e o
 w {R r K env g Q} e o hr f q:=by
  refine wpAny_Assign_stores (h1.2 e (λv H e=>h2.ok e o) hr f λk v y L hr V e=>?_) hs hw
  rw[he]
  exact h2.w e o hr (f.le L) V λm env' M hr f e=>q m _ _ _ (L.lift.trans M) hr f .nx e
end
section
variable{C:Ctx}{A:Ϡ}{F:Fn}{pe:Ο}{g:Sg}{R:Type}{r:R}{K:KS R}{H:Hp}{v w:V}{f1 f2 f3:FE}{e1 e2 e3 tg:Ϛ}{n i:Nat}{env:Env}{pos:gB}{b1:List fB}
theorem wc(e:GR env K v H=some r): ∃b,truth v=some b/\K .next env (H.ϴ<|b=false)=some r:=by
 unfold GR at e
 induction h:truth v with
 |none=>rw[h] at e;exact Ϝ e
 |some b=>rw[h] at e;exact⟨b,rfl,lu e⟩
theorem IG(e:GR env K v H=some r)(o:yl K r):H.ok:=by
 refine(wc e).elim λb q_=>q_.elim λ_ e=>?_
 exact(o _ _ _ e).1
theorem T8(h1:ST C A F pe f1 e1):XE C A F pe (λenv H K=>f1 env H (GR env K)) (exec (.If e1 b1 [] pos) pe):=⟨λe o=>h1.v.1 e λv H e=>IG e o,
 λ{R r K env g Q} e o hr f q=>wpAny_If (h1.t e (λv H e=>IG e o) (λv H e=>(wc e).elim λb h=>h.1▸rfl) hr f λk v b L hr h e=>by
  obtain⟨b',h',e⟩:=wc e
  cases ξ (h.symm.trans h')
  have hb:b=false:=(o _ _ _ e).2
  subst hb
  exact kq (q (k.up (k.H.ϴ (false=false)) k.s.heap k.s.toks) _ _ _ (L.lift.trans (gh hr LA rfl:Le (fY pe) k (k.up (k.H.ϴ (false=false)) k.s.heap k.s.toks))) (lF hr LA rfl) ((f.le L).le (gh hr LA rfl)) .nx e))⟩
theorem Bv{f:Run R (KV R)}{o:Option (Option V)}(e:OD f n env H K o=some r): ∃v,o=some (some v)/\f H (Rb n v env K)=some r:=by
 induction o with
 |none=>exact Ϝ e
 |some o=>
  induction o with
  |none=>exact Ϝ e
  |some v=>exact⟨v,rfl,e⟩
theorem IK(e:Rb n v env K w H=some r)(o:yl K r):H.ok:=by
 refine(jg e).elim λa q_=>q_.elim λb q_=>q_.elim λ_ q_=>q_.elim λ_ e=>?_
 exact o _ _ _ e
theorem T9{id:ak}{p:gB}(s:Bq F pe (fY pe) i id)(hc:(id==("__classdict__":ak))=false)(h1:SE C A F pe f1 (eval e1 pe)):XE C A F pe (λenv H K=>OD (f1 env) i env H K env[i]?) (exec (.AugAssign (.Name id p) .Add e1 pos) pe):=⟨λe o=>(Bv e).elim λv h=>h1.1 h.2 λw H e=>IK e o,
 λ{R r K env g Q} e o hr f q=>by
  obtain⟨v,he,e⟩:=Bv e
  refine wpAny_AugAssign_Name<|zx f s.1 he hc λx V=>?_
  refine h1.2 e (λw H e=>IK e o) hr f λk u y L hr U e=>?_
  obtain⟨a,b,rfl,rfl,e⟩:=jg e
  obtain⟨t,rfl⟩:=V
  obtain⟨u,rfl⟩:=U
  refine tF ?_
  have T:=iJ (t:=k.s.toks+1) hr
  exact u6 (own:=fY pe) (g:=k.up k.H k.s.heap (k.s.toks+1)) ((f.le L).le T) (jP hr) s.1 s.2 ki λh t f hr M=>q _ _ _ _ ((L.trans T).lift.trans M) hr f .nx e⟩
end
section
variable{C:Ctx}{A:Ϡ}{F:Fn}{pe:Ο}{g:Sg}{R:Type}{r:R}{K:KS R}{H:Hp}{t:E}{x:D}{l xs:List D}{kp:Option (Nat×PO)}{env:Env}{body:Env->Hp->KS (Fl×Env×Hp)->Option (Fl×Env×Hp)}{x1:FS}{b1:List fB}
theorem eG{r0:Option R}(e:stay kp H r0=some r):kL kp H/\r0=some r:=by
 induction kp with
 |none=>exact⟨(λj o h=>Ϝ h),e⟩
 |some p=>
  unfold stay at e
  dsimp only at e
  by_cases h:H.c[p.1]? =some p.2
  ·rw[if_pos h] at e
   refine⟨λj o h'=>?_,e⟩
   cases ξ h'
   exact h
  ·rw[if_neg h] at e
   exact Ϝ e
section
variable{rc:Env->Hp->Option R}{fl fl2:Fl}{h:Hp}{env2:Env}{h2:Hp}
noncomputable def Wf(rc:Env->Hp->Option R)(K:KS R)(r:R)(fl:Fl)(e:Env)(h:Hp):Prop:=@Fl.casesOn (λ_=>Prop) fl (rc e h=some r) (K .next e h=some r) (rc e h=some r) λv=>K (.ret v) e h=some r
inductive Po(C:Ctx)(g:Sg)(rc:Env->Hp->Option R)(K:KS R)(r:R)(e:Env)(h:Hp):vq->Prop
 |nx:rc e h=some r->Po C g rc K r e h .next
 |ct:rc e h=some r->Po C g rc K r e h .cont
 |br:K .next e h=some r->Po C g rc K r e h .brk
 |rt {v:V} {x:χ}:VR C g v x->K (.ret v) e h=some r->Po C g rc K r e h (.ret x)
theorem TQ{fw:vq}(W:Iw C g fl fw)(a:Wf rc K r fl env h):Po C g rc K r env h fw:=by
 induction W with
 |nx=>exact .nx a
 |br=>exact .br a
 |ct=>exact .ct a
 |rt V=>exact .rt V a
theorem EI(a:Wf rc K r fl env h)(e:PG fl2 env2 h2=some (fl,env,h)):Wf rc K r fl2 env2 h2:=by
 cases e;exact a
theorem J0(a:Wf rc K r fl env h)(ih:rc env h=some r->h.ok)(o:yl K r):h.ok:=by
 induction fl with
 |next=>exact ih a
 |cont=>exact ih a
 |brk=>exact o _ _ _ a
 |ret v=>exact o _ _ _ a
theorem NY{o:Option (Fl×Env×Hp)}(e:(match o with
 |some (.next,e,h)=>rc e h
 |some (.cont,e,h)=>rc e h
 |some (.brk,e,h)=>K .next e h
 |some (.ret v,e,h)=>K (.ret v) e h
 |none=>none)=some r): ∃fl e1 h1,o=some (fl,e1,h1)/\Wf rc K r fl e1 h1:=by
 induction o with
 |none=>exact Ϝ e
 |some t=>exact⟨t.1,t.2.1,t.2.2,rfl,by
  obtain⟨fl,e1,h1⟩:=t
  induction fl with
  |next=>exact e
  |cont=>exact e
  |brk=>exact e
  |ret v=>exact e⟩
end
inductive Fv(t:E)(body:yj)(rc:Env->Hp->Option R)(K:KS R)(r:R)(x:D)(env:Env)(H:Hp):Prop
 |mk {env1 e1:Env} {fl:Fl} {h1:Hp}:nZ t x env=some env1->body env1 H PG=some (fl,e1,h1)->Wf rc K r fl e1 h1->Fv t body rc K r x env H
theorem r_(e:forL kp t body K (x::xs) env H=some r):kL kp H/\Fv t body (λe h=>forL kp t body K xs e h) K r x env H:=by
 refine(eG e).elim λS e=>?_
 refine⟨S,?_⟩
 refine(aN e).elim λenv1 q_=>q_.elim λe1 e=>?_
 obtain⟨fl,e2,h2,hb,a⟩:=NY e
 exact .mk e1 hb a
theorem xo(h2:XE C A F pe x1 (execs b1 pe))(o:yl K r)(l:List D): ∀(env:Env)(H:Hp),forL kp t (λenv H K=>x1 env H K) K l env H=some r->H.ok:=by
 induction l with
 |nil=>exact λenv H e=>o _ _ _ (eG e).2
 |cons x xs ih=>exact λenv H e=>(r_ e).2.casesOn λ_ hb a=>h2.ok hb λfl' env' H' e'=>J0 (EI a e') (ih _ _) o
end
section
variable{C:Ctx}{A:Ϡ}{F:Fn}{pe:Ο}{fs:FI}{t:E}{x1:FS}{b1:List fB}{tg ie:Ϛ}{pos:gB}{g:Sg}{it:ό}{kp:Option (Nat×PO)}{l:List D}
theorem wk{α:Type}{m:Kh α}{Q:α->Χ->Prop}{E:χ->Χ->Prop}{s:Χ}(h:WP C A m Q s):wpAny (model pw C.w) A m Q E s:=cI h (λ_ _ q=>q) λ_ _ z=>z.elim
theorem LY(I:lK g it kp l): ∃o T vs,g.s.heap.get? it=some o/\(o.cls= .type T/\o.data= .fields vs)/\(["enumerate","zip","dict_itemiterator","dict_reverseitemiterator","odict_iterator","itertools.zip_longest","itertools.pairwise"]:List String).contains T=false:=by
 induction I with
 |tu i _ _ _ x=>exact x.elim λo e=>⟨o,_,_,e.1,e.2,by decide⟩
 |ls i _ _ _ x=>exact x.elim λo e=>⟨o,_,_,e.1,e.2,by decide⟩
 |rn x=>exact⟨_,_,_,x,⟨rfl,rfl⟩,by decide⟩
 |li i ea x=>exact x.elim λo e=>⟨o,_,_,e.1,e.2,by decide⟩
 |di i ea x=>exact x.elim λo e=>⟨o,_,_,e.1,e.2,by decide⟩
theorem Js{F:Fn}{pe:Ο}{own:List ό}{t:E}{v:χ}{Q:Unit->Χ->Prop}(T:TG F pe own t tg)(I:lK g it kp l)(q:Q () g.s):WP C A (letOwnedTupleGo tg (.ref it) v) Q g.s:=by
 have main: ∀(a:ό),WP C A (do
  let o <-load it
  match o.cls,o.data with
  | .type n,.fields vs=>
   if ["enumerate","zip","dict_itemiterator","dict_reverseitemiterator","odict_iterator","itertools.zip_longest","itertools.pairwise"].contains n&&vs[0]? ==some (rawInt a) then
    rule "for.unpacks-the-owned-tuple"
    updateField it 0 .none
  |_,_=>pure ()) Q g.s:=λa=>by
  refine(LY I).elim λo q_=>q_.elim λT q_=>q_.elim λvs q_=>q_.elim λe q_=>q_.elim λc h=>?_
  refine ο<|wpAny_load e ?_
  rw[c.1,c.2]
  dsimp only
  rw[h,Bool.false_and,if_neg ϟ]
  exact Η q
 induction T with
 |nm _=>exact Η q
 |tu _=>induction v<;>first|exact Η q|exact main _
theorem FR.keep{g k:Sg}{env:Env}(f:FR C F pe g env)(vv: ∀v x,VR C g v x->VR C k v x)(sm: ∀a,a∈fY pe->Own g a->k.s.heap.get? a=g.s.heap.get? a)(ex: ∀a,a∈fY pe->g.s.heap.get? a≠none->k.s.heap.get? a≠none)(ow: ∀a,a∈fY pe->Own g a->Own k a)(hm:k.m=g.m):FR C F pe k env where
 kind:=f.kind
 glob:=f.glob
 blt:=f.blt
 len:=f.len
 val:=by
  obtain⟨m,q,f'⟩:=f.val
  refine⟨m,jw (sm _ (.head _) f.lo) q,λi n v a b=>(f' i n v a b).imp λx q=>⟨?_,vv _ _ q.2⟩⟩
  induction q.1 with
  |loc a b=>exact .loc a b
  |gC a b c=>exact .gC a b<|c_ (sm _ (.tail _<|lookup_mem b) (f.gC _ _ b).2.1) c
 lo:=ow _ (.head _) f.lo
 gC n c e:=⟨(f.gC n c e).1.imp λ_=>c_<|sm _ (.tail _<|lookup_mem e) (f.gC _ _ e).2.1,ow _ (.tail _<|lookup_mem e) (f.gC n c e).2.1,(f.gC n c e).2.2⟩
 inj:=f.inj
 has:=f.has
 once:=f.once
 lv c m:=ex c (.tail _ m)<|f.lv c m
 md:=hm.trans f.md
theorem nB{k:Sg}{h:ao}{a:ό}(x:dm it k.s.heap h)(n:a≠it)(q:k.s.heap.get? a≠none):h.get? a=k.s.heap.get? a:=by
 induction e:k.s.heap.get? a with
 |none=>exact absurd e q
 |some o=>exact x a o n e
theorem FR.ext{k:Sg}{h:ao}{t:Nat}{env:Env}(f:FR C F pe k env)(hr:HR C k)(no:it∉fY pe)(nz: ¬k.z it)(x:dm it k.s.heap h):FR C F pe (k.up k.H h t) env:=
 have sm (a:ό) (m:a∈fY pe) (q:k.s.heap.get? a≠none):h.get? a=k.s.heap.get? a:=nB x (λz=>no<|z▸m) q
 f.keep (VR.mono (k:=k.up k.H h t) (ϓ _) (λ_ q=>q)<|r8 hr nz x) (λa m o=>sm a m o.1) (λa m q=>(sm a m q)▸q) (λa m o=>⟨(sm a m o.1)▸o.1,o.2,o.3⟩) rfl
inductive FJ{R:Type}(C:Ctx)(F:Fn)(pe:Ο)(t:E)(x1:FS)(K:KS R)(r:R)(g:Sg)(it:ό)(kp:Option (Nat×PO)):Nat->Χ->Prop
 |mk {l:List D} {k:Sg} {env1:Env}:forL kp t (λenv H K=>x1 env H K) K l env1 k.H=some r->FR C F pe k env1->HR C k->Le (fY pe) g k->Own k it->lK k it kp l->FJ C F pe t x1 K r g it kp l.length k.s
theorem Ue(S:dU C)(hh:A.handled=none)(ht:TG F pe (fY pe) t tg)(hS:SS C A F pe fs ie)(h2:XE C A F pe x1 (execs b1 pe)):XE C A F pe (λenv H K=>fs env H<|lq t (λenv H K=>x1 env H K) env K) (exec (.For tg ie b1 [] pos) pe) where
 ok e o:=hS.ok e λl kp H e=>xo h2 o _ _ _<|lu e
 w {R r K env g Q} e o hr0 f0 q:=by
  refine wpAny_For (hS.w e (λl kp H e=>xo h2 o _ _ _<|lu e) hr0 f0 λk it l kp L hr ow n0 I e=>?_) hS.fs
  have no:it∉fY pe:=λm=>(Θ.mp m).elim (λh=>f0.lo.1<|h▸n0) λh=>f0.lv _ h n0
  refine codeAny_forLoop_any (FJ C F pe t x1 K r g it kp) (λm s' hJ=>?_) l.length<|.mk (lu e) (f0.le L) hr L.lift ow I
  clear e I L hr ow
  induction hJ with
  | @mk l k env1 e f hr L ow I=>
   induction l with
   |nil=>
    refine wk<|xG hh I rfl (eG e).1 hr λh x=>?_
    exact wk<|kq<|q (k.up k.H h k.s.toks) _ _ _ (oJ L n0 hr0 x) (oH hr ow.2 ow.3 x) (f.ext hr no ow.3 x) .nx (eG e).2
   |cons x l _=>
    induction(r_ e).2 with
    |mk ea hb a=>
     refine wk<|sC I rfl (r_ e).1 hr ow λk1 v M hr1 hk1 I1 X=>wk<|Js ht I1 ?_
     refine wk<|PA S hh ht ea hr1 (f.keep M.v (λa m o=>o.same M λz=>no<|υ.mp z▸m) (λa m q=>M.ex a q) (λa m o=>o.le M) M.md) X λk2 N hr2 f2 hk2=>?_
     have ow1:=ow.le M
     have I2:=I1.le ow1 N no
     refine wk<|h2.w ((congrArg (λH=>x1 _ H PG)<|hk2.trans hk1).trans hb) (λfl' env' H' e'=>J0 (EI a e') (xo h2 o _ _ _) o) hr2 f2 λk3 fl3 env3 fw P hr3 f3 W e3=>?_
     have w:=TQ W<|EI a e3
     clear W
     have L3:=((L.drop M λa z=>.inr<|υ.mp z▸n0).trans N).trans P
     induction w with
     |nx e=>exact⟨l.length,ϝ _,.mk e f3 hr3 L3 ((ow1.le N).le P)<|I2.le (ow1.le N) P no⟩
     |ct e=>exact⟨l.length,ϝ _,.mk e f3 hr3 L3 ((ow1.le N).le P)<|I2.le (ow1.le N) P no⟩
     |br e=>exact q k3 _ _ _ L3 hr3 f3 .nx e
     |rt V e=>exact q k3 _ _ _ L3 hr3 f3 (.rt V) e
end
section
variable{C:Ctx}{A:Ϡ}{F:Fn}{pe:Ο}{pos:gB}
theorem Qj{po:PO}(ho: ∀(g:Sg)(h:ao)(t:Nat),h=g.s.heap.push {cls:=.type "dict",data:=.dict #[]}->OR C (g.new g.s.heap.objs.size (g.H.new po) h t) g.s.heap.objs.size po):ST C A F pe (λenv H K=>K (.obj H.c.length) (H.new po)) (.Dict [] [] pos):=SE.st ⟨λe o=>mC o e,
 λ{R r K env g Q} e o hr f q=>wpAny_Dict_empty (xV (po:=po) (h:=g.s.heap.push {cls:=.type "dict",data:=.dict #[]}) (t:=g.s.toks) q hr (Gr.push _ _) (ϱ _) (ϖ (ai rfl)) rfl (ho g _ _ rfl) e)⟩ (λ_=>rfl) ⟨λ_ _=>rfl,λ_=>rfl,λ_=>rfl,λ_ _=>rfl⟩
theorem Qk:ST C A F pe (λenv H K=>K (.obj H.c.length)<|H.new<|.di []) (.Dict [] [] pos):=Qj λg h t e=>show Us C _ _ _ from .mk (kvs:=[]) (by subst e;exact⟨_,#[],aB _ rfl,⟨rfl,rfl,rfl⟩,rfl,λ_ m=>by simp at m,.nil,.nil⟩) (ϋ _) rfl
theorem Qm:ST C A F pe (λenv H K=>K (.obj H.c.length)<|H.new<|.dt []) (.Dict [] [] pos):=Qj λg h t e=>show Ut C _ _ _ from by subst e;exact .mk (aB _ rfl) ⟨rfl,rfl,rfl⟩ rfl (ϋ _) rfl
variable{g k g0:Sg}{own:List ό}{a:ό}{po:PO}{H:Hp}{t:Nat}
theorem Pq(R:HR C g)(o:Own g a)(e:H.c=g.H.c++[po])(oo:OR C (g.new a H g.s.heap t) a po):HR C (g.new a H g.s.heap t) where
 len:=(θ.trans (congrArg (· +1) R.len)).trans ((congrArg au e).trans θ).symm
 nd:=dP.mpr ⟨R.nd,cF.mpr ⟨ϑ,dQ⟩,λb hb c hc q=>o.2<|υ.mp hc▸q▸hb⟩
 ex b q:=q.elim (λq=>R.ex b<|.inl q) λq=>(Ζ.mp q).elim (λq=>R.ex b<|.inr q) λq=>υ.mp q▸o.1
 old:=R.old
 at_ i po' b p q:=by
  rcases ir q with q|⟨hj,rfl⟩
  ·rcases ir ((congrArg (λl=>l[i]?) e).symm.trans p) with p|⟨hi,rfl⟩
   ·exact(R.at_ i po' b p q).imp_left<|OR.mono (k:=g.new a H g.s.heap t) (aH _ _) (λ_ q=>q) (λ_ _=>rfl) rfl po'
   ·exact absurd (Δ.mp q).1 (by rw[hi,R.len];exact a_ _)
  ·rcases ir ((congrArg (λl=>l[i]?) e).symm.trans p) with p|⟨hi,rfl⟩
   ·exact absurd (Δ.mp p).1 (by rw[hj,R.len];exact a_ _)
   ·exact⟨oo,.inr o.3⟩
theorem Pu(L:Le own g0 g)(n:g0.s.heap.get? a=none)(e:H.c=g.H.c++[po]):Le own g0 (g.new a H g.s.heap t):=⟨L.pre.trans (aH _ _),L.zz,L.im,L.kp,L.ex,λb m=>(Ζ.mp m).elim (L.fr b) λq=>.inr (υ.mp q▸n),L.fz,(by
 show({g.s with heap:=g.s.heap,toks:=t})={g0.s with heap:=g.s.heap,toks:=t}
 rw[L.sh]),L.md,λz n h w=>have q:=L.hf z n h w;Hl.app e n q.1 q.2⟩
theorem Jh(R:HR C g)(o:Own g a)(e:H.c=g.H.c):HR C (g.yQ a H g.s.heap t) where
 len:=R.len.trans (congrArg au e).symm
 nd:=R.nd
 ex b q:=q.elim (λq=>q.elim (λq=>R.ex b<|.inl q) λq=>q▸o.1) λq=>R.ex b<|.inr q
 old b c q:=⟨.inl (R.old b c q).1,(R.old b c q).2⟩
 at_ i po b p q:=(R.at_ i po b ((congrArg (λl=>l[i]?) e).symm.trans p) q).imp (OR.mono (g:=g) (k:=g.yQ a H g.s.heap t) (ϓ _) (λ_=>.inl) (λ_ _=>rfl) rfl po) λn=>n.imp_right λn z=>z.elim n λz=>o.2<|z▸Υ q
theorem Ji(L:Le own g0 g)(n:g0.s.heap.get? a=none)(e:H.c=g.H.c):Le own g0 (g.yQ a H g.s.heap t):=⟨L.pre,λb q=>.inl (L.zz b q),L.im,L.kp,L.ex,L.fr,λb q=>q.elim (L.fz b) λq=>.inr (.inr (q▸n)),(by
 show({g.s with heap:=g.s.heap,toks:=t})={g0.s with heap:=g.s.heap,toks:=t}
 rw[L.sh]),L.md,λz n h w=>have q:=L.hf z n h w;Hl.same e n q.1 q.2⟩
end
section
variable{C:Ctx}{A:Ϡ}{F:Fn}{pe:Ο}{f1:FE}{fl:FL}{x:Ϛ}{xs:List Ϛ}{ks:List Nat}{kx:List (Option Ϛ)}{pos:gB}{j:Nat}
class inductive KE:List Nat->List (Option Ϛ)->Prop
 |nil:KE [] []
 |cons {k kd:Nat} {p:gB} {ks:List Nat} {kx:List (Option Ϛ)}:k<c7->KE ks kx->KE (k::ks) (some (.Constant (.str<|txt k) kd p)::kx)
theorem KE.all(h:KE ks kx):kx.all (·.isSome)=true/\kx.length=ks.length/\∀j∈ks,j<c7:=by
 induction h with
 |nil=>exact⟨rfl,rfl,λ_ m=>ay m⟩
 |cons hk _ ih=>exact⟨ih.1,congrArg (· +1) ih.2.1,λj m=>(Θ.mp m).elim (λe=>e▸hk)<|ih.2.2 j⟩
inductive SP(C:Ctx)(A:Ϡ)(F:Fn)(pe:Ο)(f:FL)(ks:List Nat)(kx:List (Option Ϛ))(xs:List Ϛ)(pos:gB):Prop
 |mk (w: ∀{R:Type}{r:R}{K:KL R}{env:Env}{g:Sg}{Q:List (χ×χ)->Χ->Prop},f env g.H K=some r->eo K r->HR C g->FR C F pe g env->(∀k vs ys ps,ps.length=ks.length->Carries (strKind pw C.w) ps ((ks.map txt).zip ys)->Le [] g k->HR C k->Ϸ (VR C k) vs ys->K vs k.H=some r->Q ps k.s)->WP C A (evalPairs<|pairTrees kx xs pe pos) Q g.s)
theorem R_:SP C A F pe (λ_ H K=>K [] H) [] [] [] pos:=⟨λ{R r K env g Q} e o hr f q=>Η<|q g [] [] [] rfl trivial .refl hr rfl e⟩
theorem MA{kd:Nat}{p:gB}(h1:SE C A F pe f1 (eval x pe))(h2:SL C A F pe fl xs)(h3:SP C A F pe fl ks kx xs pos):SP C A F pe (λenv H K=>f1 env H (Ru (fl env) K)) (j::ks) (some (.Constant (.str (txt j)) kd p)::kx) (x::xs) pos:=⟨λ{R r K env g Q} e o hr f q=>
 pairTrees_cons_walk (J3 (h1.2 (g:=g.up g.H g.s.heap (g.s.toks+1)) e (λv H e=>h2.ok e λw H e=>o _ _ e) (jP hr) (f.le (iJ hr)) λk v y L hr V e=>
  h3.1 e (λw H e=>o _ _ e) hr ((f.le (iJ ‹_›)).le L) λk' vs ys ps hl hc M hr' W e=>q k' (v::vs) (y::ys) (_::ps) (congrArg (· +1) hl) ⟨vJ _ _ _ _,rfl,hc⟩ (((iJ ‹_›).trans L).trans M) hr' ⟨y,ys,rfl,M.v _ _ V,W⟩ e))⟩
theorem xT{N:Type}[DecidableEq N]: ∀(kvs acc:List (N×χ)),((acc++kvs).map (·.1)).Nodup->merged acc kvs=acc++kvs:=λkvs=>by
 induction kvs with
 |nil=>exact λacc _=>(Ν _).symm
 |cons kv kvs ih=>
  intro acc h
  have hs:stored acc kv.1 kv.2=acc++[kv]:=by
   unfold stored
   rw[if_neg]
   intro q
   refine(aW.mp q).elim λb q_=>q_.elim λm e=>?_
   rw[Ξ,dP] at h
   exact h.2.2 b.1 (List.mem_map_of_mem m) kv.1 (.head _)<|of_decide_eq_true e
  refine(congrArg (λz=>merged z kvs) hs).trans<|(ih (acc++[kv]) ?_).trans ?_
  ·rwa [Α]
  ·rw[Α];rfl
theorem Lc{g:Sg}: ∀(ks:List Nat),(∀j∈ks,j<c7)->∀(vs:List V)(ys:List χ),Ϸ (VR C g) vs ys->Ϸ (λe x=>(e.1<c7/\txt e.1=x.1)/\VR C g e.2 x.2) (ks.zip vs) ((ks.map txt).zip ys):=λks=>by
 induction ks with
 |nil=>exact λ_ _ _ _=>rfl
 |cons k ks ih=>
  intro hk vs ys V
  induction vs with
  |nil=>cases V;rfl
  |cons v vs=>
   obtain⟨y,ys,rfl,V1,V2⟩:=V
   exact⟨_,_,rfl,⟨⟨hk _<|.head _,rfl⟩,V1⟩,ih (λj m=>hk j<|.tail _ m) vs ys V2⟩
theorem Mr: ∀(l:List ak)(ys:List χ),l.Nodup->((l.zip ys).map (·.1)).Nodup:=λl=>by
 induction l with
 |nil=>exact λ_ _=>.nil
 |cons a l ih=>
  intro ys h
  have h:=cF.mp h
  induction ys with
  |nil=>exact .nil
  |cons y ys=>exact cF.mpr ⟨λm=>by
   refine(Ϗ.mp m).elim λp q_=>q_.elim λhp e=>?_
   exact h.1 ((show p.1=a from e)▸(EY hp).1),ih ys h.2⟩
theorem Iu{α β:Type}(l:List α)(m:List β):(l.zip m).length<=l.length:=by rw[List.length_zip];exact Nat.min_le_left _ _
theorem Ql(h:SL C A F pe fl xs)(hp:SP C A F pe fl ks kx xs pos)(hk:KE ks kx)(hl:kx.length=xs.length)(h0:ks.length≠0)(hz:ks.length<=15)(nd:(ks.map txt).Nodup):ST C A F pe (λenv H K=>fl env H (C1 1 ks K)) (.Dict kx xs pos):=SE.st ⟨λe o=>h.ok e λw H e=>mC o e,
 λ{R r K env g Q} e o hr f q=>by
  refine hk.all.elim λk1 q_=>q_.elim λk2 k3=>?_
  have L0:Le [] g (g.up g.H (g.s.heap.push {cls:=.type "dict",data:=.dict #[]}) g.s.toks):=gh hr (Gr.push _ _) rfl
  have hr0:HR C (g.up g.H (g.s.heap.push {cls:=.type "dict",data:=.dict #[]}) g.s.toks):=lF hr (Gr.push _ _) rfl
  have o0:Own (g.up g.H (g.s.heap.push {cls:=.type "dict",data:=.dict #[]}) g.s.toks) g.s.heap.objs.size:=⟨ϖ<|ai rfl,λm=>hr.ex _ (.inr m)<|ϱ _,λm=>hr.ex _ (.inl m)<|ϱ _⟩
  refine wpAny_Dict_walk (knd:=strKind pw C.w) k1 hl (λz=>h0 (by rw[<-k2,z];rfl)) (k2▸hz)<|hp.1 (g:=g.up g.H (g.s.heap.push {cls:=.type "dict",data:=.dict #[]}) g.s.toks) e (λw H e=>mC o e) hr0 (f.le<|gh hr (Gr.push _ _) rfl) λk vs ys ps p1 p2 L hr V e=>?_
  refine⟨_,p2,⟨_,#[],0,L.kp _ _ (ai rfl) o0.2 ϑ,⟨rfl,rfl,rfl⟩,rfl,λ_ m=>by simp at m,.nil,.nil⟩,λh' hd sb=>?_⟩
  have o1:=o0.le L
  have ne:h'.get? g.s.heap.objs.size≠none:=by
   refine hd.elim λo q_=>q_.elim λ_ q_=>q_.elim λ_ q_=>q_.elim λe _=>?_
   exact ϖ e
  have L2:Le [g.s.heap.objs.size] k (k.up k.H h'<|k.s.toks+ps.length):=jh o1 sb ne (.head _) rfl
  rw[xT ((ks.map txt).zip ys) []<|Mr _ ys nd] at hd
  refine q _ (.obj k.H.c.length) _ (Pu (H:=k.H.new (.ds (ks.zip vs))) ((L0.trans L).drop L2 λa m=>.inr (υ.mp m▸ϱ _):Le [] g (k.up k.H h' (k.s.toks+ps.length))) (ϱ _) rfl) (Pq (pA hr o1 sb ne rfl) (o1.le L2) rfl (.mk hd (η (Iu _ _) (η hz (by decide))) (Lc ks k3 vs ys (V.mono (VR.mono (g:=k) (k:=(k.up k.H h' (k.s.toks+ps.length)).new _ (k.H.new (.ds (ks.zip vs))) _ _) (aH _ _) L2.zz L2.im))))) (.mk (sR hr.len)) e⟩ (λ_=>rfl) ⟨λ_ _=>rfl,λ_=>rfl,λ_=>rfl,λ_ _=>rfl⟩
variable{sc:pT}{cl:List (ak×ό)}{L:ό}{g:Sg}{env:Env}{tgs:List ak}{n:ak}{k:lM}
theorem gz{β:Type}{n:ak}{k:β}{l:List (ak×β)}(e:l.lookup n=some k):(n,k)∈l:=by
 induction l with
 |nil=>exact Ϝ e
 |cons x l ih=>
  rw[aX] at e
  split at e
  ·rename_i q
   cases eq_of_beq q
   cases ξ e
   exact .head _
  ·exact .tail _<|ih e
theorem Dh{β:Type}{n:ak}{k:β}{l:List (ak×β)}(m:(n,k)∈l): ∃j,l.lookup n=some j:=by
 induction e:l.lookup n with
 |some j=>exact⟨j,rfl⟩
 |none=>exact absurd (List.lookup_eq_none_iff.mp e _ m) (by simp)
inductive XY(sc:pT)(pe:Ο)(cl:List (ak×ό)):Prop
 |mk (eq:closureFor sc pe=pure cl) (mem: ∀x∈cl,pe.cells.lookup x.1=some x.2) (has: ∀x∈sc.names,x.2= .free->∃c,(x.1,c)∈cl)
theorem KY(l:List (ak×lM)): ∀acc:List (ak×ό),(∀x∈l,x.2= .free->∃c,pe.cells.lookup x.1=some c)->(∀x∈acc,pe.cells.lookup x.1=some x.2)->
 ∃cl,(forIn l acc (λ(x:ak×lM) (cs:List (ak×ό))=>(do
  if x.2== .free then do let a <-cellOf pe x.1;pure (gH ((x.1,a)::cs)) else pure (gH cs):Kh _)))=pure cl/\(∀x∈cl,pe.cells.lookup x.1=some x.2)/\(∀x∈acc,x∈cl)/\(∀x∈l,x.2= .free->∃c,(x.1,c)∈cl):=by
 induction l with
 |nil=>exact λacc _ h=>⟨acc,by rw[jD],h,λ_ m=>m,λ_ m=>ay m⟩
 |cons x l ih=>
  intro acc h1 h2
  rw[EW]
  induction hx:x.2==NameKind.free with
  |true=>
   obtain⟨c,hc⟩:=h1 x (.head _)<|eq_of_beq hx
   obtain⟨cl,a,b,d,e⟩:=ih ((x.1,c)::acc) (λy m=>h1 y<|.tail _ m) λy m=>(Θ.mp m).elim (λq=>q▸hc)<|h2 y
   refine⟨cl,?_,b,λy m=>d y<|.tail _ m,λy m q=>(Θ.mp m).elim (λz=>z▸⟨c,d _<|.head _⟩) λm=>e y m q⟩
   unfold cellOf
   rw[hc]
   exact a
  |false=>
   obtain⟨cl,a,b,d,e⟩:=ih acc (λy m=>h1 y<|.tail _ m) h2
   exact⟨cl,a,b,d,λy m q=>(Θ.mp m).elim (λz=>ff<|hx.symm.trans (by rw[<-z,q];rfl)) λm=>e y m q⟩
theorem KZ(h: ∀x∈sc.names,x.2= .free->∃c,pe.cells.lookup x.1=some c): ∃cl,XY sc pe cl:=by
 refine(KY sc.names [] h λ_ m=>ay m).elim λcl q_=>q_.elim λa q_=>q_.elim λb q_=>q_.elim λ_ e=>?_
 exact⟨cl,congrArg (· >>=pure) a,b,e⟩
theorem x7(l:List (ak×lM))(n:ak):(l.map λ(n,k)=>if(k== .free&&pe.scope.kind== .function&&pe.kindOf n==some .cell) then(n,A7) else(n,k)).lookup n=(l.lookup n).map λk=>if(k== .free&&pe.scope.kind== .function&&pe.kindOf n==some .cell) then .cell else k:=by
 induction l with
 |nil=>rfl
 |cons x l ih=>
  show List.lookup n ((if(x.2== .free&&pe.scope.kind== .function&&pe.kindOf x.1==some .cell)=true then(x.1,A7) else(x.1,x.2))::_)=_
  induction h:(x.2== .free&&pe.scope.kind== .function&&pe.kindOf x.1==some .cell) with
  |true=>
   rw[if_pos rfl,aX,aX]
   cases q:n==x.1 with
   |true=>cases eq_of_beq q;exact congrArg some (if_pos h).symm
   |false=>exact ih
  |false=>
   rw[if_neg<|λz=>ff z,aX,aX]
   cases q:n==x.1 with
   |true=>cases eq_of_beq q;exact congrArg some (if_neg<|h▸λz=>ff z).symm
   |false=>exact ih
noncomputable def Fn.inner(F:Fn)(sc:pT)(tgs:List ak):Fn:=⟨F.n+tgs.length,λi=>if i<F.n then(F.ns i).filter λn=>sc.names.lookup n==some .free else tgs[i-F.n]?,λn=>(sc.names.lookup n).map λk=>if(k== .free&&F.kd n==some .cell) then .cell else k,F.m⟩
inductive zT(F:Fn)(sc:pT)(tgs:List ak):Prop
 |mk (kind:sc.kind= .function) (loc: ∀n∈tgs,sc.names.lookup n=some .local) (nd:tgs.Nodup) (nocell: ∀x∈sc.names,x.2≠.cell) (nloc: ∀x∈sc.names,x.2= .local->sc.names.lookup x.1=some .local) (free: ∀x∈sc.names,x.2= .free->F.kd x.1=some .cell/\∃i,F.ns i=some x.1)
abbrev Kd(F:Fn)(pe:Ο):Prop:=∀n,pe.kindOf n=F.kd n
theorem Ce(kf:pe.scope.kind= .function)(k:Kd F pe):Kd (F.inner sc tgs) (compEnvC sc cl L pe):=λn=>by
 refine(x7 sc.names n).trans ?_
 rw[kf,k n,show(tK==tK)=true from rfl]
 congr 1
 funext j
 rw[ri]
theorem k8{i:Nat}(e:(F.inner sc tgs).ns i=some n):(i<F.n/\F.ns i=some n/\sc.names.lookup n=some .free)∨F.n<=i/\tgs[i-F.n]? =some n:=by
 by_cases h:i<F.n
 ·have e:=(if_pos h).symm.trans e
  refine(Option.filter_eq_some_iff.mp e).elim λa b=>?_
  exact .inl ⟨h,a,eq_of_beq b⟩
 ·exact .inr ⟨bW h,(if_neg h).symm.trans e⟩
theorem yC(co:zT F sc tgs)(f:FR C F pe g env)(k:Kd F pe)(h:sc.names.lookup n=some .free):pe.kindOf n=some .cell/\∃c,pe.cells.lookup n=some c:=by
 refine(co.6 _ (gz h) rfl).elim λa q_=>q_.elim λi b=>?_
 have a:=(k n).trans a
 exact⟨a,f.has i n b (by rw[a];rfl)⟩
theorem Qa(co:zT F sc tgs)(f:FR C F pe g env)(k:Kd F pe)(c:XY sc pe cl){m:ak->Option χ}(hn:g.s.heap.Ns L m)(oL:Own g L)(nL: ∀n a,pe.cells.lookup n=some a->a≠L):FR C (F.inner sc tgs) (compEnvC sc cl L pe) g (env++Ω tgs.length none):=
 have kd:=Ce (tgs:=tgs) f.kind k
 have up {n:ak} {a:ό} (e:cl.lookup n=some a):pe.cells.lookup n=some a:=c.2 _<|gz e
 have fr {n:ak} (h:sc.names.lookup n=some .free):(compEnvC sc cl L pe).kindOf n=some .cell/\∃a,cl.lookup n=some a/\pe.cells.lookup n=some a:=by
  refine(yC co f k h).elim λa _=>?_
  obtain⟨b,hb⟩:=c.3 _ (gz h) rfl
  obtain⟨b,hb⟩:=Dh hb
  refine⟨(kd n).trans ?_,b,hb,up hb⟩
  show(sc.names.lookup n).map _=_
  rw[h]
  exact congrArg some<|if_pos (by rw[<-k n,a];rfl)
 have nl {n:ak} (m:n∈tgs):cf ((compEnvC sc cl L pe).kindOf n)=false:=by
  rw[kd n]
  show cf ((sc.names.lookup n).map _)=_
  rw[co.2 n m];rfl
 {kind:=co.1,glob:=f.glob,blt:=f.blt
  len:=by rw[θ,vB,f.len];rfl
  val:=⟨m,hn,λi n v a b=>by
   have hi:i<env.length:=by
    rcases mL i env.length with q|q
    ·exact q
    ·rw[aA q] at b
     exact Ϝ (zV.mp<|Υ b).2.symm
   rw[Ϥ hi] at b
   rcases k8 a with⟨_,a,q⟩|⟨q,_⟩
   ·refine f.val.elim λm' q_=>q_.elim λ_ f'=>?_
    refine(f' i n v a b).imp λx h=>⟨?_,h.2⟩
    refine(fr q).elim λe q_=>q_.elim λc' q_=>q_.elim λe1 e2=>?_
    induction h.1 with
    |loc z _=>exact nomatch (yC co f k q).1.symm.trans z
    |gC _ z h=>exact .gC (by rw[e];rfl) e1<|ξ (z.symm.trans e2)▸h
   ·exact absurd (f.len▸hi) (ϯ.mpr q)⟩
  lo:=oL
  gC:=λn a e=>⟨(f.gC n a<|up e).1,(f.gC n a<|up e).2.1,nL n a<|up e⟩
  inj:=λn n' a e e'=>f.inj n n' a (up e)<|up e'
  has:=λi n e q=>by
   rcases k8 e with⟨_,_,h⟩|⟨_,h⟩
   ·exact(fr h).2.imp λ_ h=>h.1
   ·exact ff<|(nl<|Υ h).symm.trans q
  once:=λi j n a b=>by
   rcases k8 a with⟨_,a,h⟩|⟨hi,a⟩
   ·rcases k8 b with⟨_,b,_⟩|⟨_,b⟩
    ·exact f.once i j n a b
    ·exact nomatch h.symm.trans<|co.2 n<|Υ b
   ·rcases k8 b with⟨_,_,h⟩|⟨hj,b⟩
    ·exact nomatch h.symm.trans<|co.2 n<|Υ a
    ·have:=(dO (Δ.mp a).1 co.3).mp<|a.trans b.symm
     omega
  lv:=λa m=>by
   refine(Ϗ.mp m).elim λx q_=>q_.elim λhx e=>?_
   exact e▸(f.gC _ _<|c.2 x hx).2.1.1
  md:=f.md}
noncomputable abbrev FC:Type 1:={R:Type}->Env->Hp->(Bool->Hp->Option R)->Option R
end
inductive CE(C:Ctx)(A:Ϡ)(F:Fn)(pe:Ο)(f:FC)(xs:List Ϛ):Prop
 |mk (ok: ∀{R:Type}{r:R}{K:Bool->Hp->Option R}{env:Env}{H:Hp},f env H K=some r->(∀b H,K b H=some r->H.ok)->H.ok) (w: ∀{R:Type}{r:R}{K:Bool->Hp->Option R}{env:Env}{g:Sg}{Q:Bool->Χ->Prop},f env g.H K=some r->(∀b H,K b H=some r->H.ok)->HR C g->FR C F pe g env->(∀k b,Le [] g k->HR C k->K b k.H=some r->Q b k.s)->WP C A (forIn xs true λc r=>if r=true then do let ok <-isTrue c pe (eval c pe);pure (gH ok) else pure (gH r)) Q g.s)
section
variable{C:Ctx}{A:Ϡ}{F:Fn}{pe:Ο}{f1:FE}{e1:Ϛ}{R:Type}{r:R}{K:Bool->Hp->Option R}{v:V}{H:Hp}
theorem PX:CE C A F pe (λ_ H K=>K true H) []:=⟨λe o=>o _ _ e,λ{R r K env g Q} e o hr f q=>by
 rw[jD]
 exact Η (q g _ .refl hr e)⟩
theorem s7(e:OJ K v H=some r): ∃b,truth v=some b/\K b H=some r:=by
 unfold OJ at e
 induction h:truth v with
 |none=>rw[h] at e;exact Ϝ e
 |some b=>rw[h] at e;exact⟨b,rfl,e⟩
theorem PY(h:ST C A F pe f1 e1):CE C A F pe (λenv H K=>f1 env H (OJ K)) [e1]:=⟨λe o=>h.v.1 e λv H e=>(s7 e).elim λ_ q=>o _ _ q.2,λ{R r K env g Q} e o hr f q=>by
 rw[EW]
 refine ο ?_
 rw[if_pos rfl]
 refine ο<|h.t e (λv H e=>(s7 e).elim λ_ q=>o _ _ q.2) (λv H e=>(s7 e).elim λ_ q=>q.1▸rfl) hr f λk v b L hr t e=>Η ?_
 show WP C A (forIn [] b _) _ _
 rw[jD]
 obtain⟨b',t',e⟩:=s7 e
 cases ξ (t.symm.trans t')
 exact Η (q k b L hr e)⟩
noncomputable def To(n m b:Nat):E:=match m with
 |0=>.n 5 b 0 [] .nil .nil .nil
 |_=>.n 15 0 0 [] (Mu b n) .nil .nil
end
section
variable{C:Ctx}{A:Ϡ}{F F':Fn}{pe pe':Ο}{f1:FE}{fc:FC}{el tg:Ϛ}{ifs:List Ϛ}{R:Type}{r:R}{kp:Option (Nat×PO)}{l:List D}{env:Env}{H:Hp}{n m:Nat}{K0:List D->Hp->Option R}{g k:Sg}{it D0 L:ό}{done:List D}{x:D}
noncomputable abbrev P_(f1:FE)(fc:FC)(n m:Nat)(env:Env)(x:D)(h:Hp):Option (Option D×Hp):=ob (rY n m env x) λe=>fc e h<|qt<|f1 e
theorem B_(h1:SE C A F pe f1 (eval el pe)){env:Env}{b:Bool}{p:Option D×Hp}(e:qt (f1 env) b H=some p)(o:p.2.ok):H.ok:=by
 induction b with
 |false=>exact(congrArg (λp=>p.2.ok)<|ξ e).mpr o
 |true=>
  refine h1.1 e λv H e=>?_
  induction v with
  |d d=>exact(congrArg (λp=>p.2.ok)<|ξ e).mpr o
  |_=>exact Ϝ e
inductive Cv(kp:Option (Nat×PO))(f:D->Hp->Option (Option D×Hp))(K0:List D->Hp->Option R)(r:R)(x:D)(l:List D)(H:Hp):Prop
 |mk {o:Option D} {h:Hp}:f x H=some (o,h)->gw kp f (λq h=>K0 (jb o q) h) l h=some r->Cv kp f K0 r x l H
theorem K6{f:D->Hp->Option (Option D×Hp)}{z:Option (Option D×Hp)}(e:(match z with
 |some (o,h)=>gw kp f (λq h=>K0 (jb o q) h) l h
 |none=>none)=some r) (h:f x H=z):Cv kp f K0 r x l H:=by
 induction z with
 |none=>exact Ϝ e
 |some p=>exact .mk h e
theorem w_{f:D->Hp->Option (Option D×Hp)}(e:gw kp f K0 (x::l) H=some r):kL kp H/\Cv kp f K0 r x l H:=(eG e).imp_right λe=>K6 e rfl
inductive OW(K0:List D->Hp->Option R)(r:R)(H:Hp):Prop
 |mk {q:List D} {h:Hp}:K0 q h=some r->(h.ok->H.ok)->OW K0 r H
theorem Ca(h1:SE C A F pe f1 (eval el pe))(h2:CE C A F pe fc ifs)(l:List D): ∀(K0:List D->Hp->Option R)(H:Hp),gw kp (P_ f1 fc n m env) K0 l H=some r->OW K0 r H:=by
 induction l with
 |nil=>exact λK0 H e=>.mk (eG e).2 id
 |cons x l ih=>exact λK0 H e=>(w_ e).2.casesOn λhb e=>(ih _ _ e).casesOn λa b=>.mk a λo'=>(aN hb).elim λenv1 e1=>h2.1 e1.2 λb' H' e'=>B_ h1 e'<|b o'
theorem Xu{P:Option D->Hp->Prop}{o o':Option D}{h h':Hp}(e:some (o,h)=some (o',h'))(p:P o' h'):P o h:=by cases e;exact p
inductive CJ(C:Ctx)(g:Sg)(D0 L:ό)(k:Sg)(done:List D):Prop
 |mk (hr:HR C k) (le:Le [] g k) (oD:Own k D0) (dD: ∃its j,k.s.heap.get? D0=some (gn false its j)/\bg k.z k.s.heap done its.toList) (oL:Own k L) (nL: ∃m,k.s.heap.Ns L m)
theorem CJ.go{k':Sg}(j:CJ C g D0 L k done)(hr:HR C k')(le:Le [] g k')(zz: ∀a,k.z a->k'.z a)(im: ∀a,k.z a->k'.s.heap.get? a=k.s.heap.get? a)(eD:k'.s.heap.get? D0=k.s.heap.get? D0)(oD:Own k' D0)(nL: ∃m,k'.s.heap.Ns L m)(oL:Own k' L):CJ C g D0 L k' done:=⟨hr,le,oD,j.4.imp λits q=>q.imp λi q=>⟨eD.trans q.1,bg.mono zz im _ _ q.2⟩,oL,nL⟩
theorem zj{own:List ό}(o:Own g L)(M:Le own g k)(n:L∉own)(q: ∃m,g.s.heap.Ns L m): ∃m,k.s.heap.Ns L m:=q.imp λm q=>jw (o.same M n) q
theorem CJ.mv{k':Sg}{own:List ό}(j:CJ C g D0 L k done)(hr:HR C k')(M:Le own k k')(nD:D0∉own)(nL: ∃m,k'.s.heap.Ns L m)(nn: ∀a∈own,g.s.heap.get? a=none):CJ C g D0 L k' done:=
 j.go hr (j.2.drop M λa m=>.inr<|nn a m) M.zz M.im (j.3.same M nD) (j.3.le M) nL (j.5.le M)
theorem OL{a b:ό}(h:a≠b):a∉[b]:=λm=>h<|υ.mp m
theorem WO{a:ό}(h:g.s.heap.get? a=none): ∀b∈[a],g.s.heap.get? b=none:=λb m=>υ.mp m▸h
theorem P9{v:V}{o:Option D}{h:Hp}(e:(match v with| .d d=>some (some d,H)|_=>none:Option (Option D×Hp))=some (o,h))(oh:h.ok):H.ok:=by
 induction v with
 |d d=>exact Xu (P:=λ_ h=>h.ok) e oh
 |_=>exact Ϝ e
theorem K3{k4:Sg}{d:D}{z:χ}{Q:χ->Χ->Prop}(n2:D0≠L)(hD0:g.s.heap.get? D0=none)(j:CJ C g D0 L k4 done)(U:VR C k4 (.d d) z)(zl:done.length<=big)(oi:Own k4 it)(I:lK k4 it kp l)(n3:D0≠it)(q: ∀k5:Sg,CJ C g D0 L k5 (done++[d])->Own k5 it->lK k5 it kp l->k5.H=k4.H->Q .none k5.s):WP C A (call (.builtin "list.append") [.ref D0,z]) Q k4.s:=by
 refine j.4.elim λits h=>h.elim λi h=>?_
 have u:=Uv h.1 λxs=>xs.push z
 have s:=aK k4.s.heap D0<|bO λxs=>xs.push z
 have M:Le [D0] k4 (k4.up k4.H (k4.s.heap.update D0<|bO λxs=>xs.push z) k4.s.toks):=jh j.3 s (ϖ u) (.head _) rfl
 exact gY F.slot_list_append ⟨_,h.1,rfl⟩ F.entry_list_append (F.args_list_append_2 _ _) (lN D0 its i z<|qW (h.2.len.trans Ϙ) zl) ⟨h.1,q (k4.up k4.H _ k4.s.toks) ⟨pA j.1 j.3 s (ϖ u) rfl,j.2.drop M λa m=>.inr<|WO hD0 a m,j.3.le M,⟨_,_,u,by rw[dM];exact bg.mono M.zz M.im _ _<|h.2.app<|.mk U rfl⟩,j.5.le M,zj j.5 M (OL n2.symm) j.6⟩ (oi.le M) (I.le oi M<|OL n3.symm) rfl⟩
inductive CI(C:Ctx)(g:Sg)(D0 L it:ό)(kp:Option (Nat×PO))(f:D->Hp->Option (Option D×Hp))(K0:List D->Hp->Option R)(r:R):Nat->Χ->Prop
 |mk {l:List D} {k:Sg} (done:List D):gw kp f (λq h=>K0 (done++q) h) l k.H=some r->CJ C g D0 L k done->Own k it->lK k it kp l->CI C g D0 L it kp f K0 r l.length k.s
theorem Gh{R':Result->Χ->Prop}{sc:pT}{pos:gB}{iter:Ϛ}(n1:L≠it)(n2:D0≠L)(n3:D0≠it)(S:dU C)(hh:A.handled=none)(ht:TG F' pe' [L] (To n m env.length) tg)(h1:SE C A F' pe' f1 (eval el pe'))(h2:CE C A F' pe' fc ifs)(hg:HR C g)(hL:pe'.locals=L)
 (fr: ∀k,Le [] g k->Own k L->(∃m,k.s.heap.Ns L m)->FR C F' pe' k (env++Ω n none)) (hi0:g.s.heap.get? it=none) (hD0:g.s.heap.get? D0=none) (hL0:g.s.heap.get? L=none) (hz: ∀q h,K0 q h=some r->q.length<=big/\h.ok)
 (e:gw kp (P_ f1 fc n m env) K0 l k.H=some r) (j:CJ C g D0 L k []) (oi:Own k it) (I:lK k it kp l)
 (q: ∀k tot,K0 tot k.H=some r->CJ C g D0 L k tot->R' (.ok .next) k.s):codeAny (model pw C.w) A (.compLoop (.ListComp el [⟨tg,iter,ifs,0⟩] sc pos) 0 (.ref it) (.ref D0) pe') R' k.s:=by
 refine codeAny_loop rfl (CI C g D0 L it kp (P_ f1 fc n m env) K0 r) (λi s' hJ=>?_) l.length<|.mk [] e j oi I
 clear j oi I e
 induction hJ with
 | @mk l k done e j oi I=>
  show wpAny _ A ((compTurn (.ListComp el [⟨tg,iter,ifs,0⟩] sc pos) 0 (.ref it) (.ref D0) pe').onRaise (λx=>do noteFrame x pe';theTreesLotGoes x)) _ _ _
  refine wpAny_noted ?_
  rw[compTurn_list]
  refine ο<|aE<|ο ?_
  induction l with
  |nil=>
   refine wk<|xG hh I rfl (eG e).1 j.1 λh x=>Η ?_
   have ow {a:ό} (n:a≠it) (o:Own k a):Own (k.up k.H h k.s.toks) a:=⟨(nB x n o.1)▸o.1,o.2,o.3⟩
   exact q (k.up k.H h k.s.toks) done ((congrArg (λl=>K0 l k.H)<|Ν done).symm.trans (eG e).2)<|j.go (oH j.1 oi.2 oi.3 x) (oJ j.2 hi0 hg x) (λ_ q=>q) (r8 j.1 oi.3 x) (nB x n3 j.3.1) (ow n3 j.3) (j.6.imp λm q=>jw (nB x n1 j.5.1) q)<|ow n1 j.5
  |cons x l _=>
   have St:=(w_ e).1
   have cv:=(w_ e).2
   clear e
   induction cv with
   | @mk o h' hb e=>
    induction Ca h1 h2 l _ _ e with
    | @mk tot hf eK oh=>
     have zl:=hz _ _ eK
     have oh:=oh zl.2
     refine(aN hb).elim λenv2 eab=>?_
     refine wk<|sC I rfl St j.1 oi λk1 v M hr1 hk1 I1 X=>ο<|wk<|Js ht I1 ?_
     have j1:=j.mv hr1 M (OL n3) (zj j.5 M (OL n1) j.6)<|WO hi0
     refine ο<|wk<|PA S hh ht eab.1 hr1 (fr k1 j1.2 j1.5 j1.6) X λk2 N hr2 f2 hk2=>?_
     have j2:=j1.mv hr2 N (OL n2) (f2.val.imp λm q=>hL▸q.1)<|WO hL0
     have o2:=(oi.le M).le N
     refine ο<|wk<|h2.2 ((congrArg (λH=>fc env2 H<|qt<|f1 env2)<|hk2.trans hk1).trans eab.2) (λb H e=>B_ h1 e oh) hr2 f2 λk3 b P hr3 e3=>?_
     have j3:=j2.mv hr3 P ϑ (zj j2.5 P ϑ j2.6) λ_ m=>ay m
     have o3:=o2.le P
     have I3:=(I1.le (oi.le M) N<|OL n1.symm).le o2 P ϑ
     induction b with
     |false=>exact Η ⟨rfl,l.length,ϝ _,.mk done (Xu (P:=λo h=>gw kp (P_ f1 fc n m env) (λq h=>K0 (done++jb o q) h) l h=some r) e3 e) j3 o3 I3⟩
     |true=>
      refine ο<|ο<|wk<|h1.2 e3 (λv H e=>P9 e oh) hr3 (f2.le P) λk4 u z P2 hr4 U e4=>?_
      induction u with
      |d d=>
       have c:=Xu (P:=λo h=>(done++jb o tot).length<=big/\gw kp (P_ f1 fc n m env) (λq h=>K0 (done++jb o q) h) l h=some r) e4 ⟨zl.1,e⟩
       refine ο<|wk<|K3 n2 hD0 (j3.mv hr4 P2 ϑ (zj j3.5 P2 ϑ j3.6) λ_ m=>ay m) U (η (by rw[θ];exact Ρ _ _) c.1) (o3.le P2) (I3.le o3 P2 ϑ) n3 λk5 j5 o5 I5 hk5=>?_
       refine Η<|Η ⟨rfl,l.length,ϝ _,.mk (done++[d]) ?_ j5 o5 I5⟩
       rw[show(λq h=>K0 ((done++[d])++q) h)=λq h=>K0 (done++jb (some d) q) h from funext λq=>by rw[Α];rfl,hk5];exact c.2
      |_=>exact Ϝ e4
end
section
variable{C:Ctx}{A:Ϡ}{F:Fn}{pe:Ο}{f1:FE}{fc:FC}{fs:FI}{el tg iter:Ϛ}{ifs:List Ϛ}{g k:Sg}{sc:pT}{tgs:List ak}{m:Nat}{pos:gB}
theorem CV{A:Ϡ}{it:ό}{kp:Option (Nat×PO)}{l:List D}{Q:χ->Χ->Prop}{E:χ->Χ->Prop}(I:lK g it kp l)(q:Q (.ref it) g.s):wpAny (model pw C.w) A (pyIter<|.ref it) Q E g.s:=by
 induction I with
 |tu i _ _ _ x=>exact wpAny_pyIter_tupleiter x q
 |ls i _ _ _ x=>exact EN x q
 |rn x=>exact wpAny_pyIter_rangeiter x q
 |li i _ x=>exact EN x q
 |di i _ x=>exact wpAny_pyIter_keyiter x q
structure U5(h h':ao):Prop where
 gr:Gr h h'
 d:h'.get? h.objs.size=some (gn false #[] 0)
 n: ∃m,h'.Ns (h.objs.size+1) m
theorem WJ{h h':ao}{o:e9}(n: ∃m,h'.Ns (h.objs.size+1) m)(sb:b8 (h.objs.size+1) ((h.push<|gn false #[] 0).push o) h'):U5 h h' where
 gr b x e:=(sb.2 b<|iS<|mO<|cM e).trans<|af _<|af _ e
 d:=(sb.2 _<|iS<|ϝ _).trans<|af _<|ai rfl
 n:=n
theorem jz{h:ao}{a:ό}(e:h.objs.size<=a):h.get? a=none:=by
 induction q:h.get? a with
 |none=>rfl
 |some o=>exact absurd (cM q)<|ϯ.mpr e
theorem le_none{own:List ό}(L:Le own g k){a:ό}(n:k.s.heap.get? a=none):g.s.heap.get? a=none:=Ϻ λx=>L.ex a x n
variable{use:Option (χ->Kh Unit)}
theorem Cf(h1:SE C A F pe f1 (eval el pe))(h2:CE C A F pe fc ifs){R:Type}{r:R}{K:KV R}{env:Env}{l:List D}{kp:Option (Nat×PO)}{H:Hp}{n:Nat}(e:CZ (λe h K=>f1 e h K) (λe h K=>fc e h K) n m env K l kp H=some r)(o:eo K r):H.ok:=by
 exact(Ca h1 h2 l _ _<|lu e).casesOn λe1 e2=>e2 (cG e1 o).1
theorem yz{pos':gB}{R:Type}{r:R}{K:KV R}{env:Env}{Q:χ->Χ->Prop}(S:dU C)(hh:A.handled=none)(kd:Kd F pe)(co:zT F sc tgs)(hS:SS C A F pe fs iter)(ht: ∀L cl,TG (F.inner sc tgs) (compEnvC sc cl L pe) [L] (To tgs.length m F.n) tg)
 (h1: ∀L cl,SE C A (F.inner sc tgs) (compEnvC sc cl L pe) f1<|eval el<|compEnvC sc cl L pe) (h2: ∀L cl,CE C A (F.inner sc tgs) (compEnvC sc cl L pe) fc ifs)
 (e:fs env g.H (CZ (λe h K=>f1 e h K) (λe h K=>fc e h K) tgs.length m env K)=some r) (o:eo K r) (hr:HR C g) (f:FR C F pe g env)
 (fin: ∀k tot D0 L,newL 0 k.H tot K=some r->D0≠L->g.s.heap.get? D0=none->g.s.heap.get? L=none->CJ C g D0 L k tot->compPost (model pw C.w) A (λ_ _=>False) use Q (.ref D0) L (.ok .next) k.s):
 WP C A (comprehension (.ListComp el [⟨tg,iter,ifs,0⟩] sc pos) sc pe pos' (newList []) false (eval iter pe) use) Q g.s:=by
 refine(KZ λx m e=>(co.6 x m e).2.elim λi h=>f.has i _ h (by rw[kd,(co.6 x m e).1];rfl)).elim λcl c=>?_
 refine wpAny_comprehension_free rfl hS.fs c.1 co.1 co.5<|hS.w e (λl kp H e=>Cf (h1 0 []) (h2 0 []) e o) hr f λk it l kp L hr1 oi n0 I e=>?_
 refine wpAny_newList<|wpAny_newFunctionEnv co.4 (λ_ m=>ay m) (λh' hn sb=>?_) co.1
 have y:=WJ ⟨_,by rw[<-dN];exact hn⟩ (by rw[<-dN];exact sb)
 have L1:Le [] k (k.up k.H h' k.s.toks):=gh hr1 y.gr rfl
 have D0:=jz (h:=k.s.heap)<|ώ _
 have K0:=jz (h:=k.s.heap)<|ϰ _
 have ow {a:ό} (n:k.s.heap.get? a=none) x:Own (k.up k.H h' k.s.toks) a:=⟨x,λm=>hr1.ex _ (.inr m) n,λm=>hr1.ex _ (.inl m) n⟩
 have lt:it<k.s.heap.objs.size:=by
  induction e:k.s.heap.get? it with
  |none=>exact absurd e oi.1
  |some o=>exact cM e
 have e:=lu e
 have loop:codeAny (model pw C.w) A (.compLoop (.ListComp el [⟨tg,iter,ifs,0⟩] sc pos) 0 (.ref it) (.ref k.s.heap.objs.size)<|compEnvC sc cl (k.s.heap.objs.size+1) pe) (compPost (model pw C.w) A (λ_ _=>False) use Q (.ref k.s.heap.objs.size)<|k.s.heap.objs.size+1) (k.up k.H h' k.s.toks).s:=
  Gh (mQ<|mO lt) (iS<|ϝ _) (mQ lt) S hh (f.len▸ht _ _) (h1 _ cl) (h2 _ cl) hr rfl
   (λk M o n=>n.elim λ_ n=>Qa co (f.le M) kd c n o λn a q z=>(f.gC n a q).2.1.1<|z▸le_none L K0) n0 (le_none L D0) (le_none L K0) (λq h e=>⟨(cG e o).2,(cG e o).1⟩) e
   ⟨(lF hr1 y.gr rfl),L.trans L1,ow D0<|ϖ y.d,⟨_,_,y.d,rfl⟩,ow K0<|y.n.elim λ_ n=>nJ n,y.n⟩ (oi.le L1) (I.le oi L1 ϑ) λm tot e j=>fin m tot _ _ e (iS<|ϝ _) (le_none L D0) (le_none L K0) j
 rw[dN]
 exact codeAny_compStart_list loop<|CV (I.le oi L1 ϑ) loop
theorem VT(S:dU C)(hh:A.handled=none)(kd:Kd F pe)(co:zT F sc tgs)(hS:SS C A F pe fs iter)(ht: ∀L cl,TG (F.inner sc tgs) (compEnvC sc cl L pe) [L] (To tgs.length m F.n) tg)
 (h1: ∀L cl,SE C A (F.inner sc tgs) (compEnvC sc cl L pe) f1<|eval el<|compEnvC sc cl L pe) (h2: ∀L cl,CE C A (F.inner sc tgs) (compEnvC sc cl L pe) fc ifs):
 ST C A F pe (λenv H K=>fs env H<|CZ (λe h K=>f1 e h K) (λe h K=>fc e h K) tgs.length m env K) (.ListComp el [⟨tg,iter,ifs,0⟩] sc pos):=
 SE.st ⟨λe o=>hS.ok e λl kp H e=>Cf (h1 0 []) (h2 0 []) e o,λ{R r K env g Q} e o hr f q=>by
  rw[arm_eval_ListComp]
  refine yz S hh kd co hS ht h1 h2 e o hr f λm tot D0 L e nD nD0 nL0 j=>⟨j.6.choose,j.6.choose_spec,λh3 sb=>?_⟩
  have x:dm L m.s.heap h3:=λa o n e=>(sb.2 a n).trans e
  refine j.4.elim λits q_=>q_.elim λi q_=>q_.elim λil D=>?_
  have il:=(sb.2 _ nD).trans il
  exact q ((m.up m.H h3 m.s.toks).yQ D0 (m.H.ϴ (tot.length<=big)) h3 m.s.toks) (.d (.lst tot)) _ (Ji (oJ j.2 nL0 hr x) nD0 rfl) (Jh (oH j.1 j.5.2 j.5.3 x) ⟨ϖ il,j.3.2,j.3.3⟩ rfl) (.mk (.inr rfl) il (cG e o).2 (bg.mono (λ_=>.inl) (r8 j.1 j.5.3 x) _ _ D)) e⟩ (λ_=>rfl) ⟨λ_ _=>rfl,λ_=>rfl,λ_=>rfl,λ_ _=>rfl⟩
theorem N1{id:ak}{p1 p2:gB}{i:Nat}(s:Bq F pe (fY pe) i id)(S:dU C)(hh:A.handled=none)(kd:Kd F pe)(co:zT F sc tgs)(hS:SS C A F pe fs iter)(ht: ∀L cl,TG (F.inner sc tgs) (compEnvC sc cl L pe) [L] (To tgs.length m F.n) tg)
 (h1: ∀L cl,SE C A (F.inner sc tgs) (compEnvC sc cl L pe) f1<|eval el<|compEnvC sc cl L pe) (h2: ∀L cl,CE C A (F.inner sc tgs) (compEnvC sc cl L pe) fc ifs) (hs:swapsWith (.ListComp el [⟨tg,iter,ifs,0⟩] sc p1) (some<|.Name id p2) pos.line pe=pure true):
 XE C A F pe (λenv H K=>fs env H<|CZ (λe h K=>f1 e h K) (λe h K=>fc e h K) tgs.length m env<|CX (λv H K=>K .next (env.set i<|some v) H) K) (exec (.Assign [.Name id p2] (.ListComp el [⟨tg,iter,ifs,0⟩] sc p1) pos) pe):=
 ⟨λe o=>hS.ok e λl kp H e=>Cf (h1 0 []) (h2 0 []) e λv H e=>o _ _ _ e,λ{R r K env g Q} e o hr f q=>by
  rw[exec_Assign_Name_used _ _ _ _ hs]
  refine ο<|aE<|ο ?_
  refine ο<|cI (yz (Q:=λ_ s'=>Q .next s') S hh kd co hS ht h1 h2 e (λv H e=>o _ _ _ e) hr f λm tot D0 L e nD nD0 nL0 j=>?_) (λ_ s' hq=>Η<|Η hq) λ_ _ e=>e
  refine j.4.elim λits q_=>q_.elim λi q_=>q_.elim λil D=>?_
  have L0:Le [] g (m.yQ D0 (m.H.ϴ<|tot.length<=big) m.s.heap m.s.toks):=Ji j.2 nD0 rfl
  show WP C A (assign (.Name id p2) pe<|.ref D0) _ (m.yQ D0 (m.H.ϴ<|tot.length<=big) m.s.heap m.s.toks).s
  refine yu (v:=.d<|.lst tot) s (Jh j.1 j.3 rfl) (f.le L0) (.mk (.inr rfl) il (cG e λv H e=>o _ _ _ e).2<|bg.mono (λ_=>.inl) (λ_ _=>rfl) _ _ D) λk2 M hr2 f2 hk=>?_
  have no:L∉fY pe:=λm=>(Θ.mp m).elim (λh=>f.lo.1<|h▸nL0) λh=>f.lv _ h nL0
  have o0:Own (m.yQ D0 (m.H.ϴ<|tot.length<=big) m.s.heap m.s.toks) L:=⟨j.5.1,j.5.2,λz=>z.elim j.5.3 λz=>nD z.symm⟩
  have oL:=o0.le M
  refine⟨j.6.choose,jw (o0.same M no) j.6.choose_spec,λh3 sb=>?_⟩
  have x:dm L k2.s.heap h3:=λa o n e=>(sb.2 a n).trans e
  exact q (k2.up k2.H h3 k2.s.toks) _ _ _ (oJ (L0.lift.trans M) nL0 hr x) (oH hr2 oL.2 oL.3 x) (f2.ext hr2 no oL.3 x) .nx (hk▸e)⟩
end
section
variable{C:Ctx}{A:Ϡ}{F:Fn}{pe:Ο}{g:Sg}{R:Type}{r:R}{K:KS R}{H:Hp}{v w o i:V}{f1 f2 f3:FE}{x1:FS}{e1 e2 e3:Ϛ}{n N:Nat}{kp:Bool}{env:Env}{pos pos':gB}{rest:List fB}
theorem CD{f:Run R (KV R)}(e:OF f kp o env K i H=some r): ∃v,ϩ H o i=some v/\f H (OG kp o i v env K)=some r:=by
 unfold OF at e
 induction h:ϩ H o i with
 |none=>rw[h] at e;exact Ϝ e
 |some v=>rw[h] at e;exact⟨v,rfl,e⟩
theorem CF(e:OG kp o i v env K w H=some r): ∃a b H',v= .int a/\w= .int b/\bF kp H o i (.int<|a+b)=some H'/\K .next env H'=some r:=by
 refine(jg e).elim λa q_=>q_.elim λb q_=>q_.elim λh1 q_=>q_.elim λh2 e=>?_
 refine(aN e).elim λH' q_=>?_
 exact q_.elim λh3 e=>⟨a,b,H',h1,h2,h3,e⟩
theorem Jj(e:OG kp o i v env K w H=some r)(ok:yl K r):H.ok:=by
 refine(CF e).elim λ_ q_=>q_.elim λ_ q_=>q_.elim λH' q_=>q_.elim λ_ q_=>q_.elim λ_ q_=>q_.elim λe1 e=>?_
 exact D3 e1<|ok _ _ _ e
theorem T6{k kd:Nat}{p:gB}(hX:kp=F.m)(S:dU C)(hA:zR A N)(h1:SE C A F pe f1 (eval e1 pe))(h2:SE C A F pe f2 (eval (.Constant (.str<|txt k) kd p) pe))(h3:SE C A F pe f3 (eval e3 pe)):XE C A F pe (λenv H K=>f1 env H<|Rp (f2 env) (f3 env) kp env K) (exec (.AugAssign (.Subscript e1 (.Constant (.str<|txt k) kd p) pos') .Add e3 pos) pe):=
 have ok2 {R:Type} {r:R} {K:KS R} {o i:V} {env:Env} {H:Hp} (e:OF (f3 env) kp o env K i H=some r) (ok:yl K r):H.ok:=by
  refine(CD e).elim λv q_=>q_.elim λ_ e=>?_
  exact h3.1 e λw H e=>Jj e ok
 ⟨λe o=>h1.1 e λv H e=>h2.1 e λw H e=>ok2 e o,λ{R r K env g Q} e o hr f q=>wpAny_AugAssign_SubscriptAny (h1.2 e (λv H e=>h2.1 e λw H e=>ok2 e o) hr f λk v y L hr V e=>h2.2 e (λw H e=>ok2 e o) hr (f.le L) λk2 w y2 M hr2 W e=>by
  obtain⟨u,eu,e⟩:=CD e
  induction w with
  |d d=>
   suffices I:fT C A k2.s y y2 (λold s₃=>WP C A (eval e3 pe) (λv₁ s₄=>WP C A (inplaceOp .Add old v₁) (λnew s₅=>WP C A (setItem y y2 new) (λ_=>Q .next) s₅) s₄) s₃) from by
    refine I.1.elim λ_ q_=>q_.elim λ_ q_=>q_.elim λ_ q_=>q_.elim λ_ it=>?_
    exact it
   refine item_at S hr2 eu (M.v _ _ V) W λz t U=>?_
   ·have T:=iJ (t:=t) hr2
    refine h3.2 (g:=k2.up k2.H k2.s.heap t) e (λw H e=>Jj e o) (jP hr2) (((f.le L).le M).le T) λk3 w3 y3 P hr3 W3 e=>?_
    obtain⟨a,b,H',rfl,rfl,e1,e⟩:=CF e
    obtain⟨t,rfl⟩:=U
    obtain⟨u,rfl⟩:=W3
    refine tF ?_
    have L3:=(L.trans M).trans<|T.trans P
    have T3:=iJ (t:=k3.s.toks+1) hr3
    exact vm (g:=k3.up k3.H k3.s.heap<|k3.s.toks+1) (L3.md.trans<|f.md.trans hX.symm) hA.u e1 (o _ _ _ e) (jP hr3) (T3.v _ _<|(M.trans<|T.trans P).v _ _ V) (T3.v _ _<|(T.trans P).v (.d d) _ W) ki λm P4 hr4 hm=>q m _ _ _ ((L3.trans T3).trans P4).lift hr4 (((f.le L3).le T3).le P4) .nx<|hm▸e
  |_=>exact Ϝ eu) (λ_ _ _=>rfl)⟩
theorem yK(e:mT n env H K=some r): ∃j l,env[n]? =some (some<|.obj j)/\H.get j= .list l/\K .next (env.set n<|some<|.lst l) (H.put j .dead)=some r:=by
 unfold mT at e
 induction h:env[n]? with
 |none=>rw[h] at e;exact Ϝ e
 |some o=>
  rw[h] at e
  induction o with
  |none=>exact Ϝ e
  |some v=>
   induction v with
   |obj j=>
    refine(aN e).elim λl q_=>q_.elim λe1 e=>?_
    refine(qV e1).elim λl' q_=>?_
    exact q_.elim λe3 e2=>⟨j,l,rfl,(show l'=l from e2)▸e3,e⟩
   |_=>exact Ϝ e
theorem FR.re{u v:V}(f:FR C F pe g env)(h: ∀x,VR C g u x->VR C g v x)(e:env[n]? =some (some u)):FR C F pe g (env.set n<|some v) where
 kind:=f.kind
 glob:=f.glob
 blt:=f.blt
 len:=bG.trans f.len
 val:=by
  refine f.val.elim λm q_=>q_.elim λq f'=>?_
  refine⟨m,q,λi n' w a b=>?_⟩
  rcases yc b with⟨rfl,rfl⟩|⟨_,b⟩
  ·exact(f' i n' u a e).imp λx q=>⟨q.1,h _ q.2⟩
  ·exact f' i n' w a b
 lo:=f.lo
 gC:=f.gC
 inj:=f.inj
 has:=f.has
 once:=f.once
 lv:=f.lv
 md:=f.md
theorem Ug(h2:XE C A F pe x1 (execs rest pe)):XE C A F pe (λenv H K=>mT n env H<|pX x1 K) (execs rest pe) where
 ok e o:=by
  refine(yK e).elim λj q_=>q_.elim λl q_=>q_.elim λ_ q_=>q_.elim λ_ e=>?_
  exact show(Hp.put _ j .dead).ok from h2.ok e o
 w {R r K env g Q} e o hr f q:=by
  refine(yK e).elim λj q_=>q_.elim λl q_=>q_.elim λe1 q_=>q_.elim λe2 e=>?_
  have e3:=get_some e2 λh=>PO.noConfusion h
  have hj:j<g.r.length:=hr.len▸(Δ.mp e3).1
  have ea:g.r[j]? =some g.r[j]:=ϊ hj
  generalize g.r[j]=a at ea
  refine(hr.at_ j _ a e3 ea).elim λO nz=>?_
  have nz:=nz.resolve_left λh=>PO.noConfusion h
  have ma:=Υ ea
  let k:Sg:=⟨g.r,λb=>g.z b∨b=a,g.H.put j .dead,g.s,g.m⟩
  have L:Le [] g k:=⟨ϓ _,λ_=>.inl,λ_ _=>rfl,λ_ _ e _ _=>e,λ_ q=>q,λ_=>.inl,λb q=>Or.imp_right (λ(q:b=a)=>.inl<|q.symm▸ma) q,rfl,rfl,λ_=>.set rfl λ_ _=>trivial⟩
  have hr2:HR C k:=⟨hr.len.trans bG.symm,hr.nd,λb q=>q.elim (λq=>q.elim (λq=>hr.ex b (.inl q)) λq=>hr.ex b (.inr (q▸ma))) λq=>hr.ex b (.inr q),λb o e=>⟨.inl (hr.old b o e).1,(hr.old b o e).2⟩,λi po b e q=>by
   have e:(g.H.c.set j .dead)[i]? =some po:=e
   by_cases h:j=i
   ·subst h
    rw[iK (Δ.mp e3).1] at e
    cases e
    exact⟨trivial,.inl rfl⟩
   ·rw[jE h] at e
    exact(hr.at_ i po b e q).imp (L.or rfl po) λn=>n.imp_right λn z=>z.elim n λz=>h ((dO hj hr.nd).mp (ea.trans (z▸q.symm)))⟩
  induction O with
  |mk il z D=>
   refine h2.w (g:=k) e o hr2 ((f.le L).re (λx X=>?_) e1)<|zd L.lift q
   induction X with
   |mk h=>
    cases ξ (ea.symm.trans h)
    exact .mk (.inr rfl) il z<|bg.mono L.zz L.im _ _ D
end
end J.Internal
namespace J.Internal
open PySem PySem.W PySem.Calls PyProof.Rows
theorem Jt{M:Model}{A:Ϡ}{α:Type}{c:Bool}{t e:Kh α}{Q:α->Χ->Prop}{E:χ->Χ->Prop}{s:Χ}(h:c=false)(q:wpAny M A e Q E s):wpAny M A (if c=true then t else e) Q E s:=by
 rw[if_neg<|h▸λz=>ff z];exact q
abbrev pn(p:List fU):List ak:=p.map<|λx=>x.arg
noncomputable abbrev UT(p:List fU):List χ:=List.drop (0-(pn p).length) []
theorem V_{α β:Type}{l:List α}{b:β}{f:α->β->Kh (ForInStep β)}(h:l=[]):forIn l b f=pure b:=by rw[h];exact jD
noncomputable def UL(p:List fU)(r:bU):bU:={r with params:={r.params with posonlyargs:=[],args:=p,vararg:=none,kwonlyargs:=[],kwarg:=none},defaults:=.none}
theorem F7{s:Χ}{p:List fU}{r:bU}{xs:List χ}(hl:(decide (xs.length>(pn p).length)&&true)=false)(hm:(!(((pn p).take<|(pn p).length-(UT p).length).filter λn=>(((pn p).zip xs).lookup n).isNone).isEmpty)=false)(hz:((pn p).drop<|(pn p).length-(UT p).length).zip (UT p)=[])
 (fm:(pn p++[]).filterMap (λn=>(((pn p).zip xs).lookup n).map (n,·))=(pn p).zip xs):BindsTo s (UL p r) ⟨xs,[]⟩ ((pn p).zip xs):=λM A E Q q=>by
 refine ο<|Η ?_
 refine ο<|Η ?_
 refine Jt hl ?_
 refine Jt hm ?_
 refine ο ?_
 refine Ff (V_ hz) ?_
 refine ο<|Η ?_
 refine Η ?_
 exact(congrArg (λl=>Q l s) fm).mpr q
theorem N7{ns:List ak}: ∀(xs:List χ)(i:Nat)(n:ak)(x:χ),ns.Nodup->ns[i]? =some n->xs[i]? =some x->(ns.zip xs).lookup n=some x:=by
 induction ns with
 |nil=>exact λ_ _ _ _ _ e=>Ϝ e
 |cons a ns ih=>
  intro xs i n x h e e'
  have h:=cF.mp h
  induction xs with
  |nil=>exact Ϝ e'
  |cons u xs=>
   rw[zW,aX]
   induction i with
   |zero=>
    cases ξ e
    cases ξ e'
    rw[beq_self_eq_true]
   |succ i=>
    rw[show(n==a)=false from beq_eq_false_iff_ne.mpr λq=>h.1<|q▸Υ e]
    exact ih xs i n x h.2 e e'
theorem N8{L:List (ak×χ)}{ns:List ak}: ∀(xs:List χ),xs.length=ns.length->(∀(i:Nat)(n:ak)(x:χ),ns[i]? =some n->xs[i]? =some x->L.lookup n=some x)->ns.filterMap (λn=>(L.lookup n).map (n,·))=ns.zip xs/\ns.filter (λn=>(L.lookup n).isNone)=[]:=by
 induction ns with
 |nil=>exact λxs h _=>by induction xs with|nil=>exact⟨rfl,rfl⟩|cons _ _=>cases h
 |cons a ns ih=>
  intro xs h q
  induction xs with
  |nil=>cases h
  |cons u xs=>
   obtain⟨p1,p2⟩:=ih xs (gJ h) λi=>q<|i+1
   rw[List.filterMap_cons,Bj,(q 0 a u rfl rfl)]
   exact⟨congrArg (_:: ·) p1,p2⟩
theorem Ae{s:Χ}{p:List fU}{r:bU}{xs:List χ}(h:(pn p).Nodup)(hl:xs.length=(pn p).length):BindsTo s (UL p r) ⟨xs,[]⟩ ((pn p).zip xs):=by
 refine(N8 xs hl λi n x=>N7 xs i n x h).elim λp1 p2=>?_
 refine F7 (by rw[hl];simp) ?_ (by simp) (by rw[Ν];exact p1)
 rw[show UT p=[] from List.drop_nil,EX,Nat.sub_zero,aY,p2];rfl
end J.Internal
namespace J.Internal
open PySem PySem.W PySem.Calls PyProof.Rows
variable [Key]
theorem IM{B:List (ak×χ)->(ak->Option χ)->ak->Option χ}(c:ak->Prop)(h0: ∀m,B [] m=m)(h1: ∀n v r m,c n->B ((n,v)::r) m=B r λy=>if y=n then some v else m y)(h2: ∀n v r m,¬c n->B ((n,v)::r) m=B r m)(ns:List ak):
 ∀(xs:List χ)(m:ak->Option χ),(∀n,n∉ns->B (ns.zip xs) m n=m n)/\(ns.Nodup->∀(i:Nat)(n:ak)(x:χ),ns[i]? =some n->xs[i]? =some x->c n->B (ns.zip xs) m n=some x):=by
 induction ns with
 |nil=>exact λxs m=>⟨λn _=>congrFun (h0 m) n,λ_ i n x e=>Ϝ e⟩
 |cons a ns ih=>
  intro xs m
  induction xs with
  |nil=>exact⟨λn _=>congrFun (h0 m) n,λ_ i n x _ e=>Ϝ e⟩
  |cons u xs=>
   rw[zW]
   refine⟨λn q=>?_,λnd i n x e e' k=>?_⟩
   ·have q:=not_or.mp λz=>q<|Θ.mpr z
    by_cases k:c a
    ·rw[h1 _ _ _ _ k,(ih xs _).1 n q.2,if_neg q.1]
    ·rw[h2 _ _ _ _ k,(ih xs _).1 n q.2]
   ·have nd:=cF.mp nd
    induction i with
    |zero=>
     cases ξ e
     cases ξ e'
     rw[h1 _ _ _ _ k,(ih xs _).1 _ nd.1,if_pos rfl]
    |succ i=>
     by_cases k':c a
     ·rw[h1 _ _ _ _ k'];exact(ih xs _).2 nd.2 i n x e e' k
     ·rw[h2 _ _ _ _ k'];exact(ih xs _).2 nd.2 i n x e e' k
inductive J8(C:Ctx)(f ar l:Nat)(p:List fU)(r:bU)(ns:List ak):Prop
 |mk (ob:C.s.heap.get? (kE f)=some {cls:=.type "function",data:=.func (UL p r)}) (cd:C.s.heap.CodeRec r.code r.qualname) (kind:r.scope.kind= .function) (gen:r.scope.isGenerator=false) (co:r.scope.isCoroutine=false) (gl:r.globals=mainGlobals) (cl:r.closure=[]) (bl:r.builtins=builtinsNs) (pr:pn p=ns.take ar) (nd:ns.Nodup) (len:ns.length=ar+l) (lo: ∀n∈ns,r.scope.names.lookup n=some .local∨r.scope.names.lookup n=some .cell) (ck: ∀n,r.scope.names.lookup n=some .cell->n∈(cellsFrom 0 r.scope.names []).map (·.1)) (cn:((cellsFrom 0 r.scope.names []).map (·.1)).Nodup)
noncomputable def Oz(r:bU)(ns:List ak)(m:Bool):Fn:=⟨ns.length,λi=>ns[i]?,λn=>r.scope.names.lookup n,m⟩
noncomputable def Sg.y_(g:Sg)(m:Bool):Sg:=⟨g.r,g.z,g.H,g.s,m⟩
section
variable{C:Ctx}{A:Ϡ}{g:Sg}{f ar l:Nat}{p:List fU}{r:bU}{ns:List ak}{m:Bool}{body:List fB}
theorem RW(hr:HR C g):HR C (g.y_ m):=⟨hr.len,hr.nd,hr.ex,hr.old,λi po a e q=>(hr.at_ i po a e q).imp_left<|OR.mono (g:=g) (k:=g.y_ m) (ϓ _) (λ_ q=>q) (λ_ _=>rfl) rfl po⟩
theorem MF{cs:List (ak×ό)}(h:cs.Pairwise λx y=>x.2≠y.2){n n':ak}{c:ό}(a:(n,c)∈cs)(b:(n',c)∈cs):n=n':=by
 induction h with
 |nil=>cases a
 |cons h _ ih=>
  refine cK (Θ.mp a) (λa=>?_) λa=>?_
  ·rcases Θ.mp b with b|b
   ·exact congrArg Ϣ<|a.trans b.symm
   ·exact absurd (congrArg vW a).symm<|h (n',c) b
  ·rcases Θ.mp b with b|b
   ·exact absurd (congrArg vW b).symm<|h (n,c) a
   ·exact ih a b
theorem l6(F:J8 C f ar l p r ns)(b:Nat){n:ak}(h:r.scope.names.lookup n=some .cell): ∃c,(cellsFrom b r.scope.names []).lookup n=some c:=by
 have q:=F.13 n h
 rw[P1 r.scope.names 0 b [] [] rfl] at q
 obtain⟨x,hx,e⟩:=Ϗ.mp q
 exact Dh (k:=x.2)<|show(n,x.2)∈_ from e▸hx
theorem Gv{args:List V}{xs:List χ}{R:Result->Χ->Prop}(F:J8 C f ar l p r ns)(hb:r.body= .stmts body)(hlim:C.s.heap.NoLimit)(hA:A.depth<recursionLimit)(hr:HR C g)(V:Ϸ (VR C g) args xs)(hl:args.length=ar)
 (h: ∀pe E k,Kd (Oz r ns m) pe->FR C (Oz r ns m) pe k (args.map some++Ω l none)->HR C k->Le [] (g.y_ m) k->k.H=g.H->(∀a∈fY pe,g.s.heap.get? a=none)->
  wpAny (model pw C.w) (A.deeper pe) (execs body pe) (λfl s'=>R (.ok (.ret (match fl with| .ret v=>v|_=>.none))) s') E k.s):
 codeAny (model pw C.w) A (.call (.ref<|kE f) ⟨xs,[]⟩) R g.s:=by
 have pl:(pn p).length=ar:=by rw[F.9,cN,F.11];exact Nat.min_add_right_self
 have pd:(pn p).Nodup:=by rw[F.9];exact(A5 _ _).nodup F.10
 have tk {i:Nat} {n:ak} (e:(pn p)[i]? =some n):ns[i]? =some n:=by
  rw[F.9] at e
  rw[kJ] at e
  split at e
  ·exact e
  ·exact Ϝ e
 refine codeAny_call_function hA ((hr.old _ _ F.1).2) rfl F.5 F.4 hb (F.2.keeps hr.o)<|Ae pd (by rw[pl,<-hl,(bQ _ V)]) _ _ _ _ ?_
 show wpAny _ _ (newFunctionEnv r.scope r.globals r.closure ((pn p).zip xs) (r.qualname++ ".<locals>.") (some<|kE f) r.code none r.builtins) _ _ _
 rw[F.6,F.7,F.8]
 refine wpAny_newFunctionEnv_cells F.3 (λx hx=>?_) λenv' he s' x=>?_
 ·obtain⟨i,hi⟩:=vC.mp (EY<|show(x.1,x.2)∈_ from hx).1
  refine(F.12 x.1<|Υ<|tk hi).imp_right λq=>⟨q,?_⟩
  refine(l6 F (g.s.heap.objs.size+1) q).elim λc e=>?_
  rw[e];rfl
 ·subst he
  obtain⟨h₁,tk',rfl,hk₁⟩:=x.done
  refine⟨(hlim.keeps hr.o).keeps hk₁,codeAny_func ?_⟩
  have hr':HR C (g.y_ m):=RW hr
  have L1:Le [] (g.y_ m) ((g.y_ m).up g.H h₁ tk'):=gh hr' hk₁ rfl
  have ow {a:ό} (n:g.s.heap.objs.size<=a) (y:h₁.get? a≠none):Own ((g.y_ m).up g.H h₁ tk') a:=⟨y,λm=>hr.ex _ (.inr m)<|jz n,λm=>hr.ex _ (.inl m)<|jz n⟩
  have ab {n:ak} {c:ό} (e:(n,c)∈cellsFrom (g.s.heap.objs.size+1) r.scope.names []):g.s.heap.objs.size<c:=x.above _ _ e
  have ce {n:ak} {c:ό} (e:(n,c)∈cellsFrom (g.s.heap.objs.size+1) r.scope.names []):(cellsFrom (g.s.heap.objs.size+1) r.scope.names []).lookup n=some c:=lookup_of_mem_nodup (by rw[<-P1 r.scope.names 0 _ [] [] rfl];exact F.14) e
  have nk {n:ak} (m:n∈ns) (h:cf (r.scope.names.lookup n)=true):r.scope.names.lookup n=some .cell:=(F.12 n m).resolve_left λq=>by rw[q] at h;exact ff h
  refine h _ _ ((g.y_ m).up g.H h₁ tk') (λn=>rfl) {kind:=F.3,glob:=rfl,blt:=rfl,len:=?_,val:=⟨_,x.toInCall.ns,λi n v a e=>?_⟩,lo:=ow (ώ _)<|nJ x.toInCall.ns,gC:=λn c e=>⟨⟨_,x.cell n c e⟩,ow (aV<|ab<|gz e)<|jt<|x.cell n c e,mQ<|ab<|gz e⟩,inj:=λn n' c e e'=>MF x.apart (gz e)<|gz e',has:=λi n e q=>l6 F _<|nk (Υ e) q,once:=λi j n a b=>(dO (Δ.mp a).1 F.10).mp<|a.trans b.symm,lv:=λc m=>?_,md:=rfl} (lF hr' hk₁ rfl:HR C ((g.y_ m).up g.H h₁ tk')) L1 rfl λa q=>?_
  ·rw[θ,ς,vB,hl];exact F.11.symm
  ·have hi:i<args.length:=by
    refine cK (mL i args.length) (λq=>?_) λq=>?_
    ·exact q
    ·rw[aA (by rw[ς];exact q)] at e
     exact Ϝ (zV.mp<|Υ e).2.symm
   rw[Ϥ (by rw[ς];exact hi),ϒ] at e
   refine(dF.mp e).elim λu q_=>q_.elim λe1 e2=>?_
   cases ξ e2
   obtain⟨y,ey,W⟩:=V.get i _ e1
   have ep:(pn p)[i]? =some n:=by rw[F.9,kJ,if_pos<|hl▸hi];exact a
   refine⟨y,?_,L1.v _ _<|(VR.mono (g:=g) (k:=g.y_ m) (ϓ _) (λ_ q=>q)<|λ_ _=>rfl) _ _ W⟩
   refine cK (F.12 n<|Υ a) (λq=>?_) λq=>?_
   ·exact .loc q<|(IM (B:=bindL _) (λn=>r.scope.names.lookup n=some .local) (λ_=>rfl) (λn v z m k=>congrArg (bindL _ z)<|if_pos k) (λn v z m k=>congrArg (bindL _ z)<|if_neg k) _ xs _).2 pd i n y ep ey q
   ·refine(l6 F (g.s.heap.objs.size+1) q).elim λc e=>?_
    refine .gC (by show cf (r.scope.names.lookup n)=true;rw[q];rfl) e ?_
    exact(congrArg (h₁.IsCell c)<|(IM (B:=bindC _) (λn=>¬r.scope.names.lookup n=some .local) (λ_=>rfl) (λn v z m k=>congrArg (bindC _ z)<|if_neg k) (λn v z m k=>congrArg (bindC _ z)<|if_pos<|XX.mp k) _ xs _).2 pd i n y ep ey (by rw[q];exact λh=>nomatch h)).mp<|x.cell n c e
  ·refine(Ϗ.mp m).elim λz q_=>q_.elim λhz e=>?_
   exact e▸jt (x.cell _ _<|ce hz)
  ·rcases Θ.mp q with q|q
   ·exact q▸jz (ώ _)
   ·refine(Ϗ.mp q).elim λz q_=>q_.elim λhz e=>?_
    exact e▸jz (aV<|ab hz)
noncomputable def Sg.cut(g:Sg)(n:Nat)(P:ό->Prop)(u:Bool):Sg:=⟨g.r.take n,λb=>g.z b∨P b,g.H.cut n,g.s,u⟩
variable{k:Sg}{n:Nat}{P:ό->Prop}{u:Bool}{v v':V}{x:χ}{a:ό}{po:PO}{H H':Hp}{kp:Bool}
theorem nN{α:Type}{l:List α}{i:Nat}{b:α}(e:(l.take n)[i]? =some b):i<n/\l[i]? =some b:=by
 rw[kJ] at e
 split at e
 ·exact⟨‹_›,e⟩
 ·exact Ϝ e
theorem VR.down(b:v.bl n)(h:VR C k v x):VR C (k.cut n P u) v x:=by
 induction v with
 |d d=>exact DR.mono (λ_=>.inl) (λ_ _=>rfl) _ _ h
 |obj i=>
  induction h with
  |mk h=>exact .mk<|(cZ b).trans h
 |ins c i=>
  induction h with
  |mk a b' c d=>exact .mk a ((cZ b).trans b') (.inl c) d
 |gd i=>exact h
 |Μ=>exact h
theorem Ϸ.down{α β:Type}{R S:α->β->Prop}(l:List α): ∀m,(∀a∈l,∀b,R a b->S a b)->Ϸ R l m->Ϸ S l m:=by
 induction l with
 |nil=>exact λ_ _ e=>e
 |cons a l ih=>exact λm h q=>q.imp λb q=>q.imp λm' q=>⟨q.1,h _ (.head _) _ q.2.1,ih _ (λa m=>h a<|.tail _ m) q.2.2⟩
theorem OR.down(b:po.bl n)(h:OR C k a po):OR C (k.cut n P u) a po:=by
 induction po with
 |list l=>
  induction h with
  |mk x y q=>exact .mk x y<|bg.mono (λ_=>.inl) (λ_ _=>rfl) _ _ q
 |vl l=>
  induction h with
  |mk x y q=>exact .mk x y<|Ϸ.down _ _ (λv m _ h=>VR.down (b v m) h) q
 |di es=>
  induction h with
  |mk x y q=>exact .mk x y<|Ϸ.down _ _ (λe m _ h=>⟨h.1,VR.down (b e m) h.2⟩) q
 |ds es=>
  induction h with
  |mk x y q=>exact .mk x y<|Ϸ.down _ _ (λe m _ h=>⟨h.1,VR.down (b e m) h.2⟩) q
 |dt es=>
  induction h with
  |mk x r s y q=>exact .mk x r s y<|Ϸ.down _ _ (λe m _ h=>⟨h.1.imp λ_ z=>⟨z.1,VR.down (v:=.tup e.1) trivial z.2⟩,h.2.1,VR.down (b e m) h.2.2⟩) q
 |«at» es=>
  induction h with
  |mk x q=>exact .mk x<|Ϸ.down _ _ (λe m _ h=>⟨h.1,h.2.1,VR.down (b e m) h.2.2⟩) q
 |dead=>exact h
theorem WF.take{m:Nat}{c:List PO}(w:WF m c):WF m (c.take n):=λi po e l=>w i po (nN e).2 l
theorem Ci(hr:HR C k)(w:WF n k.H.c)(hP: ∀b,P b->b∈k.r/\b∉k.r.take n):HR C (k.cut n P u) where
 len:=by show(k.r.take n).length=(k.H.c.take n).length;rw[cN,cN,hr.len]
 nd:=(A5 _ _).nodup hr.nd
 ex b q:=q.elim (λq=>q.elim (λq=>hr.ex b<|.inl q) λq=>hr.ex b<|.inr (hP b q).1) λq=>hr.ex b<|.inr<|vR q
 old b o e:=⟨.inl (hr.old b o e).1,(hr.old b o e).2⟩
 at_ i po b e q:=by
  refine(nN e).elim λh e=>?_
  exact(hr.at_ i po b e (nN q).2).imp (OR.down<|w i po e h) λz=>z.imp_right λz y=>y.elim z λy=>(hP b y).2<|Υ q
theorem Cj(L:Le [] (g.y_ false) k)(hr:HR C g)(hP: ∀b,P b->b∈k.r/\b∉k.r.take g.H.c.length):Le [] g (k.cut g.H.c.length P g.m):=⟨by
 show g.r<+:k.r.take g.H.c.length
 rw[<-hr.len,show k.r.take g.r.length=g.r from(g7.mp L.pre).symm];exact ϓ _,λb q=>.inl<|L.zz b q,L.im,L.kp,L.ex,λb q=>L.fr b<|vR q,λb q=>q.elim (L.fz b) λq=>.inr<|L.fr b (hP b q).1,L.sh,rfl,λ_ n h w=>by
 refine(L.hf rfl n h w).elim λa b=>?_
 exact⟨by show n<=(k.H.c.take _).length;rw[cN];exact Nat.le_min.mpr ⟨h,a⟩,b.take⟩⟩
theorem VR.bd(h:VR C g v x):v.bl g.r.length:=by
 induction v with
 |obj i=>
  induction h with
  |mk h=>exact(Δ.mp h).1
 |ins c i=>
  induction h with
  |mk _ h _ _=>exact(Δ.mp h).1
 |_=>exact trivial
theorem Ϸ.all{α β:Type}{R:α->β->Prop}{S:α->Prop}(h: ∀a b,R a b->S a)(l:List α): ∀(m:List β),Ϸ R l m->∀a∈l,S a:=by
 induction l with
 |nil=>exact λ_ _ _ m=>ay m
 |cons a l ih=>
  rintro _ ⟨b,m,rfl,p,q⟩ c hc
  exact(Θ.mp hc).elim (λe=>e▸h _ _ p)<|ih m q c
theorem OR.bd(h:OR C g a po):po.bl g.r.length:=by
 induction po with
 |list l=>exact trivial
 |vl l=>
  induction h with
  |mk x y q=>exact Ϸ.all (R:=VR C g) (λ_ _=>VR.bd) _ _ q
 |di es=>
  induction h with
  |mk x y q=>exact Ϸ.all (λ_ _ h=>h.2.bd) _ _ q
 |ds es=>
  induction h with
  |mk x y q=>exact Ϸ.all (λ_ _ h=>h.2.bd) _ _ q
 |dt es=>
  induction h with
  |mk x r s y q=>exact Ϸ.all (λ_ _ h=>h.2.2.bd) _ _ q
 |«at» es=>
  induction h with
  |mk x q=>exact Ϸ.all (λ_ _ h=>h.2.2.bd) _ _ q
 |dead=>exact trivial
theorem TR(hr:HR C g):WF g.H.c.length g.H.c:=λi po e h=>by
 rw[<-hr.len] at h⊢
 exact(hr.at_ i po _ e<|ϊ h).1.bd
inductive Fp(n:Nat)(v:V)(H:Hp)(v':V)(H':Hp):Bool->Prop
 |st:v'=v->H'=H->Fp n v H v' H' true
 |lo:v'=v->v.bl n->H'=H.cut n->Fp n v H v' H' false
 |li {i:Nat} {l:List D}:v= .obj i->¬i<n->H.get i= .list l->v'= .lst l->H'=H.cut n->Fp n v H v' H' false
theorem r9(e:fin kp n v H=some (v',H')):Fp n v H v' H' kp:=by
 induction kp with
 |true=>cases ξ e;exact .st rfl rfl
 |false=>
  induction v with
  |obj i=>
   have e:(if i<n then some (.obj i,H.cut n) else E8 (λl=>(.lst l,H.cut n)) (H.get i))=some (v',H'):=e
   by_cases h:i<n
   ·rw[if_pos h] at e
    cases ξ e
    exact .lo rfl h rfl
   ·rw[if_neg h] at e
    obtain⟨l,e1,e2⟩:=qV e
    cases e2
    exact .li rfl h e1 rfl rfl
  |ins c i=>
   refine(aC<|show(if i<n then some (V.ins c i,H.cut n) else none)=some (v',H') from e).elim λh e=>?_
   cases e
   exact .lo rfl h rfl
  |_=>cases ξ e;exact .lo rfl trivial rfl
theorem Cy(e:fin kp n v H=some (v',H'))(o:H'.ok):H.ok:=by
 induction r9 e with
 |st _ h=>exact h▸o
 |lo _ _ h=>subst h;exact o
 |li _ _ _ _ h=>subst h;exact o
theorem Lo{R:χ->Χ->Prop}(e:fin k.m g.H.c.length v k.H=some (v',H'))(hm:k.m=false∨g.m=k.m)(L:Le [] (g.y_ k.m) k)(hg:HR C g)(hr:HR C k)(V:VR C k v x)(q: ∀m y,Le [] g m->HR C m->VR C m v' y->m.H=H'->R y m.s):R x k.s:=by
 have L0 (h:k.m=false):Le [] (g.y_ false) k:=h▸L
 have W (h:k.m=false):WF g.H.c.length k.H.c:=((L0 h).hf rfl _ (ώ _)<|TR (g:=g) hg).2
 have F: ∀b,False->b∈k.r/\b∉k.r.take g.H.c.length:=λ_ h=>h.elim
 induction hk:k.m with
 |true=>
  rw[hk] at e hm L
  cases r9 e with
  |st h1 h2=>
   subst h1 h2
   have:g.y_ true=g:=by rw[<-(hm.resolve_left λh=>ff h.symm:g.m=true)];rfl
   exact q k x (this▸L) hr V rfl
 |false=>
  rw[hk] at e
  cases r9 e with
  |lo h1 b h2=>
   subst h1
   exact q (k.cut g.H.c.length (λ_=>False) g.m) x (Cj (L0 hk) hg F) (Ci hr (W hk) F) (V.down b) h2.symm
  | @li i l h1 h2 h3 h4 h5=>
   subst h1 h4
   obtain⟨a,rfl,ea,O,_⟩:=bY hr V h3 λh=>PO.noConfusion h
   have F: ∀b,b=a->b∈k.r/\b∉k.r.take g.H.c.length:=λb h=>h▸⟨Υ ea,λm=>by
    obtain⟨j,hj⟩:=vC.mp m
    refine(nN hj).elim λp1 p2=>?_
    exact h2 ((dO (Δ.mp ea).1 hr.nd).mp (ea.trans p2.symm)▸p1)⟩
   refine q (k.cut g.H.c.length (λb=>b=a) g.m) _ (Cj (L0 hk) hg F) (Ci hr (W hk) F) ?_ h5.symm
   induction O with
   |mk x y z=>exact .mk (.inr rfl) x y<|bg.mono (λ_=>.inl) (λ_ _=>rfl) _ _ z
end
section
variable{C:Ctx}{s:List Int}{f ar l n:Nat}{b:E}{u:Bool}{fl:Fl}{env:Env}{H H':Hp}{v:V}{args:List V}
inductive BodyOk(C:Ctx)(s:List Int)(f ar l:Nat)(b:E)(p:List fU)(r:bU)(ns:List ak)(body:List fB):Prop
 |mk (fn:J8 C f ar l p r ns) (bd:r.body= .stmts body) (x: ∀(X:Cx)(N:Nat)(A:Ϡ)(pe:Ο),X.s=s->fR C X.C N X.k->Kd (Oz r ns X.k) pe->pe.scope.kind= .function->zR A N->XE C A (Oz r ns X.k) pe (λenv H K=>wX X b env H K) (execs body pe))
theorem xQ{kp:Bool}(e:dS kp n fl env H=some (v,H')): ∃w,(fl= .ret w∨fl= .next/\w= .none)/\fin kp n w H=some (v,H'):=by
 induction fl with
 |next=>exact⟨_,.inr ⟨rfl,rfl⟩,e⟩
 |ret w=>exact⟨w,.inl rfl,e⟩
 |_=>exact Ϝ e
theorem uF(e:Β s (n+1) u f args H=some (v,H')): ∃ar l b,jJ f=some (ar,l,b)/\args.length=ar/\wX ⟨s,Β s n<|u&&bf f,u&&bf f⟩ b (args.map some++Ω l none) H (dS (u&&bf f) H.c.length)=some (v,H'):=by
 have e:(match jJ f with
  |some (ar,l,b)=>if args.length=ar then wX ⟨s,Β s n<|u&&bf f,u&&bf f⟩ b (args.map some++Ω l none) H (dS (u&&bf f) H.c.length) else none
  |none=>none)=some (v,H'):=e
 induction h:jJ f with
 |none=>rw[h] at e;exact Ϝ e
 |some t=>
  obtain⟨ar,l,b⟩:=t
  rw[h] at e
  by_cases hl:args.length=ar
  ·exact⟨ar,l,b,rfl,hl,(if_pos hl).symm.trans e⟩
  ·exact Ϝ<|(if_neg hl).symm.trans e
theorem B7{A0:Ϡ}{M:Nat}(h0:vL A0 M)(hlim:C.s.heap.NoLimit)(hF: ∀f ar l b,jJ f=some (ar,l,b)->∃p r ns body,BodyOk C s f ar l b p r ns body)(n:Nat):n<=M->∀u,fR C (Β s n u) n u:=by
 induction n with
 |zero=>exact λ_ u=>⟨λe=>Ϝ e,λe=>Ϝ e⟩
 |succ n ih=>
  refine λhM u=>⟨λ{f args H H' v} e o=>?_,λ{f args g H' v A xs Q} e o hm hA hr V q=>?_⟩
  ·refine(uF e).elim λar q_=>q_.elim λl q_=>q_.elim λb q_=>q_.elim λhf q_=>q_.elim λ_ e=>?_
   refine(hF f ar l b hf).elim λp q_=>q_.elim λr q_=>q_.elim λns q_=>q_.elim λbody B=>?_
   exact(B.3 ⟨s,Β s n<|u&&bf f,u&&bf f⟩ n A0 (newEnv r.scope 0 0 [] r.name none .none none 0) rfl (ih (Ϩ hM) _) (λ_=>rfl) B.1.3 ⟨h0.1,by have:=h0.2.1;omega,by have:=h0.2.2;omega⟩).ok e λfl env H e=>(xQ e).elim λw h=>Cy h.2 o
  ·obtain⟨ar,l,b,hf,hl,e⟩:=uF e
   refine(hF f ar l b hf).elim λp q_=>q_.elim λr q_=>q_.elim λns q_=>q_.elim λbody B=>?_
   refine Gv (m:=u&&bf f) B.1 B.2 hlim (by have:=hA.2.1;exact vD this) hr V hl λpe E k kd fr hr1 L hk fresh=>?_
   refine cI ((B.3 ⟨s,Β s n<|u&&bf f,u&&bf f⟩ n (A.deeper pe) pe rfl (ih (Ϩ hM) _) kd fr.kind hA.body).w (K:=dS (u&&bf f) g.H.c.length) (r:=(v,H')) (hk▸e) (λfl env H e=>(xQ e).elim λw h=>Cy h.2 o) hr1 fr λk2 fl env fw M hr2 f2 W e=>?_) (λ_ _ q=>q) λ_ _ z=>z.elim
   have L2:=L.drop M λa m=>.inr<|fresh a m
   have hm2:k2.m=(u&&bf f):=L2.md
   obtain⟨w,hw,e⟩:=xQ e
   rw[<-hm2] at e L2
   have fin {x:χ} (V:VR C k2 w x):Q (.ok<|.ret x) k2.s:=Lo (R:=λx s=>Q (.ok<|.ret x) s) e (by rw[hm2,hm];induction u<;>cases bf f<;>simp) L2 hr hr2 V λm y L hr V hk=>q m y L hr V hk
   rcases hw with rfl|⟨rfl,rfl⟩
   ·obtain⟨x,rfl,V⟩:=QE W
    exact fin V
   ·have e:=QE W
    subst e
    exact fin vn
end
end J.Internal
namespace J.Internal
open PySem
structure Vw where
 t:Nat
 a:Ϛ:=.Slice none none none ⟨0,0,0,0⟩
 b:Ϛ:=a
 c:Ϛ:=a
 l:List Ϛ:=[]
 p:gB:=⟨0,0,0,0⟩
 s:ak:=⟨#[]⟩
 n:Nat:=0
 k:Const:=.none
 o:pO:=.Add
 u:UnaryOp:=.Not
 bo:BoolOp:=.And
 os:List rj:=[]
 kx:List (Option Ϛ):=[]
 kw:List Keyword:=[]
 gs:List m6:=[]
 sc:pT:=⟨.module,[],false,false,[]⟩
 s1:Option Ϛ:=none
 s2:Option Ϛ:=none
 s3:Option Ϛ:=none
noncomputable def vw(x:Ϛ):Vw:=match x with
 | .Constant k n p=>{t:=1,k:=k,n:=n,p:=p}
 | .Name s p=>{t:=2,s:=s,p:=p}
 | .BinOp a o b p=>{t:=3,a:=a,o:=o,b:=b,p:=p}
 | .UnaryOp u a p=>{t:=4,u:=u,a:=a,p:=p}
 | .Compare a os l p=>{t:=5,a:=a,os:=os,l:=l,p:=p}
 | .BoolOp o l p=>{t:=6,bo:=o,l:=l,p:=p}
 | .IfExp a b c p=>{t:=7,a:=a,b:=b,c:=c,p:=p}
 | .Tuple l n p=>{t:=8,l:=l,n:=n,p:=p}
 | .List l p=>{t:=9,l:=l,p:=p}
 | .Dict kx l p=>{t:=10,kx:=kx,l:=l,p:=p}
 | .Attribute a s p=>{t:=11,a:=a,s:=s,p:=p}
 | .Subscript a b p=>{t:=12,a:=a,b:=b,p:=p}
 | .Call a l kw p=>{t:=13,a:=a,l:=l,kw:=kw,p:=p}
 | .ListComp a gs sc p=>{t:=14,a:=a,gs:=gs,sc:=sc,p:=p}
 | .Slice a b c p=>{t:=15,s1:=a,s2:=b,s3:=c,p:=p}
 |x=>{t:=0,a:=x}
noncomputable abbrev Vw.arms(v:Vw):List Ϛ:=[v.a,.Constant v.k v.n v.p,.Name v.s v.p,.BinOp v.a v.o v.b v.p,.UnaryOp v.u v.a v.p,.Compare v.a v.os v.l v.p,.BoolOp v.bo v.l v.p,.IfExp v.a v.b v.c v.p,.Tuple v.l v.n v.p,.List v.l v.p,.Dict v.kx v.l v.p,.Attribute v.a v.s v.p,.Subscript v.a v.b v.p,.Call v.a v.l v.kw v.p,.ListComp v.a v.gs v.sc v.p,.Slice v.s1 v.s2 v.s3 v.p]
theorem TA(x:Ϛ):x=num (vw x).t (vw x).arms (vw x).a:=by cases x<;>rfl
theorem eL{x:Ϛ}{n:Nat}(h:((vw x).t==n)=true):x=num n (vw x).arms (vw x).a:=(TA x).trans<|congrArg (λt=>num t (vw x).arms (vw x).a)<|eq_of_beq h
structure Sw where
 t:Nat
 st:fB:=.Pass ⟨0,0,0,0⟩
 a:Ϛ:=.Slice none none none ⟨0,0,0,0⟩
 b:Ϛ:=a
 l:List Ϛ:=[]
 o:pO:=.Add
 e:Option Ϛ:=none
 x:List fB:=[]
 y:List fB:=[]
 p:gB:=⟨0,0,0,0⟩
noncomputable abbrev Sw.arms(v:Sw):List fB:=[v.st,.Return v.e v.p,.Assign v.l v.a v.p,.AugAssign v.a v.o v.b v.p,.For v.a v.b v.x v.y v.p,.While v.a v.x v.y v.p,.If v.a v.x v.y v.p,.Expr v.a v.p,.Break v.p,.Continue v.p]
noncomputable def sw(x:fB):Sw:=match x with
 | .Return e p=>{t:=1,e:=e,p:=p}
 | .Assign l a p=>{t:=2,l:=l,a:=a,p:=p}
 | .AugAssign a o b p=>{t:=3,a:=a,o:=o,b:=b,p:=p}
 | .For a b x y p=>{t:=4,a:=a,b:=b,x:=x,y:=y,p:=p}
 | .While a x y p=>{t:=5,a:=a,x:=x,y:=y,p:=p}
 | .If a x y p=>{t:=6,a:=a,x:=x,y:=y,p:=p}
 | .Expr a p=>{t:=7,a:=a,p:=p}
 | .Break p=>{t:=8,p:=p}
 | .Continue p=>{t:=9,p:=p}
 |x=>{t:=0,st:=x}
theorem Th(x:fB):x=num (sw x).t (sw x).arms (sw x).st:=by cases x<;>rfl
theorem jk{x:fB}{n:Nat}(h:((sw x).t==n)=true):x=num n (sw x).arms (sw x).st:=(Th x).trans<|congrArg (λt=>num t (sw x).arms (sw x).st)<|eq_of_beq h
class inductive F2{α β:Type _}(R:α->β->Prop):List α->List β->Prop
 |nil:F2 R [] []
 |cons {a:α} {b:β} {l:List α} {m:List β}:R a b->F2 R l m->F2 R (a::l) (b::m)
noncomputable def E.fN(e:E):Bool:=@E.casesOn (λ_=>Bool) e true λ_ _ _ _ _ _ _=>false
noncomputable def E.tag(e:E):Nat:=@E.casesOn (λ_=>Nat) e 99 λt _ _ _ _ _ _=>t
noncomputable def Lz(F:Fn)(id:ak):Bool:=F.kd id==some .globalImplicit&& !(id==("__debug__"))
noncomputable def Yz(n m:Nat)(id:ak):Bool:=(QS[n]?).any λp=>p.2==(m:Int)&&ϵ p.1==id
noncomputable def YA(n:Nat)(id:ak):Bool:=(QT[n]?).any λp=>ϵ p==id
noncomputable def Yy(n:Nat)(id:ak):Bool:=(QK[n]?).any λp=>!((ϵ p).cps.toList.contains 46)&&ϵ p==id
noncomputable def Yx(n:Nat)(id:ak):Bool:=(P8[n]?).any λp=>ϵ p==id
noncomputable def Yw(n:Nat)(id:ak):Bool:=(["len","list","list","tuple","max"][n]?).any λp=>ϵ p==id
noncomputable def OQ(F:Fn)(lo:Bool)(i:Nat)(id:ak):Bool:=F.ns i==some id&&(F.kd id==some .local||(!lo&&F.kd id==some .cell))
structure XW where
 nx:Fn->Bool->Ϛ->Bool
 tn:Fn->Bool->List Ϛ->Bool
 tg:Fn->Bool->Ϛ->Bool
noncomputable def IW:E->XW:=@E.rec (λ_=>XW) ⟨λ_ _ _=>false,λ_ _ l=>l.isEmpty,λ_ _ _=>false⟩ λt n _ _ _ _ _ a b _=>
 ⟨λF o x=>(vw x).t==2&&OQ F o n (vw x).s,λF o l=>@az _ (λ_=>Bool) l false λx l=>a.nx F o x&&b.tn F o l,
  λF o x=>(t==5&&((vw x).t==2&&OQ F o n (vw x).s))||(t==15&&((vw x).t==8&&a.tn F o (vw x).l))⟩
noncomputable def HY(x:Ϛ):List ak:=num (vw x).t [[],[],[(vw x).s],[],[],[],[],[],(vw x).l.map λy=>(vw y).s] []
noncomputable def Yl(F:Fn)(sc:pT)(tgs:List ak):Bool:=sc.kind== .function&&(tgs.all λn=>sc.names.lookup n==some .local)&&decide tgs.Nodup&&(sc.names.all λx=>!(x.2== .cell)&&(!(x.2== .local)||sc.names.lookup x.1==some .local)&&(!(x.2== .free)||(F.kd x.1==some .cell&&(ϗ F.n).any λi=>F.ns i==some x.1)))
noncomputable def ge1(l:List m6)(f:Ϛ->Ϛ->List Ϛ->Bool):Bool:=@az _ (λ_=>Bool) l false λg l=>l.isEmpty&&g.is_async==0&&f g.target g.iter g.ifs
noncomputable def one(l:List Ϛ)(f:Ϛ->Bool):Bool:=@az _ (λ_=>Bool) l false λx l=>l.isEmpty&&f x
noncomputable def two(l:List Ϛ)(f:Ϛ->Ϛ->Bool):Bool:=@az _ (λ_=>Bool) l false λx l=>one l<|f x
noncomputable def opt(o:Option Ϛ)(f:Ϛ->Bool):Bool:=@Bo _ (λ_=>Bool) o false f
noncomputable def Vx(x:Ϛ):Bool:=(vw x).t==2||(vw x).t==11||(vw x).t==12
noncomputable def Mw(n l:Nat):Bool:=(n !=1&&n !=67&&n !=6)||o8 n l
noncomputable def YD:List Nat->List (Option Ϛ)->Bool:=@vS Nat (λ_=>List (Option Ϛ)->Bool) (λl=>l.isEmpty) λk _ ih l=>@az _ (λ_=>Bool) l false λo l=>decide (k<c7)&&(opt o λx=>(vw x).t==1&&(vw x).k== .str (txt k))&&ih l
noncomputable def SY(tg v:Ϛ):Bool:=((vw tg).t==12&& !((vw v).t==0))||(((vw tg).t==2||(vw tg).t==11)&& !((vw v).t==14)&& !((vw v).t==0))||((vw tg).t==8&&((vw v).t==12||(vw v).t==13))
noncomputable def UY(F:Fn)(id:ak)(p:gB)(v:Ϛ):Bool:=(vw v).t==14&&F.kd id==some .local&&p.line==(vw v).p.line&& !((vw v).sc.names.any λx=>x.1==id&&(x.2== .local||x.2== .cell))
structure Ck where
 ex:Fn->Ϛ->Bool
 li:Fn->List Ϛ->Bool
 op:Nat->Fn->List Ϛ->Bool
 so:Fn->Ϛ->Bool
 co:Fn->List Ϛ->Bool
 ta:Fn->Ϛ->Bool
 st:Fn->fB->Bool
 bl:Fn->List fB->Bool
noncomputable def VG(ca cb cc:Ck)(n m:Nat)(F:Fn)(v:Vw):Bool:=v.t==14&&ge1 v.gs λtg it ifs=>(HY tg).length==n&&Yl F v.sc (HY tg)&&cb.so F it&&(IW<|To n m F.n).tg (F.inner v.sc<|HY tg) true tg&&ca.ex (F.inner v.sc<|HY tg) v.a&&cc.co (F.inner v.sc<|HY tg) ifs
noncomputable def Yq(n m:Nat)(k:List Nat)(a:E)(ca cb cc:Ck)(F:Fn)(v:Vw):List Bool:=[false,
 v.t==1&&v.k== .int n,
 v.t==1&&v.k== .str (txt n)&&decide (n<c7),
 v.t==1&&v.k== .bool (n !=0),
 v.t==1&&v.k== .none,
 v.t==2&&F.ns n==some v.s&&DG v.s,
 v.t==2&&Lz F v.s&&Yz n m v.s,
 v.t==3&&v.o==YN n&&decide (n<8)&&ca.ex F v.a&&cb.ex F v.b,
 v.t==4&&v.u== .USub&&ca.ex F v.a,
 v.t==4&&v.u== .Not&&ca.ex F v.a,
 v.t==5&&v.os==[YM n]&&ca.ex F v.a&&one v.l λx=>(vw x).t==1&&(vw x).k== .none,
 v.t==5&&v.os==[ON n]&&decide (n<8)&&ca.ex F v.a&&one v.l λx=>!(behindInMarks (ON n) x)&&cb.ex F x,
 v.t==5&&v.os==[ON n,ON m]&&decide (n<8)&&decide (m<8)&&ca.ex F v.a&&two v.l λx y=>!(behindInMarks (ON m) y)&&cb.ex F x&&cc.ex F y,
 v.t==6&&v.bo==US n&&ca.op n F v.l,
 v.t==7&&ca.ex F v.a&&cb.ex F v.b&&cc.ex F v.c,
 v.t==8&&decide (v.l.length<=100)&&ca.li F v.l,
 v.t==9&&decide (v.l.length<=100)&&ca.li F v.l,
 v.t==10&&num n [k.isEmpty&&v.kx.isEmpty&&v.l.isEmpty&&a.fN,YD k v.kx&&ca.li F v.l&&v.kx.length==v.l.length&&k.length !=0&&decide (k.length<=15)&&decide (k.map txt).Nodup,v.kx.isEmpty&&v.l.isEmpty&&a.fN] false,
 v.t==11&&v.s==txt n&&decide (n<c7)&&Vx v.a&&ca.ex F v.a,
 v.t==12&&ca.ex F v.a&&cb.ex F v.b,
 v.t==12&&ca.ex F v.a&&(vw v.b).t==15&&(vw v.b).s2.isNone&&(vw v.b).s3.isNone&&opt (vw v.b).s1 λx=>cb.ex F x,
 v.t==12&&ca.ex F v.a&&(vw v.b).t==15&&(vw v.b).s1.isNone&&(vw v.b).s3.isNone&&opt (vw v.b).s2 λx=>cb.ex F x,
 v.t==13&&v.kw.isEmpty&&ca.li F v.l&&(vw v.a).t==2&&Lz F (vw v.a).s&&Yy n (vw v.a).s,
 v.t==13&&v.kw.isEmpty&&ca.li F v.l&&(vw v.a).t==2&&Lz F (vw v.a).s&&Yx n (vw v.a).s,
 v.t==13&&v.kw.isEmpty&&cb.li F v.l&&(vw v.a).t==11&&(vw v.a).s==txt n&&decide (n<c7)&&Vx (vw v.a).a&&ca.ex F (vw v.a).a&&(vw v.a).p.endLine==v.p.line&&decide (v.l.length<20)&&Mw n v.l.length,
 v.t==13&&v.kw.isEmpty&&(vw v.a).t==2&&Lz F (vw v.a).s&&Yw n (vw v.a).s&&one v.l λx=>ca.ex F x,
 VG ca cb cc n m F v,
 v.t==2&&Lz F v.s&&YA n v.s]
noncomputable def JN(F:Fn)(v:Vw)(nm:ak):Bool:=v.t==13&&v.kw.isEmpty&&(vw v.a).t==2&&(vw v.a).s==nm&&Lz F nm
noncomputable def Xw(n:Nat)(a b:E)(ca cb cc:Ck)(F:Fn)(v:Sw):List Bool:=[false,false,false,false,false,false,false,false,false,false,false,false,false,false,false,false,false,false,false,false,false,false,false,false,false,false,false,
 v.t==1&&((v.e.isNone&&a.tag==4)||opt v.e λx=>ca.ex F x),
 v.t==2&&one v.l λtg=>cb.ex F v.a&&((SY tg v.a&&ca.ta F tg)||(a.tag==5&&(vw tg).t==2&&(IW a).tg F false tg&&UY F (vw tg).s (vw tg).p v.a&&b.tag==26)),
 v.t==3&&v.o== .Add&&(vw v.a).t==2&&OQ F false n (vw v.a).s&& !((vw v.a).s==("__classdict__"))&&cb.ex F v.b,
 v.t==7&&ca.ex F v.a&& !((vw v.a).t==14)&& !((vw v.a).t==0),
 v.t==6&&ca.ex F v.a&&cb.bl F v.x&&cc.bl F v.y,
 v.t==5&&ca.ex F v.a&&cb.bl F v.x&&v.y.isEmpty,
 v.t==4&&(IW a).tg F false v.a&&cb.so F v.b&&cc.bl F v.x&&v.y.isEmpty,
 v.t==8,v.t==9,true,false,false,false,
 v.t==3&&v.o== .Add&&(vw v.a).t==12&&ca.ex F (vw v.a).a&&b.tag==2&&cb.ex F (vw v.a).b&&cc.ex F v.b,false,
 v.t==6&&ca.ex F v.a&&v.y.isEmpty]
noncomputable def ck:E->Ck:=@E.rec (λ_=>Ck) ⟨λ_ _=>false,λ_ l=>l.isEmpty,λ_ _ _=>false,λ_ _=>false,λ_ l=>l.isEmpty,λ_ _=>false,λ_ _=>false,λ_ l=>l.isEmpty⟩ λt n m k a b c ca cb cc=>
 ⟨λF x=>num t (Yq n m k a ca cb cc F (vw x)) false,
  λF l=>@az _ (λ_=>Bool) l false λx l=>ca.ex F x&&cb.li F l,
  λn F l=>@az _ (λ_=>Bool) l false λx l=>ca.ex F x&&(bif b.fN then l.isEmpty else !l.isEmpty&&cb.op n F l),
  λF x=>(t==39&&ca.ex F x)||(t==40&&JN F (vw x) "range"&&((a.fN&&one (vw x).l λy=>cb.ex F y)||(!a.fN&&two (vw x).l λy z=>ca.ex F y&&cb.ex F z)))||(t==42&&JN F (vw x) "range"&&one (vw x).l λy=>JN F (vw y) "len"&&one (vw y).l λz=>ca.ex F z),
  λF l=>one l λx=>ca.ex F x,
  λF x=>(t==5&&(vw x).t==2&&OQ F false n (vw x).s)||(t==15&&(vw x).t==8&&(IW a).tn F false (vw x).l)||(t==18&&(vw x).t==11&&(vw x).s==txt n&&decide (n<c7)&&ca.ex F (vw x).a)||(t==19&&(vw x).t==12&&ca.ex F (vw x).a&&cb.ex F (vw x).b),
  λF x=>num t (false::Xw n a b ca cb cc F (sw x)) false,
  λF l=>t==0&&((a.tag==37)||(a.tag==38&&cb.bl F l)|| @az _ (λ_=>Bool) l false λx l=>ca.st F x&&cb.bl F l)⟩
end J.Internal
namespace J.Internal
open PySem PySem.W PySem.Calls PyProof.Rows
variable [Key]
noncomputable def G4{α:Type _}:Nat->List α->α->α:=@Nat.rec (λ_=>List α->α->α) (λl z=>@az _ (λ_=>α) l z λx _=>x) λ_ ih l z=>@az _ (λ_=>α) l z λ_ l=>ih l z
theorem zo{α:Type}{β:Type _}{R:α->β->Prop}{z:α}{w:β}{l:List α}{m:List β}(h:F2 R l m)(hz:R z w): ∀t,R (num t l z) (G4 t m w):=by
 induction h with
 |nil=>intro t;induction t<;>exact hz
 |cons p _ ih=>
  intro t
  induction t with
  |zero=>exact p
  |succ t=>exact ih t
theorem zm{α:Type _}{β:Type}(φ:α->β)(z:α): ∀(t:Nat)(l:List α),num t (l.map φ) (φ z)=φ (G4 t l z):=λt=>by
 induction t with
 |zero=>exact λl=>by induction l<;>rfl
 |succ t ih=>
  intro l
  induction l with
  |nil=>rfl
  |cons a l=>exact ih l
inductive A3(a b c:Bool):Prop
 |mk:a=true->b=true->c=true->A3 a b c
theorem a3{a b c:Bool}(h:(a&&b&&c)=true):A3 a b c:=.mk (eB h) (aR<|aL h)<|aR h
theorem pY{a b:Bool}(h:(a||b)=true):a=true∨b=true:=jQ.mp h
section
variable{C:Ctx}{A:Ϡ}{F:Fn}{pe:Ο}{own:List ό}{lo:Bool}{i:Nat}{id:ak}{x:Ϛ}{l:List Ϛ}{e:E}
inductive OZ(F:Fn)(pe:Ο)(own:List ό)(lo:Bool):Prop
 |mk (kd:Kd F pe) (l:pe.locals∈own) (c:lo=false->∀c∈pe.cells.map (·.2),c∈own)
theorem sZ(h:OZ F pe own lo)(q:OQ F lo i id=true):Bq F pe own i id:=by
 refine(an q).elim λa b=>?_
 refine⟨eq_of_beq a,?_⟩
 refine cK (pY b) (λb=>?_) λb=>?_
 ·exact .lo ((h.1 id).trans<|eq_of_beq b) h.2
 ·refine(an b).elim λb c=>?_
  exact .ce ((h.1 id).trans<|eq_of_beq c) λc e=>h.3 (nt b) c<|lookup_mem e
inductive Pe(e:E):Prop
 |mk (nx: ∀{F:Fn}{pe:Ο}{own:List ό}{lo:Bool}{x:Ϛ},OZ F pe own lo->(IW e).nx F lo x=true->∃t n m k a b c id p,e= .n t n m k a b c/\x= .Name id p/\Bq F pe own n id) (tn: ∀{F:Fn}{pe:Ο}{own:List ό}{lo:Bool}(l:List Ϛ),OZ F pe own lo->(IW e).tn F lo l=true->TN F pe own e l) (tg: ∀{F:Fn}{pe:Ο}{own:List ό}{lo:Bool}{x:Ϛ},OZ F pe own lo->(IW e).tg F lo x=true->TG F pe own e x)
theorem gR(h:((vw x).t==2)=true):x= .Name (vw x).s (vw x).p:=eL h
theorem CU(h:((vw x).t==8)=true):x= .Tuple (vw x).l (vw x).n (vw x).p:=eL h
theorem D7(e:E):Pe e:=@E.rec Pe ⟨λ_ h=>ff h,λl _ h=>by
 induction l with
 |nil=>exact .nil
 |cons _ _=>exact ff h,λ_ h=>ff h⟩ (λt n m k a b c ha hb _=>⟨λo h=>⟨_,_,_,_,_,_,_,_,_,rfl,gR (aL h),sZ o (aR h)⟩,λl o h=>by
 cases l with
 |nil=>exact ff h
 |cons x l=>
  refine(an h).elim λh1 h2=>?_
  obtain⟨t,n,m,k,a',b',c',id,p,rfl,rfl,s⟩:=ha.1 o h1
  exact .cons s<|hb.2 l o h2,λ{F pe own lo x} o h=>by
 refine cK (pY h) (λh=>?_) λh=>?_
 ·refine(an h).elim λh1 h2=>?_
  cases eq_of_beq h1
  rw[gR<|aL h2]
  exact .nm<|sZ o<|aR h2
 ·refine(an h).elim λh1 h2=>?_
  cases eq_of_beq h1
  rw[CU<|aL h2]
  exact .tu (ha.2 _ o (aR h2))⟩) e
variable{n m:Nat}{tg v:Ϛ}{pos:gB}{sc:pT}{tgs:List ak}{ks:List Nat}{kx:List (Option Ϛ)}
theorem qU(h:((vw x).t==11)=true):x= .Attribute (vw x).a (vw x).s (vw x).p:=eL h
theorem oR(h:((vw x).t==12)=true):x= .Subscript (vw x).a (vw x).b (vw x).p:=eL h
theorem CR(h:((vw x).t==13)=true):x= .Call (vw x).a (vw x).l (vw x).kw (vw x).p:=eL h
theorem yU(h:((vw x).t==14)=true):x= .ListComp (vw x).a (vw x).gs (vw x).sc (vw x).p:=eL h
theorem oQ(h:((vw x).t==1)=true):x= .Constant (vw x).k (vw x).n (vw x).p:=eL h
theorem zH(h1:(!((vw v).t==14))=true)(h2:(!((vw v).t==0))=true)(tg:Option Ϛ)(ln:Nat):swapsWith v tg ln pe=pure false:=by
 cases v<;>first|rfl|exact ff h1|exact ff h2
inductive U_(v tg:Ϛ)(ln:Nat)(pe:Ο):Prop
 |mk (s:swapsWith v (some tg) ln pe=pure false) (w:swappedStores [tg] v pe=pure none) (e:(assignEach [tg] pe).map (·.2)=[assign tg pe])
theorem S1(h:SY tg v=true)(ln:Nat):U_ v tg ln pe:=by
 refine cK (pY h) (λh=>?_) λh=>?_
 ·refine cK (pY h) (λh=>?_) λh=>?_
  ·refine(an h).elim λh1 h2=>?_
   rw[oR h1]
   refine⟨?_,rfl,rfl⟩
   induction h3:(vw v).t==14 with
   |true=>rw[yU h3];rfl
   |false=>exact zH (by rw[h3];rfl) h2 _ _
  ·induction a3 h with
   |mk h1 h2 h3=>
    refine cK (pY h1) (λh1=>?_) λh1=>?_
    ·refine⟨zH h2 h3 _ _,?_,?_⟩
     ·rw[gR h1];rfl
     ·rw[gR h1];rfl
    ·refine⟨zH h2 h3 _ _,?_,?_⟩
     ·rw[qU h1];rfl
     ·rw[qU h1];rfl
 ·refine(an h).elim λh1 h2=>?_
  rw[CU h1]
  refine cK (pY h2) (λh2=>?_) λh2=>?_
  ·rw[oR h2];exact⟨rfl,rfl,rfl⟩
  ·rw[CR h2];exact⟨rfl,rfl,rfl⟩
theorem NJ(kd:Kd F pe)(kf:pe.scope.kind= .function)(h:UY F id pos v=true)(ln:Nat):swapsWith v (some<|.Name id pos) ln pe=pure true:=by
 refine(an h).elim λh h4=>?_
 induction a3 h with
 |mk h1 h2 h3=>
  have b:pe.blockKind= .function:=by unfold Env.blockKind;rw[kf];rfl
  rw[yU h1] at h3⊢
  show pure (pe.blockKind== .function&&pe.kindOf id==some .local&&pos.line==(vw v).p.line&& !((vw v).sc.names.any λx=>x.1==id&&(x.2== .local||x.2== .cell)))=pure true
  rw[b,kd id,h2,h4,show(pos.line==(vw v).p.line)=true from h3];rfl
theorem IQ(h:Vx x=true):Bs pe x:=by
 refine cK (pY h) (λh=>?_) λh=>?_
 ·refine cK (pY h) (λh=>?_) λh=>?_
  ·rw[gR h];exact λ_ _=>rfl
  ·rw[qU h];exact λ_ _=>rfl
 ·rw[oR h];exact λ_ _=>rfl
theorem xd(h:Yl F sc tgs=true):zT F sc tgs:=by
 refine(an h).elim λh h4=>?_
 induction a3 h with
 |mk h1 h2 h3=>
  have q:=ϐ.mp h4
  have orN {a b:Bool} (h:(!a||b)=true) (z:a=true):b=true:=(pY h).resolve_left λy=>ff (by rw[z] at y;exact y)
  have be {k j:lM} (e:k=j):(k==j)=true:=beq_iff_eq.mpr e
  exact⟨eq_of_beq h1,λn m=>eq_of_beq (ϐ.mp h2 n m),of_decide_eq_true h3,λx m e=>by
   have z:=nt<|eB<|q x m
   rw[be e] at z;exact ff z.symm,λx m e=>eq_of_beq<|orN (aR<|aL<|q x m)<|be e,λx m e=>by
   refine(an<|orN (aR<|q x m)<|be e).elim λa b=>?_
   refine(aW.mp b).elim λi q_=>q_.elim λ_ b=>?_
   exact⟨eq_of_beq a,i,eq_of_beq b⟩⟩
theorem Jx: ∀(ks:List Nat)(kx:List (Option Ϛ)),YD ks kx=true->KE ks kx:=λks=>by
 induction ks with
 |nil=>exact λkx h=>by induction kx with|nil=>exact .nil|cons _ _=>exact ff h
 |cons k ks ih=>
  intro kx h
  induction kx with
  |nil=>exact ff h
  |cons o kx=>
   induction a3 h with
   |mk h1 h2 h3=>
    induction o with
    |none=>exact ff h2
    |some x=>
     refine(an h2).elim λp q=>?_
     rw[oQ p,eq_of_beq q]
     exact .cons (of_decide_eq_true h1)<|ih kx h3
theorem pq{f:Ϛ->Bool}(h:one l f=true): ∃x,l=[x]/\f x=true:=by
 induction l with
 |nil=>exact ff h
 |cons x l=>
  refine(an h).elim λa b=>?_
  induction l with
  |nil=>exact⟨x,rfl,b⟩
  |cons _ _=>exact ff a
theorem Ew{f:Ϛ->Ϛ->Bool}(h:two l f=true): ∃x y,l=[x,y]/\f x y=true:=by
 induction l with
 |nil=>exact ff h
 |cons x l=>
  obtain⟨y,rfl,h⟩:=pq h
  exact⟨x,y,rfl,h⟩
theorem xZ{o:Option Ϛ}{f:Ϛ->Bool}(h:opt o f=true): ∃x,o=some x/\f x=true:=by
 induction o with
 |none=>exact ff h
 |some x=>exact⟨x,rfl,h⟩
theorem Jk{l:List m6}{f:Ϛ->Ϛ->List Ϛ->Bool}(h:ge1 l f=true): ∃t i c,l=[⟨t,i,c,0⟩]/\f t i c=true:=by
 induction l with
 |nil=>exact ff h
 |cons g l=>
  induction a3 h with
  |mk h1 h2 h3=>
   induction l with
   |nil=>
    obtain⟨t,i,c,a⟩:=g
    cases eq_of_beq h2
    exact⟨t,i,c,rfl,h3⟩
   |cons _ _=>exact ff h1
theorem emp{α:Type}{l:List α}(h:l.isEmpty=true):l=[]:=g5.mp h
theorem xE{e:E}(h:e.fN=true):e= .nil:=by
 induction e with
 |nil=>rfl
 |n t n m l a b c=>exact ff h
theorem LW{e:E}{t:Nat}(h:(e.tag==t)=true)(ne:(99==t)=false): ∃n m l a b c,e= .n t n m l a b c:=by
 induction e with
 |nil=>exact ff<|ne.symm.trans h
 |n t' n m l a b c=>cases eq_of_beq (show(t'==t)=true from h);exact⟨_,_,_,_,_,_,rfl⟩
theorem ye{P:E->Prop}{e:E}{t:Nat}(h:(e.tag==t)=true)(ne:(99==t)=false)(k: ∀n m l a b c,P<|.n t n m l a b c):P e:=by
 induction e with
 |nil=>exact ff<|ne.symm.trans h
 |n t' n m l a b c=>exact eq_of_beq (show(t'==t)=true from h)▸k n m l a b c
theorem pg{P:Prop}{f:Ϛ->Bool}(h:one l f=true)(k: ∀x,l=[x]->f x=true->P):P:=(pq h).elim λx q=>k x q.1 q.2
theorem NQ{P:Prop}{f:Ϛ->Ϛ->Bool}(h:two l f=true)(k: ∀x y,l=[x,y]->f x y=true->P):P:=(Ew h).elim λx q=>q.elim λy q=>k x y q.1 q.2
theorem Mz{P:Prop}{o:Option Ϛ}{f:Ϛ->Bool}(h:opt o f=true)(k: ∀x,o=some x->f x=true->P):P:=(xZ h).elim λx q=>k x q.1 q.2
theorem QN{P:Prop}{l:List m6}{f:Ϛ->Ϛ->List Ϛ->Bool}(h:ge1 l f=true)(k: ∀t i c,l=[⟨t,i,c,0⟩]->f t i c=true->P):P:=(Jk h).elim λt q=>q.elim λi q=>q.elim λc q=>k t i c q.1 q.2
end
inductive Tb(C:Ctx):Prop
 |mk (st:dU C) (cs:nQ C) (gi: ∀n m id,Yz n m id=true->∃t,kH C id<|.int m t) (gx: ∀n id,YA n id=true->∃x,kH C id x/\∀g,HR C g->VR C g (qs n) x) (gf: ∀n id,Yy n id=true->vN C (kE n)/\kH C id (.ref<|kE n)) (gc: ∀n id,Yx n id=true->n<19/\kH C id (.ref<|ju n)) (gb: ∀n id,Yw n id=true->n<5/\mJ C id (Ou n)) (gr:mJ C "range" (.type "range"))
inductive Gy(C:Ctx)(A:Ϡ)(X:Cx)(N:Nat):Prop
 |mk (tb:Tb C) (hC:fR C X.C N X.k) (hA:zR A N) (sc:Pb C X.s)
inductive Hy(X:Cx)(F:Fn)(pe:Ο):Prop
 |mk (kd:Kd F pe) (kf:pe.scope.kind= .function) (hX:X.k=F.m)
structure jW(C:Ctx)(A:Ϡ)(X:Cx)(e:E):Prop where
 ex: ∀{F:Fn}{pe:Ο}{x:Ϛ},Hy X F pe->(ck e).ex F x=true->ST C A F pe (λenv H K=>wE X e env H K) x
 li: ∀{F:Fn}{pe:Ο}(l:List Ϛ),Hy X F pe->(ck e).li F l=true->SL C A F pe (λenv H K=>wL X e env H K) l
 op: ∀{F:Fn}{pe:Ο}(n:Nat)(l:List Ϛ),Hy X F pe->(ck e).op n F l=true->SO C A F pe n (λenv H K=>wO X e n env H K) l
 sp: ∀{F:Fn}{pe:Ο}{ks:List Nat}{kx:List (Option Ϛ)}(l:List Ϛ)(pos:gB),Hy X F pe->(ck e).li F l=true->KE ks kx->kx.length=l.length->SP C A F pe (λenv H K=>wL X e env H K) ks kx l pos
 so: ∀{F:Fn}{pe:Ο}{x:Ϛ},Hy X F pe->(ck e).so F x=true->SS C A F pe (λenv H K=>wS X e env H K) x
 co: ∀{F:Fn}{pe:Ο}{l:List Ϛ},Hy X F pe->(ck e).co F l=true->CE C A F pe (λenv H K=>wC X e env H K) l
 ta: ∀{F:Fn}{pe:Ο}{x:Ϛ},Hy X F pe->(ck e).ta F x=true->AZ C A F pe (λv env H K=>wT X e env v H K) x
 ac: ∀{F:Fn}{pe:Ο}{v:Ϛ}{i:Nat}{id:ak}{p2 pos:gB},Hy X F pe->(ck e).ex F v=true->(e.tag==26)=true->Bq F pe (fY pe) i id->UY F id p2 v=true->XE C A F pe (λenv H K=>wE X e env H<|CX (λv H K=>K .next (env.set i<|some v) H) K) (exec (.Assign [.Name id p2] v pos) pe)
 st: ∀{F:Fn}{pe:Ο}{x:fB},Hy X F pe->(ck e).st F x=true->XE C A F pe (λenv H K=>wX X e env H K) (exec x pe)
 bl: ∀{F:Fn}{pe:Ο}(l:List fB),Hy X F pe->(ck e).bl F l=true->XE C A F pe (λenv H K=>wX X e env H K) (execs l pe)
section
variable{C:Ctx}{A:Ϡ}{X:Cx}{N:Nat}{F:Fn}{pe:Ο}{n m:Nat}{k:List Nat}{a b c:E}{x:Ϛ}{l:List Ϛ}{id:ak}{p p':gB}{f:FE}
theorem ST.ca{y:Ϛ}(e:x=y)(h:ST C A F pe f y):ST C A F pe f x:=e▸h
theorem SS.ca{f:FI}{y:Ϛ}(e:x=y)(h:SS C A F pe f y):SS C A F pe f x:=e▸h
theorem AZ.ca{f:FT}{y:Ϛ}(e:x=y)(h:AZ C A F pe f y):AZ C A F pe f x:=e▸h
theorem je(h:Hy X F pe)(q:Lz F id=true):pe.kindOf id=some .globalImplicit/\(id==("__debug__":ak))=false:=⟨(h.1 id).trans<|eq_of_beq<|aL q,nt<|aR q⟩
theorem Q5(h:((vw x).t==3)=true):x= .BinOp (vw x).a (vw x).o (vw x).b (vw x).p:=eL h
theorem Jr(h:((vw x).t==4)=true):x= .UnaryOp (vw x).u (vw x).a (vw x).p:=eL h
theorem CS(h:((vw x).t==5)=true):x= .Compare (vw x).a (vw x).os (vw x).l (vw x).p:=eL h
theorem Q6(h:((vw x).t==6)=true):x= .BoolOp (vw x).bo (vw x).l (vw x).p:=eL h
theorem CT(h:((vw x).t==10)=true):x= .Dict (vw x).kx (vw x).l (vw x).p:=eL h
theorem Jq(h:((vw x).t==15)=true):x= .Slice (vw x).s1 (vw x).s2 (vw x).s3 (vw x).p:=eL h
theorem yT(h:((vw x).t==13&&(vw x).kw.isEmpty)=true)(q:((vw (vw x).a).t==2)=true):x= .Call (.Name (vw (vw x).a).s (vw (vw x).a).p) (vw x).l [] (vw x).p:=(CR<|aL h).trans (by rw[emp<|aR h];exact congrArg (λy=>jM y (vw x).l [] (vw x).p)<|gR q)
theorem Q7(h:((vw x).t==13&&(vw x).kw.isEmpty)=true)(q:((vw (vw x).a).t==11)=true):x= .Call (.Attribute (vw (vw x).a).a (vw (vw x).a).s (vw (vw x).a).p) (vw x).l [] (vw x).p:=(CR<|aL h).trans (by rw[emp<|aR h];exact congrArg (λy=>jM y (vw x).l [] (vw x).p)<|qU q)
noncomputable def V7(X:Cx)(n m:Nat)(k:List Nat)(a b c:E):List FE:=[λ_ _ _=>none,λ_ H K=>K (.int n) H,λ_ H K=>K (.d (.str n)) H,λ_ H K=>K (.bool (n !=0)) H,λ_ H K=>K .none H,
 λenv H K=>OI H K env[n]?,λ_ H K=>K (.int m) H,
 λenv H K=>wE X a env H<|CY (wE X b env) n K,λenv H K=>wE X a env H<|xO K,λenv H K=>wE X a env H<|qu K,λenv H K=>wE X a env H<|C3 n K,λenv H K=>wE X a env H<|Ro (wE X b env) n K,λenv H K=>wE X a env H<|Rj (wE X b env) (wE X c env) n m K,
 λenv H K=>wO X a n env H K,λenv H K=>wE X a env H<|iH (wE X b env) (wE X c env) K,λenv H K=>wL X a env H<|xP K,λenv H K=>wL X a env H<|oS n K,λenv H K=>wL X a env H<|C1 n k K,
 λenv H K=>wE X a env H<|Q_ n K,λenv H K=>wE X a env H<|Rt (wE X b env) K,λenv H K=>wE X a env H<|Rx (wE X b env) n K,λenv H K=>wE X a env H<|Ry (wE X b env) X.s K,
 λenv H K=>wL X a env H (Rn X n K),λenv H K=>wL X a env H (AA X n K),λenv H K=>wE X a env H (L6 X (wL X b env) n K),λenv H K=>wE X a env H (Rc n K),λenv H K=>wS X b env H (CZ (wE X a) (wC X c) n m env K),λ_ H K=>K (qs n) H]
theorem TF{t:Nat}{R:Type}(env:Env)(H:Hp)(K:KV R):wE X (.n t n m k a b c) env H K=G4 (α:=FE) t (V7 X n m k a b c) (λ_ _ _=>none) env H K:=zm (α:=FE) (λf=>f env H K) (λ_ _ _=>none) t<|V7 X n m k a b c
theorem Gn(G:Gy C A X N)(ha:jW C A X a)(hb:jW C A X b)(hc:jW C A X c)(h:Hy X F pe)(x:Ϛ):F2 (λ(q:Bool) (f:FE)=>q=true->ST C A F pe f x) (Yq n m k a (ck a) (ck b) (ck c) F<|vw x) (V7 X n m k a b c):=
 .cons (λq=>ff q)<|
 .cons (λq=>.ca ((oQ<|aL q).trans (by rw[eq_of_beq<|aR q])) Qn)<|
 .cons (λq=>by
  exact .ca ((oQ (eB q)).trans (by rw[eq_of_beq (aR (aL q))])) (Qv (of_decide_eq_true (aR q))))<|
 .cons (λq=>.ca ((oQ<|aL q).trans (by rw[eq_of_beq<|aR q])) Lg)<|
 .cons (λq=>.ca ((oQ<|aL q).trans (by rw[eq_of_beq<|aR q])) Lh)<|
 .cons (λq=>by
  exact .ca (gR (eB q)) (Qp (eq_of_beq (aR (aL q))) (aR q)))<|
 .cons (λq=>by
  obtain⟨t,g⟩:=G.1.3 _ _ _<|aR q
  exact .ca (gR (eB q)) (I8 g (λ_ _=>ki) (je h (aR (aL q))).1 (je h (aR (aL q))).2))<|
 .cons (λq=>by
  exact .ca ((Q5 (iT q)).trans (by rw[eq_of_beq (aR (kM q))])) (Qh (MX n (of_decide_eq_true (aR (eB q)))) (ha.ex h (aR (aL q))).v (hb.ex h (aR q)).v))<|
 .cons (λq=>by
  exact .ca ((Jr (eB q)).trans (by rw[eq_of_beq (aR (aL q))])) (Qt (ha.ex h (aR q)).v))<|
 .cons (λq=>by
  exact .ca ((Jr (eB q)).trans (by rw[eq_of_beq (aR (aL q))])) (Qu (ha.ex h (aR q))))<|
 .cons (λq=>by
  obtain⟨y,e,q4⟩:=pq<|aR q
  exact .ca ((CS (kM q)).trans (by rw[eq_of_beq (aR (eB q)),e,((oQ (aL q4)).trans (by rw[eq_of_beq (aR q4)]))])) (Qo (ha.ex h (aR (aL q))).v))<|
 .cons (λq=>by
  obtain⟨y,e,q5⟩:=pq<|aR q
  exact .ca ((CS (iT q)).trans (by rw[eq_of_beq (aR (kM q)),e])) (VS (ya G.1.1 G.3.u n (of_decide_eq_true (aR (eB q)))) (nt (aL q5)) (ha.ex h (aR (aL q))).v (hb.ex h (aR q5)).v))<|
 .cons (λq=>by
  obtain⟨y,y',e,q6⟩:=Ew<|aR q
  exact .ca ((CS (iT (aL q))).trans (by rw[eq_of_beq (aR (iT q)),e])) (VQ (ya G.1.1 G.3.u n (of_decide_eq_true (aR (kM q)))) (ya G.1.1 G.3.u m (of_decide_eq_true (aR (eB q)))) (nt (eB q6)) (ha.ex h (aR (aL q))).v (hb.ex h (aR (aL q6))).v (hc.ex h (aR q6)).v))<|
 .cons (λq=>by
  exact .ca ((Q6 (eB q)).trans (by rw[eq_of_beq (aR (aL q))])) (Qi (ha.op n _ h (aR q))))<|
 .cons (λq=>by
  exact .ca (eL (kM q)) (VV (ha.ex h (aR (eB q))) (hb.ex h (aR (aL q))) (hc.ex h (aR q))))<|
 .cons (λq=>by
  exact .ca (eL (eB q)) (Qw (ha.li _ h (aR q)) (of_decide_eq_true (aR (aL q)))))<|
 .cons (λq=>by
  exact .ca (eL (eB q)) (Qq (ha.li _ h (aR q)) (of_decide_eq_true (aR (aL q)))))<|
 .cons (λq=>by
  rcases n with _|_|_|n
  ·exact .ca ((CT<|aL q).trans (by rw[emp<|aR<|eB<|aR q,emp<|aR<|aL<|aR q])) (by rw[xE<|rz q,emp<|kM<|aR q];exact Qk)
  ·skip
   exact .ca (CT<|aL q)<|Ql (ha.li _ h<|aR<|iT<|aR q) (ha.sp _ _ h (aR<|iT<|aR q) (Jx _ _<|iT<|aL<|aR q)<|eq_of_beq<|aR<|kM<|aR q) (Jx _ _<|iT<|aL<|aR q) (eq_of_beq<|aR<|kM<|aR q) (bne_iff_ne.mp<|aR<|eB<|aR q) (of_decide_eq_true<|aR<|aL<|aR q)<|of_decide_eq_true<|rz q
  ·exact .ca ((CT<|aL q).trans (by rw[emp<|eB<|aR q,emp<|aR<|aL<|aR q])) (by rw[xE<|rz q];exact Qm)
  ·induction n<;>exact ff (aR q))<|
 .cons (λq=>by
  exact .ca ((qU (iT q)).trans (by rw[eq_of_beq (aR (kM q))])) (VO G.1.2 (of_decide_eq_true (aR (eB q))) (IQ (aR (aL q))) (ha.ex h (aR q)).v))<|
 .cons (λq=>by
  exact .ca (eL (eB q)) (VW G.1.1 (ha.ex h (aR (aL q))).v (hb.ex h (aR q))))<|
 .cons (λq=>by
  obtain⟨y,e,q6⟩:=xZ<|aR q
  exact .ca ((oR (iT (aL q))).trans (by rw[((Jq (aR (kM q))).trans (by rw[e,ah.mp (aR (eB q)),ah.mp (aR (aL q))]))])) (VZ (ha.ex h (aR (iT q))).v (hb.ex h q6).v))<|
 .cons (λq=>by
  obtain⟨y,e,q6⟩:=xZ<|aR q
  exact .ca ((oR (iT (aL q))).trans (by rw[((Jq (aR (kM q))).trans (by rw[e,ah.mp (aR (eB q)),ah.mp (aR (aL q))]))])) (V0 G.4 (ha.ex h (aR (iT q))).v (hb.ex h q6).v))<|
 .cons (λq=>by
  have g:=G.1.5 _ _<|aR q
  exact .ca (yT (iT q) (aR (eB q))) (VU h.3 G.2 G.3 g.1 g.2 (je h (aR (aL q))).1 (je h (aR (aL q))).2 (ha.li _ h (aR (kM q)))))<|
 .cons (λq=>by
  have g:=G.1.6 _ _<|aR q
  exact .ca (yT (iT q) (aR (eB q))) (VY h.3 G.1.2 g.1 G.2 G.3 g.2 (je h (aR (aL q))).1 (je h (aR (aL q))).2 (ha.li _ h (aR (kM q)))))<|
 .cons (λq=>by
  exact .ca ((Q7 (iT (iT (aL q))) (aR (iT (kM q)))).trans (by rw[eq_of_beq (aR (iT (eB q)))])) (VX h.3 G.1.1 G.1.2 G.2 G.3 (of_decide_eq_true (aR (iT (aL q)))) (IQ (aR (iT q))) (aR (eB q)) (of_decide_eq_true (aR (aL q))) (aR q) (ha.ex h (aR (kM q))).v (hb.li _ h (aR (iT (iT q))))))<|
 .cons (λq=>by
  obtain⟨y,e,q6⟩:=pq<|aR q
  have g:=G.1.7 _ _<|aR<|aL q
  exact .ca ((yT (iT q) (aR (kM q))).trans (by rw[e])) (VP G.3.1 g.2 (je h (aR (eB q))).1 (je h (aR (eB q))).2 g.1 (ha.ex h q6)))<|
 .cons (λq=>by
  obtain⟨tg,it,ifs,e,q0⟩:=Jk<|aR q
  have hn:=eq_of_beq<|iT<|aL q0
  subst hn
  have kd (L:ό) (cl:List (ak×ό)):=Ce (cl:=cl) (L:=L) (sc:=(vw x).sc) (tgs:=HY tg) h.2 h.1
  have h' (L:ό) (cl:List (ak×ό)):Hy X (F.inner (vw x).sc<|HY tg) (compEnvC (vw x).sc cl L pe):=⟨kd L cl,(xd<|aR<|iT q0).1,h.3⟩
  exact .ca ((yU (aL q)).trans (by rw[e])) (VT G.1.1 G.3.1 h.1 (xd (aR (iT q0))) (hb.so h (aR (kM q0))) (λL cl=>(D7 _).3 ⟨kd L cl,.head _,λz=>ff z.symm⟩ (aR (eB q0))) (λL cl=>(ha.ex (h' L cl) (aR (aL q0))).v) λL cl=>hc.co (h' L cl) (aR q0)))<|
 .cons (λq=>by
  obtain⟨y,g,V⟩:=G.1.4 _ _<|aR q
  exact .ca (gR (eB q)) (I8 g V (je h (aR (aL q))).1 (je h (aR (aL q))).2)) .nil
variable{t:Nat}{f:FS}
theorem XE.ca{x y:fB}(e:x=y)(h:XE C A F pe f (exec y pe)):XE C A F pe f (exec x pe):=e▸h
noncomputable def j6:FS:=λ_ _ _=>none
noncomputable def Xv(X:Cx)(n:Nat)(a b c:E):List FS:=ϕ (α:=FS) j6<|ϕ (α:=FS) j6<|ϕ (α:=FS) j6<|ϕ (α:=FS) j6<|ϕ (α:=FS) j6<|ϕ (α:=FS) j6<|ϕ (α:=FS) j6<|ϕ (α:=FS) j6<|ϕ (α:=FS) j6<|ϕ (α:=FS) j6<|ϕ (α:=FS) j6<|ϕ (α:=FS) j6<|ϕ (α:=FS) j6<|ϕ (α:=FS) j6<|ϕ (α:=FS) j6<|ϕ (α:=FS) j6<|ϕ (α:=FS) j6<|ϕ (α:=FS) j6<|ϕ (α:=FS) j6<|ϕ (α:=FS) j6<|ϕ (α:=FS) j6<|ϕ (α:=FS) j6<|ϕ (α:=FS) j6<|ϕ (α:=FS) j6<|ϕ (α:=FS) j6<|ϕ (α:=FS) j6<|ϕ (α:=FS) j6<|ϕ (α:=FS) (λenv H K=>wE X a env H<|AB env K)<|ϕ (α:=FS) (λenv H K=>wE X b env H<|CX (wT X a env) K)<|ϕ (α:=FS) (λenv H K=>OD (wE X b env) n env H K env[n]?)<|ϕ (α:=FS) (λenv H K=>wE X a env H<|kEx env K)<|ϕ (α:=FS) (λenv H K=>wE X a env H<|iH (wX X b env) (wX X c env) K)<|ϕ (α:=FS) (λenv H K=>Ii (wE X a) (wX X b) env H K)<|ϕ (α:=FS) (λenv H K=>wS X b env H<|lq a (wX X c) env K)<|ϕ (α:=FS) (λenv H K=>K .brk env H)<|ϕ (α:=FS) (λenv H K=>K .cont env H)<|ϕ (α:=FS) j6<|ϕ (α:=FS) (λenv H K=>mT n env H K)<|ϕ (α:=FS) j6<|ϕ (α:=FS) j6<|ϕ (α:=FS) (λenv H K=>wE X a env H<|Rp (wE X b env) (wE X c env) X.k env K)<|ϕ (α:=FS) j6<|ϕ (α:=FS) (λenv H K=>wE X a env H<|GR env K)<|[]
theorem TH{R:Type}(env:Env)(H:Hp)(K:KS R):wX X (.n (t+1) n m k a b c) env H K=G4 (α:=FS) t (Xv X n a b c) (λ_ _ _=>none) env H K:=zm (α:=FS) (λf=>f env H K) (λ_ _ _=>none) t<|Xv X n a b c
theorem EP{s:Kh vq}:XE C A F pe (λ_ _ _=>none) s:=⟨λe=>Ϝ e,λe=>Ϝ e⟩
theorem uL(h:Hy X F pe):OZ F pe (fY pe) false:=⟨h.1,.head _,λ_ _ m=>.tail _ m⟩
theorem Tp{P:E->Prop}{own:List ό}(T:TG F pe own a (.Name id p))(k: ∀i m k a' b' c',Bq F pe own i id->P (.n 5 i m k a' b' c')):P a:=by
 cases T with
 |nm s=>exact k _ _ _ _ _ _ s
theorem VM{y:Ϛ}(h:(b.tag==2)=true)(q:(ck b).ex F y=true): ∃j,y= .Constant (.str<|txt j) (vw y).n (vw y).p:=by
 obtain⟨j,_,_,_,_,_,rfl⟩:=LW h rfl
 exact⟨j,(oQ<|eB q).trans (by rw[eq_of_beq<|aR<|aL q])⟩
theorem HO(G:Gy C A X N)(ha:jW C A X a)(hb:jW C A X b)(hc:jW C A X c)(h:Hy X F pe)(x:fB):F2 (λ(q:Bool) (f:FS)=>q=true->XE C A F pe f (exec x pe)) (Xw n a b (ck a) (ck b) (ck c) F<|sw x) (Xv X n a b c):=
 .cons (λq=>ff q)<| .cons (λq=>ff q)<| .cons (λq=>ff q)<| .cons (λq=>ff q)<| .cons (λq=>ff q)<| .cons (λq=>ff q)<| .cons (λq=>ff q)<| .cons (λq=>ff q)<| .cons (λq=>ff q)<|
 .cons (λq=>ff q)<| .cons (λq=>ff q)<| .cons (λq=>ff q)<| .cons (λq=>ff q)<| .cons (λq=>ff q)<| .cons (λq=>ff q)<| .cons (λq=>ff q)<| .cons (λq=>ff q)<| .cons (λq=>ff q)<|
 .cons (λq=>ff q)<| .cons (λq=>ff q)<| .cons (λq=>ff q)<| .cons (λq=>ff q)<| .cons (λq=>ff q)<| .cons (λq=>ff q)<| .cons (λq=>ff q)<| .cons (λq=>ff q)<| .cons (λq=>ff q)<|
 .cons (λq=>by
  have e1:x= .Return (sw x).e (sw x).p:=jk<|aL q
  rcases pY (aR q) with q|q
  ·exact ye (P:=λa=>XE C A F pe (λenv H K=>wE X a env H<|AB env K)<|exec x pe) (aR q) rfl λ_ _ _ _ _ _=>.ca (e1.trans (by rw[ah.mp<|aL q])) N5
  ·refine Mz q λy e q=>?_
   exact .ca (e1.trans (by rw[e])) (N6 (ha.ex h q).v))<|
 .cons (λq=>by
  refine pg (aR q) λtg e q0=>?_
  have e1:=(show x= .Assign (sw x).l (sw x).a (sw x).p from jk (aL q)).trans (by rw[e])
  rcases pY (aR q0) with q|q
  ·have sd:=S1 (pe:=pe) (aL q) (sw x).p.line
   exact .ca e1<|T7 sd.1 sd.2 sd.3 (hb.ex h<|aL q0).v<|ha.ta h<|aR q
  ·have T:=(D7 _).3 (uL h)<|aR<|eB q
   rw[gR<|aR<|kM q] at T
   exact Tp (P:=λa=>XE C A F pe (λenv H K=>wE X b env H (CX (wT X a env) K)) (exec x pe)) T λ_ _ _ _ _ _ s=>.ca (e1.trans (congrArg (λy=>Ol [y] (sw x).a (sw x).p) (gR (aR (kM q))))) (hb.ac h (aL q0) (aR q) s (aR (aL q))))<|
 .cons (λq=>by
  exact .ca ((show x= .AugAssign (sw x).a (sw x).o (sw x).b (sw x).p from jk (iT (aL q))).trans (by rw[eq_of_beq (aR (iT q))];exact congrArg (λy=>p9 y .Add (sw x).b (sw x).p) (gR (aR (kM q))))) (T9 (sZ (uL h) (aR (eB q))) (nt (aR (aL q))) (hb.ex h (aR q)).v))<|
 .cons (λq=>by
  exact .ca (jk (kM q)) (XO (zH (aR (aL q)) (aR q) _ _) (ha.ex h (aR (eB q))).v))<|
 .cons (λq=>by
  exact .ca (jk (kM q)) (XQ (ha.ex h (aR (eB q))) (hb.bl _ h (aR (aL q))) (hc.bl _ h (aR q))))<|
 .cons (λq=>by
  exact .ca ((show x= .While (sw x).a (sw x).x (sw x).y (sw x).p from jk (kM q)).trans (by rw[emp (aR q)])) (Ul (ha.ex h (aR (eB q))) (hb.bl _ h (aR (aL q)))))<|
 .cons (λq=>by
  exact .ca ((show x= .For (sw x).a (sw x).b (sw x).x (sw x).y (sw x).p from jk (iT q)).trans (by rw[emp (aR q)])) (Ue G.1.1 G.3.1 ((D7 _).3 (uL h) (aR (kM q))) (hb.so h (aR (eB q))) (hc.bl _ h (aR (aL q)))))<|
 .cons (λq=>.ca (jk q) Ua)<|
 .cons (λq=>.ca (jk q) Uc)<|
 .cons (λq=>EP)<| .cons (λq=>ff q)<| .cons (λq=>ff q)<| .cons (λq=>ff q)<|
 .cons (λq=>by
  obtain⟨j,z⟩:=VM (aR<|eB q)<|aR<|aL q
  have hb2:=(hb.ex h<|aR<|aL q).v
  rw[z] at hb2
  exact .ca ((show x= .AugAssign (sw x).a (sw x).o (sw x).b (sw x).p from jk (iT (eB q))).trans (by
   rw[eq_of_beq<|aR<|iT<|aL q]
   exact(congrArg (λy=>p9 y .Add (sw x).b (sw x).p) (oR (aR (iT q)))).trans (congrArg (λy=>p9 (.Subscript (vw (sw x).a).a y (vw (sw x).a).p) .Add (sw x).b (sw x).p) z))) (T6 h.3 G.1.1 G.3 (ha.ex h (aR (kM q))).v hb2 (hc.ex h (aR q)).v))<|
 .cons (λq=>ff q)<|
 .cons (λq=>by
  exact .ca ((show x= .If (sw x).a (sw x).x (sw x).y (sw x).p from jk (eB q)).trans (by rw[emp (aR q)])) (T8 (ha.ex h (aR (aL q))))) .nil
theorem ST.cg{f g:FE}{x:Ϛ}(e: ∀{R:Type}(env:Env)(H:Hp)(K:KV R),f env H K=g env H K)(h:ST C A F pe g x):ST C A F pe f x:=by
 have: @f= @g:=by funext R env H K;exact e env H K
 subst this;exact h
theorem XE.cg{f g:FS}{s:Kh vq}(e: ∀{R:Type}(env:Env)(H:Hp)(K:KS R),f env H K=g env H K)(h:XE C A F pe g s):XE C A F pe f s:=by
 have: @f= @g:=by funext R env H K;exact e env H K
 subst this;exact h
theorem HK:jW C A X .nil where
 ex _ q:=ff q
 li l _ q:=by rw[emp q];exact RB
 op n l _ q:=ff q
 sp l pos _ q k e:=by
  cases emp q
  induction k with
  |nil=>exact R_
  |cons _ _=>cases e
 so _ q:=ff q
 co _ q:=by rw[emp q];exact PX
 ta _ q:=ff q
 ac _ q:=ff q
 st _ q:=ff q
 bl l _ q:=by rw[emp q];exact Uh
theorem Hi{x:Ϛ}{nm:ak}(q:JN F (vw x) nm=true):x= .Call (.Name nm (vw (vw x).a).p) (vw x).l [] (vw x).p:=(yT (kM q)<|aR<|eB q).trans (by rw[eq_of_beq<|aR<|aL q])
theorem u7{x:Ϛ}{nm:ak}(h:Hy X F pe)(q:JN F (vw x) nm=true):pe.kindOf nm=some .globalImplicit/\(nm==("__debug__":ak))=false:=je h<|aR q
section
variable{t':Nat}{x:Ϛ}
theorem D8(e:t=t')(h:SS C A F pe (λenv H K=>wS X (.n t' n m k a b c) env H K) x):SS C A F pe (λenv H K=>wS X (.n t n m k a b c) env H K) x:=e▸h
theorem zI(e:t=t')(h:AZ C A F pe (λv env H K=>wT X (.n t' n m k a b c) env v H K) x):AZ C A F pe (λv env H K=>wT X (.n t n m k a b c) env v H K) x:=e▸h
theorem PL{l:List fB}(e:t=t')(h:XE C A F pe (λenv H K=>wX X (.n t' n m k a b c) env H K) (execs l pe)):XE C A F pe (λenv H K=>wX X (.n t n m k a b c) env H K) (execs l pe):=e▸h
end
theorem Nn(G:Gy C A X N)(ha:jW C A X a)(hb:jW C A X b){x:Ϛ}(h:Hy X F pe)(q:((t==39&&(ck a).ex F x)||(t==40&&JN F (vw x) "range"&&((a.fN&&one (vw x).l λy=>(ck b).ex F y)||(!a.fN&&two (vw x).l λy z=>(ck a).ex F y&&(ck b).ex F z)))||(t==42&&JN F (vw x) "range"&&one (vw x).l λy=>JN F (vw y) "len"&&one (vw y).l λz=>(ck a).ex F z))=true):SS C A F pe (λenv H K=>wS X (.n t n m k a b c) env H K) x:=
 (pY q).elim (λq=>(pY q).elim (λq=>D8 (eq_of_beq (aL q)) (Xl G.1.1 (ha.ex h (aR q)))) λq=>D8 (eq_of_beq (eB q)) ((pY (aR q)).elim (λr=>pg (aR r) λy e2 q4=>by
  rw[xE<|aL r]
  exact .ca ((Hi (aR (aL q))).trans (congrArg (λl=>jM _ l [] _) e2)) (SM G.1.8 (u7 h (aR (aL q))).1 (u7 h (aR (aL q))).2 (hb.ex h q4))) λr=>NQ (aR r) λy y' e2 q4=>by
  cases a with
  |nil=>exact ff<|aL r
  |n _ _ _ _ _ _ _=>exact .ca ((Hi (aR (aL q))).trans (congrArg (λl=>jM _ l [] _) e2)) (Xm G.1.8 (u7 h (aR (aL q))).1 (u7 h (aR (aL q))).2 (ha.ex h (aL q4)) (hb.ex h (aR q4))))) λq=>D8 (eq_of_beq (eB q)) (pg (aR q) λy e2 q4=>pg (aR q4) λy' e4 q5=>
   .ca ((Hi (aR (aL q))).trans (congrArg (λl=>jM _ l [] _) (e2.trans (congrArg (λy=>[y]) ((Hi (aL q4)).trans (congrArg (λl=>jM _ l [] _) e4)))))) (Xn G.1.8 (u7 h (aR (aL q))).1 (u7 h (aR (aL q))).2 (G.1.7 0 "len" rfl).2 (u7 h (aL q4)).1 (u7 h (aL q4)).2 (ha.ex h q5)))
theorem Ny(G:Gy C A X N)(ha:jW C A X a)(hb:jW C A X b){x:Ϛ}(h:Hy X F pe)(q:((t==5&&(vw x).t==2&&OQ F false n (vw x).s)||(t==15&&(vw x).t==8&&(IW a).tn F false (vw x).l)||(t==18&&(vw x).t==11&&(vw x).s==txt n&&decide (n<c7)&&(ck a).ex F (vw x).a)||(t==19&&(vw x).t==12&&(ck a).ex F (vw x).a&&(ck b).ex F (vw x).b))=true):AZ C A F pe (λv env H K=>wT X (.n t n m k a b c) env v H K) x:=
 (pY q).elim (λq=>(pY q).elim (λq=>(pY q).elim (λq=>zI (eq_of_beq (eB q)) (.ca (gR (aR (aL q))) (Ve (sZ (uL h) (aR q)))))
  λq=>zI (eq_of_beq (eB q)) (.ca (CU (aR (aL q))) (Vf G.1.1 G.3.1 ((D7 _).2 _ (uL h) (aR q)))))
  λq=>zI (eq_of_beq (iT q)) (.ca ((qU (aR (kM q))).trans (by rw[eq_of_beq (aR (eB q))])) (Vc h.3 G.1.2 (of_decide_eq_true (aR (aL q))) (ha.ex h (aR q)).v)))
  λq=>zI (eq_of_beq<|kM q)<|.ca (oR<|aR<|eB q)<|Vd h.3 G.3 (ha.ex h<|aR<|aL q).v (hb.ex h<|aR q).v
theorem Nf(G:Gy C A X N)(ha:jW C A X a)(hb:jW C A X b)(hc:jW C A X c){v:Ϛ}{i:Nat}{id:ak}{p2 pos:gB}(h:Hy X F pe)(q:VG (ck a) (ck b) (ck c) n m F (vw v)=true)(s:Bq F pe (fY pe) i id)(q3:UY F id p2 v=true):XE C A F pe (λenv H K=>wE X (.n 26 n m k a b c) env H<|CX (λv H K=>K .next (env.set i<|some v) H) K) (exec (.Assign [.Name id p2] v pos) pe):=by
 refine QN (aR q) λtg it ifs e r=>?_
 have co:=xd<|aR<|iT r
 have kd (L:ό) (cl:List (ak×ό)):=Ce (cl:=cl) (L:=L) (sc:=(vw v).sc) (tgs:=HY tg) h.2 h.1
 have h' (L:ό) (cl:List (ak×ό)):Hy X (F.inner (vw v).sc<|HY tg) (compEnvC (vw v).sc cl L pe):=⟨kd L cl,co.1,h.3⟩
 have ev:=(yU<|aL q).trans (by rw[e])
 have hs:=NJ h.1 h.2 q3 pos.line
 rw[ev] at hs
 have t4:=aR<|eB r
 rw[<-(eq_of_beq<|iT<|aL r)] at t4⊢
 exact .ca (congrArg (λy=>Ol [.Name id p2] y pos) ev)<|N1 s G.1.1 G.3.1 h.1 co (hb.so h<|aR<|kM r) (λL cl=>(D7 _).3 ⟨kd L cl,.head _,λz=>ff z.symm⟩ t4) (λL cl=>(ha.ex (h' L cl)<|aR<|aL r).v) (λL cl=>hc.co (h' L cl)<|aR r) hs
theorem Nh(hb:jW C A X b)(ha:jW C A X a)(l:List fB)(h:Hy X F pe)(q:(t==0&&((a.tag==37)||(a.tag==38&&(ck b).bl F l)|| @az _ (λ_=>Bool) l false λx l=>(ck a).st F x&&(ck b).bl F l))=true):XE C A F pe (λenv H K=>wX X (.n t n m k a b c) env H K) (execs l pe):=
 PL (eq_of_beq (aL q)) ((pY (aR q)).elim (λr=>(pY r).elim (λr=>ye (P:=λa=>XE C A F pe (λenv H K=>wX X (.n 0 n m k a b c) env H K) (execs l pe)) r rfl λ_ _ _ _ _ _=>EP) λr=>ye (P:=λa=>XE C A F pe (λenv H K=>wX X (.n 0 n m k a b c) env H K) (execs l pe)) (aL r) rfl λ_ _ _ _ _ _=>Ug (hb.bl l h (aR r))) λr=>by
  induction l with
  |nil=>exact ff r
  |cons x l=>exact N2 (ha.st h (aL r)) (hb.bl l h (aR r)))
theorem Nk(ha:jW C A X a)(hb:jW C A X b)(i:Nat)(l:List Ϛ)(h:Hy X F pe)(q:(@az _ (λ_=>Bool) l false λx l=>(ck a).ex F x&&(bif b.fN then l.isEmpty else !l.isEmpty&&(ck b).op i F l))=true):SO C A F pe i (λenv H K=>wO X (.n t n m k a b c) i env H K) l:=by
 cases l with
 |nil=>exact ff q
 |cons x l=>
  have q1:=aL q
  have q2:=aR q
  clear q
  cases b with
  |nil=>rw[emp q2];exact Nz<|ha.ex h q1
  |n t' n' m' k' a' b' c'=>
   obtain⟨q3,q4⟩:=an q2
   cases l with
   |nil=>exact ff q3
   |cons y l=>exact HM (ha.ex h q1)<|hb.op i _ h q4
noncomputable abbrev YH(a b:E)(F:Fn)(l:List Ϛ):Bool:=@az _ (λ_=>Bool) l false λx l=>(ck a).ex F x&&(ck b).li F l
theorem Nj(ha:jW C A X a)(hb:jW C A X b)(l:List Ϛ)(h:Hy X F pe)(q:YH a b F l=true):SL C A F pe (λenv H K=>wL X (.n t n m k a b c) env H K) l:=by
 induction l with
 |nil=>exact ff q
 |cons x l=>exact Me (ha.ex h<|@aL ((ck a).ex F x) ((ck b).li F l) q)<|hb.li l h<|@aR ((ck a).ex F x) ((ck b).li F l) q
theorem Nr(ha:jW C A X a)(hb:jW C A X b){ks:List Nat}{kx:List (Option Ϛ)}(l:List Ϛ)(pos:gB)(h:Hy X F pe)(q:YH a b F l=true)(k0:KE ks kx)(e:kx.length=l.length):SP C A F pe (λenv H K=>wL X (.n t n m k a b c) env H K) ks kx l pos:=by
 induction l with
 |nil=>exact ff q
 |cons x l=>
  have q1:=@aL _ ((ck b).li F l) q
  have q2:=@aR ((ck a).ex F x) _ q
  clear q
  induction k0 with
  |nil=>cases e
  |cons _ k=>exact MA (ha.ex h q1).v (hb.li l h q2)<|hb.sp l pos h q2 k<|gJ e
theorem Pp{t':Nat}{s:Kh vq}{i:Nat}(e:t=t')(h:XE C A F pe (λenv H K=>wE X (.n t' n m k a b c) env H<|CX (λv H K=>K .next (env.set i<|some v) H) K) s):XE C A F pe (λenv H K=>wE X (.n t n m k a b c) env H<|CX (λv H K=>K .next (env.set i<|some v) H) K) s:=e▸h
theorem VF{t':Nat}{v:Ϛ}(e:t'=26)(q:(ck<|.n t' n m k a b c).ex F v=true):VG (ck a) (ck b) (ck c) n m F (vw v)=true:=by subst e;exact q
theorem Nv(G:Gy C A X N)(ha:jW C A X a)(hb:jW C A X b)(hc:jW C A X c){x:fB}(h:Hy X F pe)(q:num t (false::Xw n a b (ck a) (ck b) (ck c) F (sw x)) false=true):XE C A F pe (λenv H K=>wX X (.n t n m k a b c) env H K) (exec x pe):=by
 induction t with
 |zero=>exact ff q
 |succ t=>exact .cg TH<|zo (HO G ha hb hc h x) (λq=>ff q) t q
theorem S9(G:Gy C A X N)(ha:jW C A X a)(hb:jW C A X b)(hc:jW C A X c):jW C A X (.n t n m k a b c):=
 ⟨λ{F pe x} h q=>.cg TF (zo (Gn G ha hb hc h x) (λq=>ff q) t q),λl h q=>Nj ha hb l h q,λi l h q=>Nk ha hb i l h q,λl pos h q k e=>Nr ha hb l pos h q k e,λh q=>Nn G ha hb h q,
  λ{F pe l} h q=>pg (f:=λx=>(ck a).ex F x) q λx e q=>e▸PY (ha.ex h q),λh q=>Ny G ha hb h q,λh q1 q2 s q3=>Pp (eq_of_beq (show(t==26)=true from q2)) (Nf G ha hb hc h (VF (eq_of_beq (show(t==26)=true from q2)) q1) s q3),λh q=>Nv G ha hb hc h q,λl h q=>Nh hb ha l h q⟩
theorem HH(G:Gy C A X N)(e:E):jW C A X e:=@E.rec (jW C A X) HK (λ_ _ _ _ _ _ _=>S9 G) e
noncomputable def nK{α:Type}(o:Option α)(f:α->Bool):Bool:=@Bo _ (λ_=>Bool) o false f
theorem aG{α:Type}{o:Option α}{f:α->Bool}(h:nK o f=true): ∃x,o=some x/\f x=true:=by
 induction o with
 |none=>exact ff h
 |some x=>exact⟨x,rfl,h⟩
noncomputable def Ox(d:EU):Option bU:=match d with
 | .func f=>some f
 |_=>none
noncomputable def YS(d:EU):Option (Array χ×Nat):=match d with
 | .seq x n=>some (x,n)
 |_=>none
noncomputable def Qf(d:EU):Option (Array ϧ×Nat):=match d with
 | .dict x n=>some (x,n)
 |_=>none
end
noncomputable def VH(d:EU):Option ClassData:=match d with
 | .cls c=>some c
 |_=>none
noncomputable def Ys(d:EU):Option (Array χ):=match d with
 | .fields c=>some c
 |_=>none
theorem xm{d:EU}{x:bU}(h:Ox d=some x):d= .func x:=by induction d<;>first|exact Ϝ h|exact congrArg _<|ξ h
theorem NC{d:EU}{x:Array χ×Nat}(h:YS d=some x):d= .seq x.1 x.2:=by induction d<;>first|exact Ϝ h|(cases ξ h;rfl)
theorem Cm{d:EU}{x:Array ϧ×Nat}(h:Qf d=some x):d= .dict x.1 x.2:=by induction d<;>first|exact Ϝ h|(cases ξ h;rfl)
theorem KX{d:EU}{x:ClassData}(h:VH d=some x):d= .cls x:=by induction d<;>first|exact Ϝ h|exact congrArg _<|ξ h
theorem Ln{d:EU}{x:Array χ}(h:Ys d=some x):d= .fields x:=by induction d<;>first|exact Ϝ h|exact congrArg _<|ξ h
noncomputable def OO(o:e9)(c:String):Bool:=o.cls== .type c&&o.dict.isNone&&o.slots==#[]
theorem zu{o:e9}{c:String}(h:OO o c=true):o={cls:=.type c,data:=o.data}:=by
 cases a3 h with
 |mk a b c=>
  obtain⟨o1,o2,o3,o4⟩:=o
  cases eq_of_beq a
  cases ah.mp b
  cases eq_of_beq c
  rfl
noncomputable def Qc(q:ό->Option e9)(c:χ)(n:ak):Bool:=match c with
 | .ref a=>nK (q a) λo=>nK (Ys o.data) λv=>nK (v.toList[1]?) λx=>match x with
  | .str s _=>s==n
  |_=>false
 |_=>false
noncomputable def JD(fd:bU):List ak:=(fd.scope.names.filter λx=>x.2== .local||x.2== .cell).map (·.1)
noncomputable def Zb(q:ό->Option e9)(ar l:Nat)(b:E)(fd:bU):List Bool:=[fd.scope.kind== .function,!fd.scope.isGenerator,!fd.scope.isCoroutine,fd.globals==mainGlobals,fd.closure.isEmpty,fd.builtins==builtinsNs,
 fd.params.posonlyargs.isEmpty,fd.params.vararg.isNone,fd.params.kwonlyargs.isEmpty,fd.params.kwarg.isNone,fd.defaults== .none,Qc q fd.code fd.qualname,
 pn fd.params.args==(JD fd).take ar,decide (JD fd).Nodup,(JD fd).length==ar+l,(JD fd).all λn=>fd.scope.names.lookup n==some .local||fd.scope.names.lookup n==some .cell,
 fd.scope.names.all λx=>!(x.2== .cell)||((cellsFrom 0 fd.scope.names []).map (·.1)).contains x.1,decide ((cellsFrom 0 fd.scope.names []).map (·.1)).Nodup,
 match fd.body with
  | .stmts y=>(ck b).bl (Oz fd (JD fd) true) y&&(ck b).bl (Oz fd (JD fd) false) y
  |_=>false]
noncomputable def Zc(q:ό->Option e9)(f ar l:Nat)(b:E):Bool:=nK (q<|kE f) λo=>OO o "function"&&nK (Ox o.data) λfd=>(Zb q ar l b fd).all id
noncomputable def V9(q:ό->Option e9):Bool:=(ϗ 100).all λf=>nK (jJ f) λt=>Zc q f t.1 t.2.1 t.2.2
noncomputable def Wm(x:HS)(a:ό):Option e9:=match Nat.blt a x.n with
 |true=>(x.tree.get a).bind alive
 |false=>none
noncomputable def gx(P:bz):ό->Option e9:=Wm<|X1 P
theorem LB{x:HS}{a:ό}{o:e9}(h:Wm x a=some o):(absHeap x.tree x.n {}).get? a=some o:=by
 unfold Wm at h
 cases e:Nat.blt a x.n with
 |false=>rw[e] at h;exact Ϝ h
 |true=>
  rw[e] at h
  obtain⟨x,e1,e2⟩:=dG h
  exact(abs_get (by exact Nat.blt_eq.mp e) e1).trans e2
theorem CK{P:bz}{a:ό}{o:e9}(h:gx P a=some o):(HF P).get? a=some o:=LB h
theorem Gs(P:bz):V9 (gx P)=true:=by kernel_rfl
section
variable{C:Ctx}{f ar l:Nat}{b:E}{s:List Int}{fd:bU}
theorem My{α:Type}{z:α}: ∀(n:Nat)(l:List α),l.length<=n->num n l z=z:=λn=>by
 induction n with
 |zero=>exact λl h=>by induction l with|nil=>rfl|cons _ _=>exact absurd h<|Nat.not_succ_le_zero _
 |succ n ih=>
  intro l h
  induction l with
  |nil=>rfl
  |cons a l=>exact ih l<|iR h
theorem k7{a:ό}{o:e9}(h:gx C.w.params a=some o):C.s.heap.get? a=some o:=C.old _ _<|CK h
theorem K5{c:χ}{n:ak}(h:Qc (gx C.w.params) c n=true):C.s.heap.CodeRec c n:=by
 induction c with
 |ref a=>
  obtain⟨o,e1,h⟩:=aG h
  obtain⟨v,e2,h⟩:=aG h
  obtain⟨x,e3,h⟩:=aG h
  induction x with
  |str s t=>
   cases eq_of_beq (show(s==n)=true from h)
   exact⟨a,o,v,t,rfl,k7 e1,Ln e2,aF.symm.trans e3⟩
  |_=>exact ff h
 |_=>exact ff h
theorem fN{α:Type}{o:Option α}(h:o.isNone=true):o=none:=ah.mp h
noncomputable def QC(fd:bU)(a:List Arg)(b:Option Arg)(c:List Arg)(d:Option Arg)(e:χ):bU:={fd with params:={fd.params with posonlyargs:=a,vararg:=b,kwonlyargs:=c,kwarg:=d},defaults:=e}
theorem Gp:fd=QC fd fd.params.posonlyargs fd.params.vararg fd.params.kwonlyargs fd.params.kwarg fd.defaults:=@FuncData.casesOn (λfd=>fd=QC fd fd.params.posonlyargs fd.params.vararg fd.params.kwonlyargs fd.params.kwarg fd.defaults) fd λ_ _ p _ _ _ _ _ _ _ _ _ _ _ _=>@XT (λp=>EV _ _ p _ _ _ _ _ _ _ _ _ _ _ _=QC (EV _ _ p _ _ _ _ _ _ _ _ _ _ _ _) p.posonlyargs p.vararg p.kwonlyargs p.kwarg _) p λ_ _ _ _ _ _ _=>rfl
theorem Lm(h1:fd.params.posonlyargs=[])(h2:fd.params.vararg=none)(h3:fd.params.kwonlyargs=[])(h4:fd.params.kwarg=none)(h5:fd.defaults= .none):fd=UL fd.params.args fd:=by
 have e:QC fd fd.params.posonlyargs fd.params.vararg fd.params.kwonlyargs fd.params.kwarg fd.defaults=QC fd [] none [] none .none:=by rw[h1,h2,h3,h4,h5]
 exact Gp.trans e
theorem F8(tb:Tb C)(sc:Pb C s)(hf:jJ f=some (ar,l,b)): ∃p r ns body,BodyOk C s f ar l b p r ns body:=by
 have hl:f<100:=by
  rcases mL f 100 with h|h
  ·exact h
  ·exact Ϝ<|(My f (QJ.map some) h).symm.trans hf
 obtain⟨t,e,h⟩:=aG<|ϐ.mp (Gs C.w.params) f<|ϭ.mpr hl
 cases ξ (hf.symm.trans e)
 obtain⟨o,e1,h⟩:=aG h
 obtain⟨h0,h⟩:=an h
 obtain⟨fd,e2,h⟩:=aG h
 have ho:=zu h0
 rw[xm e2] at ho
 have h':=(aL<|aR<|aR<|aR<|aR<|aR<|aR<|aR<|aR<|aR<|aR<|aR<|aR<|aR<|aR<|aR<|aR<|aR<|aR h)
 cases hb:fd.body with
 |expr y=>rw[hb] at h';exact ff h'
 |stmts y=>
  rw[hb] at h'
  exact⟨fd.params.args,fd,JD fd,y,⟨⟨((k7 e1).trans (congrArg some ho)).trans (congrArg (λz=>some (Uz (.type "function") none (.func z) #[])) (Lm (fd:=fd) (emp (aL (aR (aR (aR (aR (aR (aR h)))))))) (fN (aL (aR (aR (aR (aR (aR (aR (aR h))))))))) (emp (aL (aR (aR (aR (aR (aR (aR (aR (aR h)))))))))) (fN (aL (aR (aR (aR (aR (aR (aR (aR (aR (aR h))))))))))) (eq_of_beq (aL (aR (aR (aR (aR (aR (aR (aR (aR (aR (aR h)))))))))))))),K5 (aL (aR (aR (aR (aR (aR (aR (aR (aR (aR (aR (aR h)))))))))))),eq_of_beq (aL h),nt (aL (aR h)),nt (aL (aR (aR h))),eq_of_beq (aL (aR (aR (aR h)))),emp (aL (aR (aR (aR (aR h))))),eq_of_beq (aL (aR (aR (aR (aR (aR h)))))),eq_of_beq (aL (aR (aR (aR (aR (aR (aR (aR (aR (aR (aR (aR (aR h))))))))))))),of_decide_eq_true (aL (aR (aR (aR (aR (aR (aR (aR (aR (aR (aR (aR (aR (aR h)))))))))))))),eq_of_beq (aL (aR (aR (aR (aR (aR (aR (aR (aR (aR (aR (aR (aR (aR (aR h))))))))))))))),(λn m=>(pY (ϐ.mp (aL (aR (aR (aR (aR (aR (aR (aR (aR (aR (aR (aR (aR (aR (aR (aR h)))))))))))))))) n m)).imp eq_of_beq eq_of_beq: ∀n∈JD fd,fd.scope.names.lookup n=some .local∨fd.scope.names.lookup n=some .cell),λn e=>by
   have z:=(pY<|ϐ.mp (aL<|aR<|aR<|aR<|aR<|aR<|aR<|aR<|aR<|aR<|aR<|aR<|aR<|aR<|aR<|aR<|aR h) _<|gz e).resolve_left λz=>ff z
   exact iX.mp z,of_decide_eq_true (aL (aR (aR (aR (aR (aR (aR (aR (aR (aR (aR (aR (aR (aR (aR (aR (aR (aR h))))))))))))))))))⟩,hb,λX N A pe hs hC kd kf hA=>by
   subst hs
   refine(HH ⟨tb,hC,hA,sc⟩ b).bl y ⟨kd,kf,rfl⟩ ?_
   cases X.k with
   |true=>exact aL h'
   |false=>exact aR h'⟩⟩
noncomputable def Wb(q:ό->Option e9)(a:ό):Frag:=match q a with
 |some o=>(a,o)::match VH o.data with
  |some cd=>(match q cd.ns with
   |some n=>[(cd.ns,n)]
   |none=>[])
  |none=>[]
 |none=>[]
noncomputable def Wd(q:ό->Option e9):Frag:=(Yj++[553,574]).flatMap<|Wb q
noncomputable def Ww(q:ό->Option e9)(a:ό):Bool:=nK (q a) λo=>OO o "function"&&(Ox o.data).isSome
noncomputable def Y8(q:ό->Option e9)(K:Frag)(c:Nat):Bool:=(ϗ 91).all (λn=>findIn K (.ref<|ju c) (txt n)==some ((gT c n).map λf=>.ref<|kE f))&&
 (findIn K (.ref (ju c)) "__getattribute__"==some (some (.builtin "object.__getattribute__"))&&(findIn K (.ref (ju c)) "__getattr__"==some none&&(findIn K (.ref (ju c)) "__setattr__"==some (some (.builtin "object.__setattr__"))&&
 (findIn K (.ref (ju c)) "__init__"==some (some (match dZ c with|some f=>.ref (kE f)|none=>.builtin "object.__init__"))&&(makesIn K (ju c)&&
 nK (q (ju c)) λo=>o.cls== .type "type"&&o.dict.isNone&&nK (VH o.data) λcd=>cd.hasDict&&onlyObject cd.mro)))))
noncomputable def Y_(q:ό->Option e9)(K:Frag):Bool:=(ϗ 101).all (λf=>Ww q<|kE f)&&(ϗ 19).all (Y8 q K)
theorem B9(P:bz):Y_ (gx P) (Wd<|gx P)=true:=by kernel_rfl
variable{q:ό->Option e9}{a b:ό}{o:e9}
theorem sG{β:Type}{n:Nat}{k:β}{l:List (Nat×β)}(e:l.lookup n=some k):(n,k)∈l:=by
 induction l with
 |nil=>exact Ϝ e
 |cons x l ih=>
  rw[aX] at e
  split at e
  ·rename_i q
   cases eq_of_beq q
   cases ξ e
   exact .head _
  ·exact .tail _<|ih e
theorem Ls(m:(a,o)∈Wb q b):q a=some o:=by
 unfold Wb at m
 split at m
 ·rename_i x e
  rcases Θ.mp m with h|h
  ·cases h;exact e
  ·split at h
   ·split at h
    ·rename_i e
     cases υ.mp h;exact e
    ·cases h
   ·cases h
 ·cases m
theorem Jg:(Wd<|gx C.w.params).In C.s.heap:=λa o e=>by
 obtain⟨b,_,m⟩:=m8.mp<|sG e
 exact k7<|Ls m
theorem xF{f:Nat}(h:f<101):vN C (kE f):=by
 obtain⟨o,e,h⟩:=aG<|ϐ.mp (aL<|B9 C.w.params) f<|ϭ.mpr h
 obtain⟨fd,e2⟩:=cU.mp<|aR h
 exact⟨fd,(k7 e).trans<|congrArg some<|(zu<|aL h).trans<|congrArg (λd=>Uz (.type "function") none d #[])<|xm e2⟩
theorem Ml{c n f:Nat}(h:gT c n=some f):f<101:=of_decide_eq_true<|ϐ.mp (show RX.all (λx=>decide<|x.2<101)=true from rfl) _<|sG h
theorem LP{c f:Nat}(h:dZ c=some f):f<101:=of_decide_eq_true<|ϐ.mp (show([(0,0),(1,13),(2,21),(3,22),(4,23),(5,24),(6,27),(18,81)]:List (Nat×Nat)).all (λx=>decide<|x.2<101)=true from rfl) _<|sG h
theorem K1:nQ C:=λc hc=>by
 have h:=ϐ.mp (aR<|B9 C.w.params) c<|ϭ.mpr hc
 have fi {n:ak} {r:Option χ} (e:(findIn (Wd<|gx C.w.params) (.ref<|ju c) n==some r)=true):cO (model pw C.w) C.s.heap (typeLookup (.ref<|ju c) n) r:=looks_findIn Jg<|eq_of_beq e
 obtain⟨h1,h⟩:=an h
 obtain⟨h2,h⟩:=an h
 obtain⟨h3,h⟩:=an h
 obtain⟨h4,h⟩:=an h
 obtain⟨h5,h⟩:=an h
 obtain⟨h6,h⟩:=an h
 obtain⟨o,e1,h⟩:=aG h
 cases a3 h with
 |mk h7 h8 h9=>
  obtain⟨cd,e2,h10⟩:=aG h9
  obtain⟨o1,o2,o3,o4⟩:=o
  cases eq_of_beq h7
  cases fN h8
  cases KX e2
  exact⟨λn hn=>fi<|ϐ.mp h1 n<|ϭ.mpr hn,λn f e=>xF<|Ml e,fi h2,fi h3,fi h4,fi h5,λf e=>xF<|LP e,makes_of Jg h6,⟨cd,o4,k7 e1,(aL h10),(aR h10)⟩⟩
end
noncomputable def vI(q:ό->Option e9)(a:ό)(n:ak):Option χ:=(q a).bind λo=>(Qf o.data).bind λd=>nsFind d.1 n
noncomputable def xC(v:χ)(i:Int):Bool:=match v with
 | .int j _=>j==i
 |_=>false
noncomputable def NO(q:ό->Option e9)(v:χ)(l:List D):Bool:=match v with
 | .ref a=>nK (q a) λo=>OO o "tuple"&&nK (YS o.data) λs=>decide (l.length<=100)&&l.length==s.1.toList.length&&(l.zip s.1.toList).all λx=>match x.1 with
  | .int i=>xC x.2 i
  |_=>false
 |_=>false
noncomputable def Ia(q:ό->Option e9)(v:V)(x:χ):Bool:=match v with
 | .d (.int i)=>xC x i
 | .d (.tup l)=>NO q x l
 | .gd k=>decide (k<3)&&x== .ref (Gw k)
 |_=>false
noncomputable def Qg(q:ό->Option e9)(k:Nat):Bool:=nK (q<|Gw k) λo=>OO o "dict"&&nK (Qf o.data) λd=>(Av k).length==d.1.toList.length&& !(Gw k==sysModules)&&decide ((Av k).map (·.1)).Nodup&&((Av k).zip d.1.toList).all λx=>xC x.2.key x.1.1&&x.2.hash==hashInt x.1.1&&Ia q x.1.2 x.2.val
noncomputable def Zi(q:ό->Option e9):Bool:=
 (QS.all λp=>nK (vI q mainGlobals (ϵ p.1)) λv=>xC v p.2)&&(
 ((ϗ 6).all λn=>nK (QT[n]?) λp=>nK (vI q mainGlobals (ϵ p)) λv=>Ia q (qs n) v)&&(
 ((ϗ 101).all λf=>nK (QK[f]?) λp=>(ϵ p).cps.toList.contains 46||vI q mainGlobals (ϵ p)==some (.ref (kE f)))&&(
 ((ϗ 19).all λc=>nK (P8[c]?) λp=>vI q mainGlobals (ϵ p)==some (.ref (ju c)))&&(
 ((ϗ 5).all λb=>nK (["len","list","list","tuple","max"][b]?) λp=>vI q mainGlobals (ϵ p)==none&&vI q builtinsNs (ϵ p)==some (Ou b))&&(
 (vI q mainGlobals "range"==none&&vI q builtinsNs "range"==some (.type "range"))&&(
 (ϗ 3).all (Qg q)&&((q sysModules).isSome&&((q mainGlobals).isSome&&((q builtinsNs).isSome&&(nK (q cStatics) (λo=>nK (Qf o.data) λd=>d.1.toList.all (λe=>match e.key with| .str _ _=>true|_=>false)&&nsFind d.1 "sys.recursionlimit"==none)&&true))))))))))
theorem CG(P:bz):Zi (gx P)=true:=by kernel_rfl
section
variable{C:Ctx}{g:Sg}{a:ό}{o:e9}{v:V}{x:χ}{n:ak}{l:List D}{i:Int}{k:Nat}{s:List Int}
theorem sA(h:xC x i=true): ∃t,x= .int i t:=by
 induction x with
 |int j t=>exact⟨t,congrArg (Pj · t)<|eq_of_beq h⟩
 |_=>exact ff h
noncomputable abbrev tI(x:D×χ):Bool:=match x.1 with
 | .int i=>xC x.2 i
 |_=>false
theorem GL{z:ό->Prop}{h:ao}(l:List D): ∀m:List χ,l.length=m.length->(l.zip m).all tI=true->bg z h l m:=by
 induction l with
 |nil=>exact λm e _=>by induction m with|nil=>rfl|cons _ _=>cases e
 |cons d l ih=>
  intro m e h
  cases m with
  |nil=>cases e
  |cons y m=>
   refine(an<|show(tI (d,y)&&(l.zip m).all tI)=true from h).elim λh1 h2=>?_
   refine nR ?_ (ih m (gJ e) h2)
   cases d with
   |int i=>exact sA h1
   |_=>exact ff h1
theorem NP(hr:HR C g)(h:NO (gx C.w.params) x l=true):VR C g (.tup l) x:=by
 unfold NO at h
 split at h
 ·refine(aG h).elim λo q_=>q_.elim λe1 h=>?_
  refine(an h).elim λh1 h=>?_
  refine(aG h).elim λq q_=>q_.elim λe2 h=>?_
  induction a3 h with
  |mk h2 h3 h4=>
   have ho:=(k7 e1).trans<|congrArg some<|(zu h1).trans<|congrArg (λd=>Uz (.type "tuple") none d #[])<|NC e2
   exact .mk (hr.old _ _ ho).1 (hr.old _ _ ho).2 (η (of_decide_eq_true h2) (by decide))<|GL _ _ (eq_of_beq h3) h4
 ·exact ff h
theorem EA(hr:HR C g)(h:Ia (gx C.w.params) v x=true):VR C g v x:=by
 induction v with
 |d y=>
  cases y with
  |int i=>exact sA h
  |tup l=>exact NP hr h
  |_=>exact ff h
 |gd k=>
  have h:(decide (k<3)&&x== .ref (Gw k))=true:=h
  exact⟨of_decide_eq_true<|aL h,eq_of_beq<|aR h⟩
 |_=>exact ff h
noncomputable abbrev eI(q:ό->Option e9)(x:(Int×V)×ϧ):Bool:=xC x.2.key x.1.1&&x.2.hash==hashInt x.1.1&&Ia q x.1.2 x.2.val
theorem Gl(hr:HR C g)(l:List (Int×V)): ∀m:List ϧ,l.length=m.length->(l.zip m).all (eI<|gx C.w.params)=true->
 ∃kvs:List (Int×χ),kvs.map (·.1)=l.map (·.1)/\Pairs (intKind pw C.w) m kvs/\(∀e∈m,∃k,(intKind pw C.w).is k e.key=true/\e.hash=(intKind pw C.w).hash k)/\Ϸ (λe x=>e.1=x.1/\VR C g e.2 x.2) l kvs:=by
 induction l with
 |nil=>exact λm e _=>by induction m with|nil=>exact⟨[],rfl,.nil,(λ_ m=>(ay m)),rfl⟩|cons _ _=>cases e
 |cons d l ih=>
  intro m e h
  induction m with
  |nil=>cases e
  |cons y m=>
   obtain⟨h1,h2⟩:=an<|show(eI (gx C.w.params) (d,y)&&(l.zip m).all (eI<|gx C.w.params))=true from h
   refine(ih m (gJ e) h2).elim λkvs q_=>q_.elim λp1 q_=>q_.elim λp2 q_=>q_.elim λp3 p4=>?_
   induction a3 h1 with
   |mk q1 q2 q3=>
    refine(sA q1).elim λt ht=>?_
    have is:(intKind pw C.w).is d.1 y.key=true:=by rw[show y.key= .int d.1 t from ht];exact fM _ _ _ _
    exact⟨(d.1,y.val)::kvs,congrArg (d.1:: ·) p1,.cons is rfl p2,λe m=>(Θ.mp m).elim (λz=>z▸⟨d.1,is,eq_of_beq q2⟩)<|p3 e,_,_,rfl,⟨rfl,EA hr q3⟩,p4⟩
theorem K_(h:Qg (gx C.w.params) k=true)(hr:HR C g):Gw k≠sysModules/\∃kvs,g.s.heap.DictOf (intKind pw C.w) (Gw k) kvs/\Ϸ (λe x=>e.1=x.1/\VR C g e.2 x.2) (Av k) kvs:=by
 refine(aG h).elim λo q_=>q_.elim λe1 h=>?_
 refine(an h).elim λh1 h=>?_
 refine(aG h).elim λd q_=>q_.elim λe2 h=>?_
 induction a3 h with
 |mk h h4 h5=>
  refine(Gl hr _ _ (eq_of_beq<|aL h) h5).elim λkvs q_=>q_.elim λp1 q_=>q_.elim λp2 q_=>q_.elim λp3 p4=>?_
  have ho:=(hr.old _ _<|k7 e1).2.trans<|congrArg some<|zu h1
  exact⟨λz=>by have:=nt (aR h);rw[z] at this;exact ff<|this.symm.trans (by rfl),kvs,⟨_,d.1,d.2,ho,⟨rfl,rfl,rfl⟩,Cm e2,λe m=>p3 e<|jl.mpr m,p2,p1▸of_decide_eq_true h4⟩,p4⟩
end
section
variable{C:Ctx}{a:ό}{id:ak}{x:χ}{n m:Nat}
theorem JJ{P:bz}(h:(gx P a).isSome=true)(n:ak):(HF P).nsMap a n=vI (gx P) a n:=by
 refine(cU.mp h).elim λo e=>?_
 unfold Heap.nsMap vI
 rw[CK e,e]
 show(match o.data with| .dict es _=>nsFind es n|_=>none)=(Qf o.data).bind λd=>nsFind d.1 n
 cases o.data<;>rfl
theorem xY(h:(gx C.w.params a).isSome=true)(i:(HF C.w.params).isNs a=true):C.s.heap.Ns a (vI (gx C.w.params) a):=by
 have z:=(Heap.Ns.of_isNs i).keeps C.old
 rwa [show(HF C.w.params).nsMap a=vI (gx C.w.params) a from funext (JJ h)] at z
theorem nX{α:Type}{o:Option α}{f:α->Bool}(h:o.any f=true): ∃x,o=some x/\f x=true:=by
 induction o with
 |none=>exact ff h
 |some x=>exact⟨x,rfl,h⟩
theorem QO(h: ∃x,vI (gx C.w.params) mainGlobals id=some x):(gx C.w.params mainGlobals).isSome=true:=by
 refine h.elim λx h=>?_
 obtain⟨o,e,_⟩:=dG h
 rw[e];rfl
theorem yP(P:bz):(HF P).isNs mainGlobals=true/\(HF P).isNs builtinsNs=true:=by
 have h:=(rz<|aR<|Jl P)
 exact⟨(aL h),(aL<|aR h)⟩
theorem oN(h:vI (gx C.w.params) mainGlobals id=some x):kH C id x:=⟨_,xY (QO ⟨x,h⟩) (yP _).1,h⟩
theorem NN:Tb C:=by
 have h:=CG C.w.params
 have h1:=aL h
 have h6:=aL<|E5<|aR h
 have h7:=aL<|E5<|rz h
 have nm:=xY (C:=C) (aL<|FP h) (yP _).1
 have nb:=xY (C:=C) (aL<|FP<|aR h) (yP _).2
 refine⟨⟨?_,λk hk=>⟨?_,λg hr=>(K_ (ϐ.mp h7 k<|ϭ.mpr hk) hr).2⟩⟩,K1,λn m id q=>?_,λn id q=>?_,λn id q=>?_,λn id q=>?_,λn id q=>?_,⟨_,_,nm,nb,eq_of_beq<|aL h6,eq_of_beq<|aR h6⟩⟩
 ·obtain⟨o,e⟩:=cU.mp<|aL<|E5<|rz<|aR h
  exact ϖ<|k7 e
 ·obtain⟨o,e1,h⟩:=aG<|ϐ.mp h7 k<|ϭ.mpr hk
  obtain⟨d,e2,h⟩:=aG<|aR h
  exact λz=>by
   have q:=nt<|aR<|eB h
   rw[z] at q;exact ff<|q.symm.trans<|beq_self_eq_true _
 ·obtain⟨p,e,q⟩:=nX q
  obtain⟨v,e1,q1⟩:=aG<|ϐ.mp h1 p<|Υ e
  obtain⟨t,rfl⟩:=sA q1
  rw[eq_of_beq<|aL q] at e1
  exact⟨t,eq_of_beq (aR q)▸oN e1⟩
 ·obtain⟨p,e,q⟩:=nX q
  obtain⟨p',e',h⟩:=aG<|ϐ.mp (aL<|aR h) n<|ϭ.mpr<|show n<6 from(Δ.mp e).1
  cases ξ (e.symm.trans e')
  obtain⟨v,e1,q1⟩:=aG h
  exact⟨v,eq_of_beq q▸oN e1,λg hr=>EA hr q1⟩
 ·obtain⟨p,e,q⟩:=nX q
  have hn:n<101:=(Δ.mp e).1
  obtain⟨p',e',h⟩:=aG<|ϐ.mp (aL<|rz h) n<|ϭ.mpr hn
  cases ξ (e.symm.trans e')
  exact⟨xF hn,eq_of_beq (aR q)▸oN (eq_of_beq ((pY h).resolve_left λz=>by
   have q:=nt<|aL q
   rw[z] at q;exact ff q.symm))⟩
 ·obtain⟨p,e,q⟩:=nX q
  have hn:n<19:=(Δ.mp e).1
  obtain⟨p',e',h⟩:=aG<|ϐ.mp (aL<|rz<|aR h) n<|ϭ.mpr hn
  cases ξ (e.symm.trans e')
  exact⟨hn,eq_of_beq q▸oN (eq_of_beq h)⟩
 ·obtain⟨p,e,q⟩:=nX q
  have hn:n<5:=(Δ.mp e).1
  obtain⟨p',e',h⟩:=aG<|ϐ.mp (aL<|E5 h) n<|ϭ.mpr hn
  cases ξ (e.symm.trans e')
  exact⟨hn,eq_of_beq q▸⟨_,_,nm,nb,eq_of_beq<|aL h,eq_of_beq<|aR h⟩⟩
theorem Mx:C.s.heap.NoLimit:=by
 have h:=(aL<|FP<|rz<|CG C.w.params)
 refine(aG h).elim λo q_=>q_.elim λe h=>?_
 obtain⟨d,e2,h⟩:=aG h
 refine⟨_,⟨o,d.1,d.2,k7 e,Cm e2,λen m=>?_,λ_=>rfl⟩,eq_of_beq<|aR h⟩
 have z:=ϐ.mp (aL h) en<|jl.mpr m
 split at z
 ·rename_i e;exact⟨_,_,e⟩
 ·exact ff z
end
end J.Internal
namespace J.Internal
open PySem PySem.W PySem.Calls PyProof.Rows
abbrev tM:=IB
section
variable [Key]
theorem C9{w:cW}{s1:Χ}{Μ:List Int}{a:ό}{vs:List χ}{n:Nat}{H':Hp}(old: ∀b o,(HF w.params).get? b=some o->s1.heap.get? b=some o)(hl:s1.heap.get? a=some (gn false vs.toArray n))(hv: ∀z h,bg z h (Μ.map D.int) vs)(hz:Μ.length<=63)(ok:H'.ok)(e:Β Μ 71 true 99 [.Μ] ⟨True,[]⟩=some (.bool true,H')):
 wpAny (model pw w) callerA (call (.ref<|kE 99) [.ref a]) (λv s'=>v= .bool true/\(∀b o,s1.heap.get? b=some o->s'.heap.get? b=some o)/\s'.os=s1.os/\s'.gens=s1.gens) (λ_ _=>False) s1:=by
 let C:Ctx:=⟨w,s1,a,old⟩
 let g:Sg:=⟨[],λb=>s1.heap.get? b≠none,⟨True,[]⟩,s1,true⟩
 have h0:vL callerA 71:=⟨rfl,by decide+kernel,by decide+kernel⟩
 refine vK<|(B7 (C:=C) h0 Mx (λf ar l b hf=>F8 NN (⟨_,n,hl,η hz (by decide),hv⟩:Pb C Μ) hf) 71 (ώ _) true).2 (g:=g) e ok rfl h0 ⟨rfl,dQ,λb q=>q.elim id λq=>(ay q),λb o e=>⟨ϖ e,e⟩,λi po b e=>Ϝ e⟩ (Ϸ.one (rfl:VR C g .Μ (.ref a))) λk y L hr V hk=>?_
 have es:k.s={s1 with heap:=k.s.heap,toks:=k.s.toks}:=L.sh
 exact⟨V,λb o e=>L.kp b o e ϑ ϑ,by rw[es],by rw[es]⟩
end
theorem lay_ints{R:WRecords}{cl:ak->Option ό}{P:bz}{ord:List ϧ->List ϧ}(Μ:List Int): ∀(s:Χ),∃vs tk,layAllW R cl P ord (Μ.map gV) s=some (vs,{s with toks:=tk})/\vs.length=Μ.length/\∀z h,bg z h (Μ.map D.int) vs:=by
 induction Μ with
 |nil=>exact λs=>⟨[],s.toks,rfl,rfl,λ_ _=>rfl⟩
 |cons i Μ ih=>
  intro s
  obtain⟨vs,tk,e,hl,hv⟩:=ih {s with toks:=s.toks+1}
  refine⟨.int i s.toks::vs,tk,?_,congrArg (· +1) hl,λz h=>nR ⟨_,rfl⟩<|hv z h⟩
  simp only[aU,layAllW,layW]
  rw[e]
theorem GK{R:WRecords}: ∀{xs:List WData},iG R xs .int=true->∃Μ:List Int,xs=Μ.map gV:=λ{xs}=>by
 induction xs with
 |nil=>exact λ_=>⟨[],rfl⟩
 |cons d xs ih=>
  intro h
  have h:(Kl R d .int&&iG R xs .int)=true:=h
  obtain⟨Μ,e⟩:=ih<|aR h
  have h:=aL h
  cases d with
  |int i=>exact⟨i::Μ,e▸rfl⟩
  |_=>exact ff h
theorem FY{args:List WData}(h:tM.row.toRowW.claim.pre args=true): ∃Μ:List Int,args=[.list<|Μ.map gV]/\Μ.length<=63:=by
 obtain⟨h1,h2⟩:=pre_splitW h
 obtain⟨d,r,rfl,hd,hr⟩:=hasAllW_cons (R:=[]) (e:=.list .int) (es:=[]) h1
 have:=hasAllW_nil hr
 subst this
 cases d with
 |list xs=>
  have hd:(iG [] xs .int||false)=true:=hd
  have hx:iG [] xs .int=true:=(Bool.or_false _).symm.trans hd
  obtain⟨Μ,rfl⟩:=GK hx
  refine⟨Μ,rfl,ϯ.mp λhlt=>?_⟩
  have e:tM.row.toRowW.pre.holds [] {args:=[.list<|Μ.map gV]}=false:=by
   show tV [] (.and (.not<|.lt (.lit<|.int ((63:Nat):Int))<|.len<|.arg 0)<|.lit<|.bool true) _=false
   have z:(63:Int)<(Μ.length:Int):=by omega
   simp[tV,Va,less?,Num.less?,z]
  exact ff<|e.symm.trans h2
 |_=>exact ff hd
theorem mX:tM.row.toRowW.promised:=⟨[.list [.int 3,.int 1]],by decide+kernel,by decide+kernel⟩
theorem Tj: @p6 Bool rq pw.main=true:=by decide+kernel
theorem HW{p:Program}(a:p.modules=[])(b:p.parses=[])(c:p.harvested=[])(h: @p6 Bool rq p.main=true):p.tablesWhole=true:=by
 rw[<-Fast.te6116379765354995101] at h
 unfold Program.tablesWhole UG
 rw[a,b,c,h];rfl
theorem Hw:tM.row.toRowW.claim.prog.bare:=⟨rfl,rfl,rfl,rfl,rfl,HW rfl rfl rfl Tj⟩
theorem DS:opensWell pw=true:=by decide+kernel
theorem G9(as bs:List WData):tM.row.toRowW.claim.post as (.bool true) bs=true:=by
 have e1:same (.bool true) (.bool true)=true:=by decide+kernel
 show(Kl [] (.bool true) .bool&&tV [] (.eq .res<|.lit<|.bool true) {args:=as,res:=some<|.bool true,after:=bs})=true
 refine aQ.mpr ⟨rfl,?_⟩
 simp[tV,Va,e1]
noncomputable def WH(q:ό->Option e9):Bool:=nK (q<|kE 99) λo=>OO o "function"&&nK (Ox o.data) λfd=>(match fd.body with| .stmts _=>true|_=>false)&&(fd.name== "law"&&(fd.qualname== "law"&&(fd.globals==mainNs&&(fd.closure.isEmpty&&(fd.builtins==builtinsNs&&(fd.params.defaults.isEmpty&&(fd.params.kwonlyargs.isEmpty&&(fd.params.kw_defaults.isEmpty&&(fd.defaults== .none&&(fd.kwdefaults== .none&&(vI q mainGlobals "law"==some (.ref<|kE 99)&&(true))))))))))))
noncomputable def RC(q:ό->Option e9):Option (Arguments×List fB×pT):=(q<|kE 99).bind λo=>(Ox o.data).bind λfd=>match fd.body with
 | .stmts b=>some (fd.params,b,fd.scope)
 |_=>none
theorem JB(P:bz):WH (gx P)=true:=by kernel_rfl
theorem RN(P:bz):pw.theDef "law"=RC (gx P):=by kernel_rfl
theorem Mg{P:bz}:vI (gx P) mainGlobals "law"=some (.ref<|kE 99):=by
 obtain⟨o,_,h⟩:=aG<|JB P
 obtain⟨fd,_,h⟩:=aG<|aR h
 exact eq_of_beq<|aL<|FP<|rz<|aR h
theorem Mf{w:cW}:isTheDefsW pw (HF w.params) "law":=by
 have h:=JB w.params
 obtain⟨o,e,h⟩:=aG h
 obtain⟨h0,h⟩:=an h
 obtain⟨fd,e2,h⟩:=aG h
 have z:=RN w.params
 unfold RC at z
 rw[e] at z
 have z:_=(Ox o.data).bind _:=z
 rw[e2] at z
 have z:_=(match fd.body with
  | .stmts b=>some (fd.params,b,fd.scope)
  |_=>none):=z
 have gm:(gx w.params mainGlobals).isSome=true:=by
  obtain⟨o,e,_⟩:=dG<|eq_of_beq<|aL<|FP<|rz<|aR h
  rw[e];rfl
 cases hb:fd.body with
 |expr y=>have h':=aL h;rw[hb] at h';exact ff h'
 |stmts y=>
  rw[hb] at z
  refine⟨kE 99,o,fd,fd.params,y,fd.scope,(FN (yP _).1 _).trans<|(JJ gm _).trans<|eq_of_beq<|aL<|FP<|rz<|aR h,CK e,xm e2,z,eq_of_beq<|aL<|aR h,eq_of_beq<|aL<|rz h,rfl,hb,rfl,eq_of_beq<|aL<|rz<|aR h,emp<|aL<|E5 h,eq_of_beq<|aL<|E5<|aR h,.inl ⟨emp<|aL<|E5<|rz h,eq_of_beq<|aL<|FP<|aR h⟩,[],by rw[emp<|aL<|E5<|rz<|aR h,emp<|aL<|FP h];rfl,.inl ⟨rfl,eq_of_beq<|aL<|FP<|rz h⟩⟩
section
variable [Key]
theorem Sy(lt: ∀Μ,∃H':Hp,H'.ok/\Β Μ 71 true 99 [.Μ] ⟨True,[]⟩=some (.bool true,H'))(said:tM.row.wellSaid=true):tM.row.Holds:=by
 refine⟨said,mX,⟨Hw,DS,rfl⟩,mX.witness,λw=>⟨(tX w).1,λs₀ hs=>?_⟩⟩
 obtain⟨hh,ha⟩:=(tX w).2 s₀ hs
 obtain⟨s₁,T,eh,g₁,a₁⟩:=H6 hh ha
 have hg:s₀.gens=#[]:=congrArg (λx=>x.2.1) hh
 refine⟨s₀,V8 s₀,hg,s₁,T,λn hn=>?_,λx m=>(by cases m),λx m=>(by cases m),?_⟩
 ·have hn:n=("law":ak):=υ.mp hn
  subst hn
  exact eh▸Mf
 ·refine ClaimW.callFrom_of_specG (c:=tM.row.toRowW.claim) a₁ g₁ λargs hpre hlay ord hord=>?_
  obtain⟨Μ,rfl,hz⟩:=FY hpre
  obtain⟨vs,tk,e,hl,hv⟩:=lay_ints (R:=[]) (cl:=classAt s₁.heap) (P:=w.params) (ord:=ord) Μ s₁
  obtain⟨H',ok,eC⟩:=lt Μ
  have hlaid:layAllW tM.row.toRowW.claim.records (classAt s₁.heap) w.params ord [.list<|Μ.map gV] s₁=some ([.ref s₁.heap.objs.size],{s₁ with heap:=s₁.heap.push {cls:=.type "list",data:=.seq vs.toArray},toks:=tk}):=by
   show layAllW [] _ _ _ _ _=_
   simp only[layAllW,layW]
   rw[e]
  have keeps:=layAllW_keeps _ _ _ hlaid
  have hal:=layAllW_rest _ _ _ hlaid
  obtain⟨as,hrd,hin,hold⟩:=reads_layAllW hord _ _ _ hlaid hlay _<|λ_ _ e=>e
  have L:Laid tM.row.toRowW.claim.records w s₁ _ [.list<|Μ.map gV] _ as:=⟨⟨ord,hord,hlaid⟩,hrd,hin,hold,keeps,hal.1.trans g₁,hal.2.2.1⟩
  have old: ∀b o,(HF w.params).get? b=some o->(s₁.heap.push {cls:=.type "list",data:=.seq vs.toArray}).get? b=some o:=λb o e=>keeps _ _<|eh▸e
  have hc:=C9 (s1:={s₁ with heap:=s₁.heap.push {cls:=.type "list",data:=.seq vs.toArray},toks:=tk}) old (aB _ rfl) hv hz ok eC
  obtain⟨mg,hg',hf⟩:=(oN (C:=⟨w,{s₁ with heap:=s₁.heap.push {cls:=.type "list",data:=.seq vs.toArray},toks:=tk},0,old⟩) (id:="law") (x:=.ref<|kE 99) Mg)
  refine⟨_,_,hlaid,?_⟩
  refine ο (wpAny_nsGet hg' (by
   rw[show mg tM.row.name=some (.ref<|kE 99) from hf]
   refine ο<|cI hc (λv s' z=>Η ?_) λ_ _ z=>z.elim
   obtain⟨rfl,kk,ko,kg⟩:=z
   refine⟨_,rfl,?_⟩
   have G:GoodWG tM.row.toRowW.claim (classAt s₁.heap) (ExcName.means s₁.heap) [.list<|Μ.map gV] {s₁ with heap:=s₁.heap.push {cls:=.type "list",data:=.seq vs.toArray},toks:=tk} (.ok<|.ret<|.bool true) s':=by
    refine⟨.inl ⟨_,.bool true,[],rfl,λcls=>rfl,.bool true,G9 _ _,λ_=>⟨dQ,λa m=>by cases m⟩⟩,.of_keep kk,ko,.of_eq<|kg.trans g₁⟩
   have z:=G.laid (c:=tM.row.toRowW.claim) rfl rfl (ident_freeW rfl rfl rfl) L
   exact⟨z.1,z.2.1,z.2.2,λq=>by cases q⟩))
end
end J.Internal
namespace J.Internal
open PySem PySem.W
set_option maxHeartbeats 0
theorem M0:Fast.tw12908688711261696721 tM.row.prog=true:=by
 refine aj (aj (aj (aj (aj ?_ ?_) ?_) ?_) ?_) ?_
 all_goals decide+kernel
theorem M1:Fast.tw2436336058641802641 tM.row=true:=by
 refine aj (aj (aj (aj (aj (aj (aj (aj (aj (aj (aj (aj (aj M0 ?_) ?_) ?_) ?_) ?_) ?_) ?_) ?_) ?_) ?_) ?_) ?_) ?_
 all_goals decide+kernel
theorem M3:tM.row.wellSaid=true:=by
 refine aj (aj ((congrFun Fast.te2436336058641802641 _).trans M1) ?_) ?_
 all_goals decide+kernel
theorem M4:Fast.tw9446332074065402090 tM=true:=by
 iterate 18 (refine aj ?_ (by decide+kernel))
 exact(congrFun Fast.te17960256430627541270 _).symm.trans M3
theorem said:tM.wellSaid=true:=(congrFun Fast.te9446332074065402090 _).trans M4
end J.Internal
theorem PySem.Challenge.cw_tu0001_01_holds : PySem.Challenge.rw_tu0001_01.Holds :=
 ⟨J.Internal.said,@J.Internal.Sy J.Internal.uM J.Internal.RQ J.Internal.M3⟩
