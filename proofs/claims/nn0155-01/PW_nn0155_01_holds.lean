import PyProof.Rows.All
import Wide.All
import OpenK.AllK
import Wide.FinOn
import Lean
import PySem.Challenge.RW_nn0155_01
set_option maxHeartbeats 40000000
set_option linter.all false
set_option genInjectivity false
set_option genSizeOf false
set_option bootstrap.genMatcherCode false
set_option Elab.async false
set_option maxRecDepth 100000
open PySem renaming wpAny_bind->ag,wpAny_pure->aE,Shared->aH,Params->bL,wpAny_holding->bS,call->bU,wpAny_newObj_type->b5,wpAny_of_eq->cu,DictEntry->cT,wpAny_standAt->c9,wpAny_loadPart_at->dy,wpAny_isSubtype_exc->dC,wpAny_field->dG,Around->e_,NameKind->eg,wpAny_isInstance->eH,wpAny_seqItems->eM,builtinLookup_eq_fast->eO,sizeLine_eq->eY,Comprehension->fa,Program->fC,wpAny_storeName_local->fT,getMethod_builtin->fX,wpAny_loadName_local->gh,wpAny_rule->gj,codeAny_builtin->gQ,typeLookup_type->gR,markedBehindIn_of_false->g7,wpAny_callSpecial?_slot->g8,newList->ie,wpAny_setField->ij,wpAny_call_entry->iL,wpAny_mono->iO,OsState->iX,codeAny_call_builtin->i3,wpAny_mkText->jw,wpAny_typeOf->jx,wpAny_Name->jK,wpAny_truthy_bool->ky,ExceptHandler->kH,wpAny_attempt->kJ,entryFor_of_tree->lS,wpAny_execs_cons->lT,wpAny_call->my,wpAny_execs_nil->mQ,BoolOp->n5,Result->n8,assign->n9,isSubtype_stop->n_,isSubtype_type->og,wpAny_bindName->oh,wpAny_loadPart->oi,wpAny_mkStr->oj,wpAny_throw->om,BindsTo->pg,wpAny_loadName_cell->pP,plainId_quiet->qg,wpAny_handled->qh,clipAt_nat->qx,wpAny_load->qy,GenState->sM,Operator->sN,concat_meets->sP,newTuple->sQ,plainObj_wpAny_Assign_Attribute->tE,ItemOn->uh,frameOf->ui,getAttr->uj,noFill_tuple_add->uk,setItem->uo,wpAny_getItem_of->uq,call_meets->xo,wpAny_newFunctionEnv_cells->xp,wpAt_of_wpAny->yZ,seq_tuple_add->Az,wpAny_comprehension_free->AB,wpAny_newList->AD,wpAny_release->AE,aRefKeyMayBeTheName_at->CP,wpAny_pyNext_list_item->CR,codeAny_call_function->GZ,wpAt_bind->G0,bm_if_false->Hi,callWith->Hj,wpAny_mkInt->Hk,wpAny_newFunctionEnv->Hl,builtinType_eq_fast->J3,setAttr->J4,strKind->J5,wpAny_dictSet_pairs->J6,wpAny_raiseNew_none->J7,wpAny_setItem_pairs->J8,arm_eval_Attribute->LG,slot_listiter_next->LH,strKind_is->LI,wpAny_assign_Name->O5,wpAny_mkTextBytes->O6,wpAny_pyIter_list->O7,exec_Return_some->Pu,pastItsLine_dict->Pw,wpAny_askSetting->Px,wpAny_lookBehind->Py,wpAny_madeBy_exc->Pz,wpAny_updatePart->PA,codeAny_of_tree->Ug,wpAny_ite_false->Uh,wpAny_ite_split->Ui,wpAny_operating->Uj,wpAny_specialOf->Uk,callType_codes->UU,refuseLoop_ref->UW,wpAny_newTuple->UX,wpAny_runValue->UY
open Bool renaming true->ah,false->aj,and_eq_true->aI,false_eq_true->cJ,false_ne_true->fj,and_eq_true_iff->fQ,or_false->gq,not_eq_true'->gL,or_eq_true->iF,noConfusion->jX,and_true->mS,beq_comm->mT,true_and->vC,or_true->xb,not_eq_true->GL,eq_iff_iff->Ha,and_assoc->JT,and_false->JU,not_false->JV,and_self->Lo,false_or->Lq
open Nat renaming le_trans->ai,lt_of_le_of_lt->aA,lt_of_lt_of_le->aB,le_refl->aC,le_add_right->aF,ne_of_lt->aL,add_assoc->aN,lt_succ_self->aO,le_add_left->aQ,le_of_lt->aT,zero_add->aZ,add_le_add_left->bf,add_comm->bz,le_of_eq->bI,lt_of_succ_lt_succ->bJ,lt_trans->bP,add_le_add->bQ,add_le_add_right->bR,le_of_succ_le_succ->bW,le_succ->bX,not_lt->b0,mul_le_mul_left->b9,ne_of_gt->cO,le_of_ble_eq_true->cW,lt_add_of_pos_right->de,zero_le->df,not_le_of_lt->dH,lt_irrefl->dM,sub_le->dU,succ_pos->ec,not_succ_le_zero->eQ,succ_le_succ->e9,le_of_add_right_le->ft,le_of_lt_succ->fK,lt_succ_of_lt->fL,add_zero->f7,not_lt_of_le->f9,min_eq_left->gA,add_right_comm->gB,add_sub_cancel_left->gJ,add_sub_cancel'->iW,lt_of_lt_of_eq->jk,le_succ_of_le->jG,le_of_not_lt->kc,lt_or_ge->kF,sub_self->kG,le_antisymm->ly,not_lt_zero->lA,sub_eq_zero_of_le->lQ,add_sub_cancel->n4,lt_of_succ_lt->pN,min_eq_right->qu,pred_le_pred->qv,succ_pred_eq_of_ne_zero->tv,le_total->xl,sub_zero->xm,sub_ne_zero_of_lt->yX,add_le_of_le_sub->Ar,add_sub_add_left->As,sub_add_cancel->CJ,lt_of_sub_pos->GX,min_le_right->Hc,zero_lt_succ->He,succ->Ly,mul_succ->Pp,add_mod->TY
open List renaming getElem?_eq_some_iff->ak,mem_singleton->au,length_append->av,not_mem_nil->aJ,mem_cons_of_mem->aM,mem_cons->aP,mem_cons_self->aU,length_map->aW,all_eq_true->a6,prefix_refl->a_,getElem?_set_self->bb,getElem?_append_left->bh,length_singleton->bk,getElem?_eq_getElem->bp,mem_map->bD,length_nil->bE,nodup_cons->bF,map_cons->bH,lookup_cons->b7,mem_of_getElem?->cm,map_append->cw,mem_append->cx,length_cons->cA,length_drop->cB,getElem?_map->cE,drop_drop->cK,getElem?_append_right->cL,filterMap_cons->cR,append_assoc->cS,append_nil->c5,getElem?_eq_none->dB,all_cons->dJ,forall_mem_cons->dN,replicate->dO,range'->d_,mem_of_find?_eq_some->eK,length_set->eL,prefix_append->fk,take_of_length_le->fm,contains_iff_mem->fB,getElem?_set_ne->fR,drop_eq_getElem_cons->fZ,head?_drop->gx,of_mem_zip->gy,drop_eq_nil_of_le->gM,set_set->gN,size_toArray->gO,find?_some->iG,map_congr_left->iJ,mem_map_of_mem->iK,getElem?_concat_length->iU,toArray->iV,nodup_nil->i8,length->js,any_cons->jF,filter_cons->jY,suffix_cons->jZ,take_length->j0,drop_of_length_le->kq,map_map->kr,range->ku,foldl_cons->kE,drop_eq_nil_iff->lZ,drop_zero->l4,mem_of_mem_drop->l5,mem_of_mem_take->l6,map_eq_nil_iff->mM,takeWhile_cons->mN,mem_filterMap->nU,zip_cons_cons->nV,findIdx?_eq_some_iff_getElem->nZ,flatten_cons->pb,map->pd,take_add_one->pe,drop_length->qe,getElem_mem->qf,lookup->qt,find?_cons->sC,forIn_cons->sD,forIn_nil->tp,suffix_iff_eq_drop->vH,any_nil->xc,filter_eq_nil_iff->xd,find?_cons_of_neg->xe,dropLast_eq_take->xg,length_filter_le->xh,set_append_right->xi,takeWhile_prefix->xj,take_append_drop->xk,filter->yU,length_take_le'->yV,set_append_left->yW,foldl_toArray'->An,getElem_of_mem->Ao,length_take_le->Aq,filter_append->Cd,length_range'->Ce,takeWhile_nil->Cf,flatMap_cons->Cy,getElem?_inj->Cz,getElem?_set->CA,mapM_toArray->CC,map_inj_left->CD,mem_range'_1->CE,nodup_append->CF,pairwise_map->CG,reverse_cons->CH,any_eq_true->GN,cons_append->GP,drop_suffix->GQ,length_take->GR,map_fst_zip->GS,mem_nil_iff->GU,range'_succ->GV,take->GW,mem_filter->Hb,mapM_cons->JW,take_zero->JX,map_drop->Lv,map_take->Lw,take_nil->Lx,all_map->OY,not_lt->Po,foldl->TX,drop->UO
open Option.some renaming inj->ao,injEq->iH
open PySem.Heap renaming get?_push_of_some->az,lt_size->aK,get?_push_size->a8,size_push->a9,get?_update_other->cp,get?_update_self->cD,SameBut->dK,size_update->ib,ExtBut->qw,SlotsOnly->tD,get?_none_of_le->yY,get?_update_ne->Aw
open Option renaming bind_eq_some_iff->aD,map_eq_some_iff->aS,isSome_iff_exists->cy,bind_some->cM,map_some->fp,elim->lB,map->sE,mem_toList->Au,getD_some->Cg
open PySem.Builtin.Range renaming rangeSize->bu,small->jH,rangeFitsLong->Pr
open Pure renaming pure->bB
open PySem.Heap.SameBut renaming update->bG,refl->T_
open PySem.Value renaming none->bT,ref->cG,builtin->ic,type->ke,isStrOf_shape->ph,bytes->xn,str->CM,bool->Pt
open PySem.PyData renaming keyHash->bZ
open PySem.Str renaming ofString->b_,empty->mO
open Int renaming natCast_nonneg->cq,ofNat_lt->dq,ofNat_le->fY,le_trans->gS,toNat_natCast->gU,le_of_lt->iY,fmod_eq_emod_of_nonneg->jh,lt_of_lt_of_le->ji,not_le->jj,lt_trans->kC,not_lt->kD,ofNat_sub->nR,toNat_lt->pM,neg_le_neg->Ls,sub_nonneg->Lu,lt_irrefl->OX,add_comm->Pn,le_refl->TU
open Array renaming length_toList->cz,getElem?_eq_getElem->dv,getElem?_toList->ej,any_toList->hM,getElem?_eq_some_iff->sJ,toList->vG,toList_append->yS,toList_inj->Cw
open List.cons renaming inj->cF,injEq->yT
open ForInStep renaming yield->dj
open PySem.Calls renaming Name_function_global->dk,spliced_cons->iZ,loadGlobal_builtin->ju,loadGlobal_global->jI,call_function_entry->tx,spliced_nil->Ci,wpAny_keep->CK
open PySem.W renaming typeIs_bytes->dw,hideAll_size->ig,ownOf->l8,looks_findIn->mx,putName_dict->sO,boot_heap->Cm,any_some->Hg,hideAll_get->Hh,mg_none_of->LD,readsAllW_cons_inv->LF,readsAllW_nil_inv->O4
open PyProof.Rows renaming strKind->ef,KeyKind->sF,slot_tupleiter_next->JY,size_push'->Lz,append_at->TZ,entry_list_sort->T1,len_list->T3,list_sort_treeK->T4,pairsOf_toList->UP
open PySem.F renaming excBase_Exception->ey,slot_list_getattribute->eW,args_tuple_add_2->jl,entry_tuple_add->jv,slot_tuple_add->jJ,bm_called->mU,slot_range_iterator_next->mV,plainAttrs_list->tA,plain_list_iadd->tB,bm_plain->Av,slot_int_rmul->O1
open PySem.Challenge renaming rw_nn0155_01->eR,pw_nn0155_01->LC
open PySem.Sem renaming wp->eX
open PySem.Around renaming under_plainId->fM
open Ne renaming symm->fN
open PySem.Builtin.Bytes renaming order->gP,window->jt,find?->Pq
open Prod.mk renaming inj->i9,injEq->sL
open PySem.NameKind renaming free->i_,cell->CL
open PySem.Heap.DictOf renaming new->jr
open PySem.W.Fast renaming te14364793385576792824->kh,te10110043849684766642->Ua,te11892475500146522536->Ub,te12563942051412417395->Uc,te15667345088766844465->Ud,te4187177175401517315->Ue
open PySem.Obj renaming isFreed_of_fields->lR,mapFields->nX,data_mapFields->n6,mapSeq->n7,putName->Ax,cls_mapFields->GY
open PySem.W.FB renaming slot_bytes_getitem->l7,plainAttrs_bytes->nY,slot_bytes_decode->Ck
open PySem.W.WTm renaming value->mP,holds->Hf
open PySem.Builtin.Dict renaming updateFrom->pO,addKeywords->T5,pairItems->T6,selfAndRest->T7
open Classical renaming byContradiction->qc
open Nat.succ renaming inj->tu
open PyProof renaming noPylong_small->ue
open PySem.EntryCells renaming newEntry->ug
open PySem.Txt renaming join->Ay
open PySem.Code renaming quiet_builtin->Cj
open PySem.W.OpenRow renaming toRowW->CO
open PySem.W.KBw renaming IsBytesIter->JZ,iter_typeIs->J0,slot_next->O3
open PySem.W.Looks renaming of_pure->J1
open PySem.W.OpenLaw renaming row->J2
open PySem.swapsWith renaming match_1->LJ,match_4->LM
open UInt8 renaming not_lt->LN,ofNat->O8
open OfNat renaming ofNat->OZ
open PySem.BoolOp renaming And->O0
open PySem.Heap.IsSliceOf renaming new->O2
open PySem.Builtin.List renaming listExtendWith->T8,listFitsIndex->T9
open PySem.Builtin.Str renaming glued->UQ,tooLong->UR
open PySem.Heap.DictAt renaming lt_size->US
open PySem.Heap.ExtBut renaming refl->UT
open PySem PySem.W PyProof.Rows
namespace Mine
noncomputable section
section
variable{E Q:Value->aH->Prop}{pos:Pos}{w:World}{A:e_}{s cH:aH}{vs Vs rest:List Value}{α β:Type}{H0 h h' h₀:Heap}{l:List PV}{ρ cC d9:eS}{V Y:Value}{st:St}{es:List Expr}{f:PV->PV->Option Bool}{i n n₀ j:Nat}{e elt:Expr}{old:Option (Value×List PV)}{scope:Scope}{v:PV}{a L:Addr}{kv:Value->Option (List Nat)}{env:Env}{hp:List PO}{d:Option Addr}{k:Str->Option eg}{kvs:List (Str×Value)}{us items:Array Value}{fv:List Str}{body:List Stmt}{c:fa}{ix:List Nat}{o:Option (Option Value)}{κ:sF}{cl:Str->Option Addr}{ops:List CmpOp}{bs:List (List UInt8)}
theorem gg{P:Prop}(h:∀G:Prop,(P->G)->G):P:=h P id
noncomputable abbrev pw:fC:=LC
noncomputable def oR:Pos:=⟨0,0,0,0⟩
def bx(p:fC)(i:Nat):Stmt:=p.main.body.getD i (.Pass oR)
def c7:Stmt->Nat->Stmt
 |.ClassDef _ _ _ b _ _ _ _ _ _ _,j=>b.getD j (.Pass oR)
 |s,_=>s
noncomputable def fArgs:Stmt->Arguments
 |.FunctionDef _ a _ _ _ _ _ _ _ _=>a
 |_=>⟨[],[],none,[],[],none,[]⟩
noncomputable def fBody:Stmt->List Stmt
 |.FunctionDef _ _ b _ _ _ _ _ _ _=>b
 |_=>[]
noncomputable def fScope:Stmt->Scope
 |.FunctionDef _ _ _ _ _ _ s _ _ _=>s
 |_=>default
def Pa(st:Stmt)(name qual:Str)(sX pm cd:Value):Obj:=
 ⟨.type "function",none,.func ⟨name,qual,fArgs st,.stmts (fBody st),fScope st,3,[],sX,.none,.none,pm,none,cd,.none,0⟩,#[]⟩
noncomputable def Kr(vs:Array Value):Obj:=⟨.type "code",none,.fields vs,#[]⟩
noncomputable def dE(P:bL)(s:Str)(t:Tok)(v:Value):cT:=⟨bZ P s,.str s t,v⟩
structure FE where
 a:Addr
 c:Addr
 st:Stmt
 nm:Str
 qn:Str
 sX:Value
 pm:Value
 t:Tok
 u:Int
 l:Int
 n:Int
 b:Bool
noncomputable def ä:Value:=.str "__main__" 164
noncomputable def vF:Value:=.str "paperhold.cursor" 194
noncomputable def XJ:Value:=.str "paperhold.errors" 376
noncomputable def zT:Value:=.str "paperhold.decimals" 434
noncomputable def Fy:Value:=.str "paperhold.lexer" 579
noncomputable def Jb:Value:=.str "paperhold.objects" 700
noncomputable def Jc:Value:=.str "paperhold.reader" 853
noncomputable def Jd:Value:=.str "paperhold.content" 963
noncomputable def zU:Value:=.str "law_nn0155_01" 1064
noncomputable def FE.r(e:FE)(k:Nat):Value:=if e.b then .ref (e.c-k) else .none
def FE.co(e:FE):Obj:=Kr #[.str e.nm e.t,.str e.qn (e.t+1),.str "/claim/cut.py" (e.t+2),.int e.l 0,.int e.n 0,.int 0 0,.int 0 0,.int 3 0,.ref (e.c-if e.b then 5 else 3),.bool ah,.int 181 0,.ref (e.c-if e.b then 4 else 2),.none,e.r 3,e.r 2,.ref (e.c-1),.int e.u 0,.int e.l 0,.str "/claim/cut.py" (e.u.toNat+1)]
def MQ(p:fC):List FE:=[
 ⟨21,20,bx p 0,"_wall","_wall",.none,ä,187,191,1,1,ah⟩,
 ⟨30,29,bx p 8,"is_white","is_white",.none,vF,222,226,11,1,ah⟩,
 ⟨37,36,bx p 9,"is_regular","is_regular",.none,vF,229,233,13,1,ah⟩,
 ⟨44,43,bx p 10,"is_figure","is_figure",.none,vF,236,240,15,1,ah⟩,
 ⟨59,58,c7 (bx p 11) 0,"__init__","Cursor.__init__",.ref 52,vF,258,265,19,4,ah⟩,
 ⟨66,65,c7 (bx p 11) 1,"is_done","Cursor.is_done",.none,vF,268,272,24,1,ah⟩,
 ⟨74,73,c7 (bx p 11) 2,"peek","Cursor.peek",.ref 67,vF,276,282,27,2,ah⟩,
 ⟨81,80,c7 (bx p 11) 3,"take","Cursor.take",.none,vF,285,290,31,1,ah⟩,
 ⟨88,87,c7 (bx p 11) 4,"starts","Cursor.starts",.none,vF,293,298,38,2,ah⟩,
 ⟨95,94,c7 (bx p 11) 5,"skip","Cursor.skip",.none,vF,301,306,41,2,ah⟩,
 ⟨102,101,c7 (bx p 11) 6,"skip_white","Cursor.skip_white",.none,vF,309,314,47,1,ah⟩,
 ⟨109,108,c7 (bx p 11) 7,"take_regular","Cursor.take_regular",.none,vF,317,322,58,1,ah⟩,
 ⟨116,115,c7 (bx p 11) 8,"skip_line_end","Cursor.skip_line_end",.none,vF,325,329,64,1,ah⟩,
 ⟨123,122,c7 (bx p 11) 9,"take_line","Cursor.take_line",.none,vF,332,336,75,1,ah⟩,
 ⟨130,129,c7 (bx p 11) 10,"number","Cursor.number",.none,vF,339,345,78,1,ah⟩,
 ⟨137,136,c7 (bx p 11) 11,"find","Cursor.find",.none,vF,348,354,88,3,ah⟩,
 ⟨144,143,c7 (bx p 11) 12,"find_last","Cursor.find_last",.none,vF,357,362,91,2,ah⟩,
 ⟨166,165,c7 (bx p 13) 0,"__init__","PaperError.__init__",.ref 159,XJ,392,398,96,3,ah⟩,
 ⟨173,172,c7 (bx p 13) 1,"told","PaperError.told",.none,XJ,401,405,101,1,ah⟩,
 ⟨205,204,c7 (bx p 21) 0,"__init__","Decimal.__init__",.none,zT,458,464,113,3,ah⟩,
 ⟨212,211,c7 (bx p 21) 1,"plus","Decimal.plus",.none,zT,467,472,120,2,ah⟩,
 ⟨219,218,c7 (bx p 21) 2,"minus","Decimal.minus",.none,zT,475,480,123,2,ah⟩,
 ⟨226,225,c7 (bx p 21) 3,"times","Decimal.times",.none,zT,483,488,126,2,ah⟩,
 ⟨233,232,c7 (bx p 21) 4,"negated","Decimal.negated",.none,zT,491,495,129,1,ah⟩,
 ⟨240,239,c7 (bx p 21) 5,"compared","Decimal.compared",.none,zT,498,503,132,2,ah⟩,
 ⟨247,246,c7 (bx p 21) 6,"is_whole","Decimal.is_whole",.none,zT,506,510,135,1,ah⟩,
 ⟨254,253,c7 (bx p 21) 7,"floor","Decimal.floor",.none,zT,513,517,138,1,ah⟩,
 ⟨261,260,c7 (bx p 21) 8,"rounded","Decimal.rounded",.none,zT,520,525,141,2,ah⟩,
 ⟨268,267,c7 (bx p 21) 9,"told","Decimal.told",.none,zT,528,532,144,1,ah⟩,
 ⟨275,274,c7 (bx p 21) 10,"text","Decimal.text",.none,zT,535,540,147,1,ah⟩,
 ⟨282,281,c7 (bx p 21) 11,"least_text","Decimal.least_text",.none,zT,543,547,154,1,ah⟩,
 ⟨296,295,bx p 22,"sign_text","sign_text",.none,zT,560,564,156,1,ah⟩,
 ⟨303,302,bx p 23,"read_decimal","read_decimal",.none,zT,567,576,158,1,ah⟩,
 ⟨311,310,bx p 33,"hex_worth","hex_worth",.none,Fy,600,604,189,1,ah⟩,
 ⟨318,317,bx p 34,"plain_escape","plain_escape",.none,Fy,607,611,197,1,ah⟩,
 ⟨326,325,bx p 35,"name_text","name_text",.ref 319,Fy,616,626,209,2,ah⟩,
 ⟨333,332,bx p 36,"octal","octal",.none,Fy,629,636,225,2,ah⟩,
 ⟨340,339,bx p 37,"escaped_codes","escaped_codes",.none,Fy,639,644,232,1,ah⟩,
 ⟨347,346,bx p 38,"literal","literal",.none,Fy,647,655,241,1,ah⟩,
 ⟨352,351,bx p 39,"hex_string","hex_string",.none,Fy,658,661,261,1,aj⟩,
 ⟨359,358,bx p 40,"run_token","run_token",.none,Fy,664,671,276,2,ah⟩,
 ⟨366,365,bx p 41,"delimited_token","delimited_token",.none,Fy,674,680,284,3,ah⟩,
 ⟨373,372,bx p 42,"next_token","next_token",.none,Fy,683,689,302,1,ah⟩,
 ⟨380,379,bx p 43,"is_sign","is_sign",.none,Fy,692,697,311,2,ah⟩,
 ⟨394,393,c7 (bx p 45) 0,"__init__","Name.__init__",.none,Jb,714,719,316,2,ah⟩,
 ⟨416,415,c7 (bx p 46) 0,"__init__","String.__init__",.ref 409,Jb,743,749,320,3,ah⟩,
 ⟨437,436,c7 (bx p 47) 0,"__init__","Stream.__init__",.none,Jb,774,780,325,3,ah⟩,
 ⟨458,457,c7 (bx p 48) 0,"__init__","Reference.__init__",.none,Jb,805,811,330,3,ah⟩,
 ⟨465,464,c7 (bx p 48) 1,"pair","Reference.pair",.none,Jb,814,818,334,1,ah⟩,
 ⟨479,478,bx p 49,"kind_of","kind_of",.none,Jb,831,835,336,1,ah⟩,
 ⟨486,485,bx p 50,"told_plain","told_plain",.none,Jb,838,843,358,2,ah⟩,
 ⟨491,490,bx p 51,"told","told",.none,Jb,846,849,372,1,aj⟩,
 ⟨505,504,c7 (bx p 55) 0,"__init__","Frame.__init__",.none,Jc,869,874,386,2,ah⟩,
 ⟨512,511,c7 (bx p 55) 1,"wants_key","Frame.wants_key",.none,Jc,877,881,390,1,ah⟩,
 ⟨526,525,bx p 56,"is_whole","is_whole",.none,Jc,894,898,392,1,ah⟩,
 ⟨533,532,bx p 57,"take_reference","take_reference",.none,Jc,901,908,394,2,ah⟩,
 ⟨540,539,bx p 58,"word_value","word_value",.none,Jc,911,916,403,2,ah⟩,
 ⟨547,546,bx p 59,"plain_value","plain_value",.none,Jc,919,928,411,3,ah⟩,
 ⟨552,551,bx p 60,"dict_of","dict_of",.none,Jc,931,934,428,1,aj⟩,
 ⟨559,558,bx p 61,"close_frame","close_frame",.none,Jc,937,945,433,3,ah⟩,
 ⟨567,566,bx p 62,"object_from","object_from",.ref 560,Jc,948,960,443,3,ah⟩,
 ⟨582,581,c7 (bx p 65) 0,"__init__","Operation.__init__",.none,Jd,981,987,467,3,ah⟩,
 ⟨587,586,c7 (bx p 65) 1,"told","Operation.told",.none,Jd,990,993,471,1,aj⟩,
 ⟨601,600,bx p 66,"is_operator","is_operator",.none,Jd,1006,1010,473,1,ah⟩,
 ⟨606,605,bx p 67,"word_text","word_text",.none,Jd,1013,1016,475,1,aj⟩,
 ⟨613,612,bx p 68,"image_head","image_head",.none,Jd,1019,1025,477,1,ah⟩,
 ⟨620,619,bx p 69,"ends_image","ends_image",.none,Jd,1028,1033,488,2,ah⟩,
 ⟨627,626,bx p 70,"image_octets","image_octets",.none,Jd,1036,1042,492,1,ah⟩,
 ⟨634,633,bx p 71,"read_image","read_image",.none,Jd,1045,1050,504,1,ah⟩,
 ⟨641,640,bx p 72,"read_content","read_content",.none,Jd,1053,1061,507,1,ah⟩,
 ⟨648,647,bx p 74,"_law_pen","_law_pen",.none,zU,1066,1072,527,1,ah⟩,
 ⟨655,654,bx p 75,"_law_draw","_law_draw",.none,zU,1075,1081,532,2,ah⟩,
 ⟨662,661,bx p 76,"_law_pick","_law_pick",.none,zU,1084,1089,539,2,ah⟩,
 ⟨669,668,bx p 77,"_law_told_of","_law_told_of",.none,zU,1092,1096,541,0,ah⟩,
 ⟨676,675,bx p 78,"_law_object","_law_object",.none,zU,1099,1105,548,2,ah⟩,
 ⟨683,682,bx p 79,"_law_objects","_law_objects",.none,zU,1108,1115,555,2,ah⟩,
 ⟨690,689,bx p 80,"_law_row","_law_row",.none,zU,1118,1127,560,1,ah⟩,
 ⟨695,694,bx p 81,"_law_read","_law_read",.none,zU,1130,1133,571,4,aj⟩,
 ⟨702,701,bx p 82,"_law_due","_law_due",.none,zU,1136,1146,592,3,ah⟩,
 ⟨707,706,bx p 83,"_law_heard","_law_heard",.none,zU,1149,1152,604,1,aj⟩,
 ⟨714,713,bx p 84,"_law_row_right","_law_row_right",.none,zU,1155,1163,609,1,ah⟩,
 ⟨719,718,bx p 85,"_law_image_right","_law_image_right",.none,zU,1166,1169,616,1,aj⟩,
 ⟨726,725,bx p 86,"law","law",.none,zU,1172,1178,639,1,ah⟩]
noncomputable def tn(vs:Array Value):Obj:=⟨.type "tuple",none,.seq vs 0,#[]⟩
noncomputable def qW(es:Array cT)(n:Nat):Obj:=⟨.type "dict",none,.dict es n,#[]⟩
noncomputable def sV(n:Str)(bs mro:List Value)(ns:Addr)(sub:List Value)(x:Option Value)(t:Tok)(nw:String):Obj:=⟨.type "type",none,.cls {name:=n,bases:=bs,mro:=mro,ns:=ns,qualname:=n,hasDict:=ah,slotNames:=[],subclasses:=sub,abstract:=aj,collection:=none,hasDel:=aj},#[x,none,some (.str n t),some (.str n (t+8)),some (.builtin nw),some (.bool ah)]⟩
def KR(P:bL):Frag:=[
 (2,⟨.none,none,(.dict #[dE P "type.__subclasses__.Exception.0" 414 (.int (176) 0),dE P "type.__subclasses__.Exception.n" 415 (.int (1) 0)] 2),#[]⟩),
 (3,qW #[dE P "__name__" 165 (.str "law_nn0155_01" 1064),dE P "__doc__" 166 .none,dE P "__package__" 167 .none,dE P "__loader__" 168 (.builtin "__main__.__loader__#opaque"),dE P "__spec__" 169 .none,dE P "__annotations__" 170 (.ref 6),dE P "__builtins__" 171 (.ref 4),dE P "__file__" 173 (.str "/claim/cut.py" 172),dE P "__cached__" 174 .none,dE P "_wall" 193 (.ref 21),dE P "WHITE" 202 (.ref 22),dE P "DELIMITERS" 213 (.ref 23),dE P "LINE_FEED" 215 (.int (10) 214),dE P "RETURN" 217 (.int (13) 216),dE P "COMMENT" 219 (.int (37) 218),dE P "MOST_FIGURES_cursor" 221 (.int (20) 220),dE P "is_white" 228 (.ref 30),dE P "is_regular" 235 (.ref 37),dE P "is_figure" 242 (.ref 44),dE P "Cursor" 375 (.ref 147),dE P "PaperError" 417 (.ref 176),dE P "SyntaxFault" 433 (.ref 189),dE P "MOST_FIGURES_decimals" 437 (.int (40) 436),dE P "PLUS" 439 (.int (43) 438),dE P "MINUS" 441 (.int (45) 440),dE P "POINT" 443 (.int (46) 442),dE P "ZERO" 445 (.int (48) 444),dE P "Decimal" 559 (.ref 285),dE P "sign_text" 566 (.ref 296),dE P "read_decimal" 578 (.ref 303),dE P "PAREN" 582 (.int (40) 581),dE P "CLOSE_PAREN" 584 (.int (41) 583),dE P "LESS" 586 (.int (60) 585),dE P "GREATER" 588 (.int (62) 587),dE P "SLASH" 590 (.int (47) 589),dE P "BACKSLASH" 592 (.int (92) 591),dE P "HASH" 594 (.int (35) 593),dE P "SIGNS" 599 (.ref 304),dE P "hex_worth" 606 (.ref 311),dE P "plain_escape" 613 (.ref 318),dE P "name_text" 628 (.ref 326),dE P "octal" 638 (.ref 333),dE P "escaped_codes" 646 (.ref 340),dE P "literal" 657 (.ref 347),dE P "hex_string" 663 (.ref 352),dE P "run_token" 673 (.ref 359),dE P "delimited_token" 682 (.ref 366),dE P "next_token" 691 (.ref 373),dE P "is_sign" 699 (.ref 380),dE P "Name" 730 (.ref 397),dE P "String" 761 (.ref 419),dE P "Stream" 792 (.ref 440),dE P "Reference" 830 (.ref 468),dE P "kind_of" 837 (.ref 479),dE P "told_plain" 845 (.ref 486),dE P "told" 851 (.ref 491),dE P "told_objects" 852 (.ref 491),dE P "MOST_DEPTH" 856 (.int (40) 855),dE P "Frame" 893 (.ref 515),dE P "is_whole" 900 (.ref 526),dE P "take_reference" 910 (.ref 533),dE P "word_value" 918 (.ref 540),dE P "plain_value" 930 (.ref 547),dE P "dict_of" 936 (.ref 552),dE P "close_frame" 947 (.ref 559),dE P "object_from" 962 (.ref 567),dE P "VALUE_WORDS" 968 (.ref 568),dE P "Operation" 1005 (.ref 590),dE P "is_operator" 1012 (.ref 601),dE P "word_text" 1018 (.ref 606),dE P "image_head" 1027 (.ref 613),dE P "ends_image" 1035 (.ref 620),dE P "image_octets" 1044 (.ref 627),dE P "read_image" 1052 (.ref 634),dE P "read_content" 1063 (.ref 641),dE P "_law_pen" 1074 (.ref 648),dE P "_law_draw" 1083 (.ref 655),dE P "_law_pick" 1091 (.ref 662),dE P "_law_told_of" 1098 (.ref 669),dE P "_law_object" 1107 (.ref 676),dE P "_law_objects" 1117 (.ref 683),dE P "_law_row" 1129 (.ref 690),dE P "_law_read" 1135 (.ref 695),dE P "_law_due" 1148 (.ref 702),dE P "_law_heard" 1154 (.ref 707),dE P "_law_row_right" 1165 (.ref 714),dE P "_law_image_right" 1171 (.ref 719),dE P "law" 1180 (.ref 726)] 88),
 (22,tn #[.int 0 196,.int (9) 197,.int (10) 198,.int (12) 199,.int (13) 200,.int (32) 201]),
 (23,tn #[.int (40) 203,.int (41) 204,.int (60) 205,.int (62) 206,.int (91) 207,.int (93) 208,.int (123) 209,.int (125) 210,.int (47) 211,.int (37) 212]),
 (52,tn #[.int 0 255,.int (-1) 257]),
 (67,tn #[.int 0 275]),
 (146,qW #[dE P "__module__" 250 (.str "paperhold.cursor" 194),dE P "__firstlineno__" 254 (.int (17) 253),dE P "__init__" 267 (.ref 59),dE P "is_done" 274 (.ref 66),dE P "peek" 284 (.ref 74),dE P "take" 292 (.ref 81),dE P "starts" 300 (.ref 88),dE P "skip" 308 (.ref 95),dE P "skip_white" 316 (.ref 102),dE P "take_regular" 324 (.ref 109),dE P "skip_line_end" 331 (.ref 116),dE P "take_line" 338 (.ref 123),dE P "number" 347 (.ref 130),dE P "find" 356 (.ref 137),dE P "find_last" 364 (.ref 144),dE P "__static_attributes__" 368 (.ref 145),dE P "__dict__" 370 (.ref 148),dE P "__weakref__" 372 (.ref 149),dE P "__doc__" 373 .none] 4),
 (147,sV "Cursor" [.type "object"] [.ref 147,.type "object"] 146 [] none 243 "object.__new__"),
 (159,tn #[.int (-1) 391]),
 (175,qW #[dE P "__module__" 385 (.str "paperhold.errors" 376),dE P "__firstlineno__" 389 (.int (94) 388),dE P "__init__" 400 (.ref 166),dE P "told" 407 (.ref 173),dE P "__static_attributes__" 410 (.ref 174),dE P "__weakref__" 412 (.ref 177),dE P "__doc__" 413 .none] 3),
 (176,sV "PaperError" [.type "Exception"] [.ref 176,.type "Exception",.type "BaseException",.type "object"] 175 [.ref 189] (some (.ref 152)) 378 "Exception.__new__"),
 (188,qW #[dE P "__module__" 425 (.str "paperhold.errors" 376),dE P "__firstlineno__" 429 (.int (103) 428),dE P "__static_attributes__" 430 (.ref 187),dE P "__doc__" 431 .none] 2),
 (189,sV "SyntaxFault" [.ref 176] [.ref 189,.ref 176,.type "Exception",.type "BaseException",.type "object"] 188 [] (some (.ref 180)) 418 "Exception.__new__"),
 (284,qW #[dE P "__module__" 453 (.str "paperhold.decimals" 434),dE P "__firstlineno__" 457 (.int (111) 456),dE P "__init__" 466 (.ref 205),dE P "plus" 474 (.ref 212),dE P "minus" 482 (.ref 219),dE P "times" 490 (.ref 226),dE P "negated" 497 (.ref 233),dE P "compared" 505 (.ref 240),dE P "is_whole" 512 (.ref 247),dE P "floor" 519 (.ref 254),dE P "rounded" 527 (.ref 261),dE P "told" 534 (.ref 268),dE P "text" 542 (.ref 275),dE P "least_text" 549 (.ref 282),dE P "__static_attributes__" 552 (.ref 283),dE P "__dict__" 554 (.ref 286),dE P "__weakref__" 556 (.ref 287),dE P "__doc__" 557 .none] 4),
 (285,sV "Decimal" [.type "object"] [.ref 285,.type "object"] 284 [] none 446 "object.__new__"),
 (304,tn #[.int (91) 595,.int (93) 596,.int (123) 597,.int (125) 598]),
 (319,tn #[.int (-1) 615]),
 (396,qW #[dE P "__module__" 709 (.str "paperhold.objects" 700),dE P "__firstlineno__" 713 (.int (314) 712),dE P "__init__" 721 (.ref 394),dE P "__static_attributes__" 723 (.ref 395),dE P "__dict__" 725 (.ref 398),dE P "__weakref__" 727 (.ref 399),dE P "__doc__" 728 .none] 4),
 (397,sV "Name" [.type "object"] [.ref 397,.type "object"] 396 [] none 702 "object.__new__"),
 (409,tn #[.bool aj]),
 (418,qW #[dE P "__module__" 738 (.str "paperhold.objects" 700),dE P "__firstlineno__" 742 (.int (318) 741),dE P "__init__" 751 (.ref 416),dE P "__static_attributes__" 754 (.ref 417),dE P "__dict__" 756 (.ref 420),dE P "__weakref__" 758 (.ref 421),dE P "__doc__" 759 .none] 4),
 (419,sV "String" [.type "object"] [.ref 419,.type "object"] 418 [] none 731 "object.__new__"),
 (439,qW #[dE P "__module__" 769 (.str "paperhold.objects" 700),dE P "__firstlineno__" 773 (.int (323) 772),dE P "__init__" 782 (.ref 437),dE P "__static_attributes__" 785 (.ref 438),dE P "__dict__" 787 (.ref 441),dE P "__weakref__" 789 (.ref 442),dE P "__doc__" 790 .none] 4),
 (440,sV "Stream" [.type "object"] [.ref 440,.type "object"] 439 [] none 762 "object.__new__"),
 (467,qW #[dE P "__module__" 800 (.str "paperhold.objects" 700),dE P "__firstlineno__" 804 (.int (328) 803),dE P "__init__" 813 (.ref 458),dE P "pair" 820 (.ref 465),dE P "__static_attributes__" 823 (.ref 466),dE P "__dict__" 825 (.ref 469),dE P "__weakref__" 827 (.ref 470),dE P "__doc__" 828 .none] 4),
 (468,sV "Reference" [.type "object"] [.ref 468,.type "object"] 467 [] none 793 "object.__new__"),
 (514,qW #[dE P "__module__" 864 (.str "paperhold.reader" 853),dE P "__firstlineno__" 868 (.int (384) 867),dE P "__init__" 876 (.ref 505),dE P "wants_key" 883 (.ref 512),dE P "__static_attributes__" 886 (.ref 513),dE P "__dict__" 888 (.ref 516),dE P "__weakref__" 890 (.ref 517),dE P "__doc__" 891 .none] 4),
 (515,sV "Frame" [.type "object"] [.ref 515,.type "object"] 514 [] none 857 "object.__new__"),
 (560,tn #[.bool ah]),
 (568,tn #[.bytes #[116,114,117,101] 965,.bytes #[102,97,108,115,101] 966,.bytes #[110,117,108,108] 967]),
 (589,qW #[dE P "__module__" 976 (.str "paperhold.content" 963),dE P "__firstlineno__" 980 (.int (465) 979),dE P "__init__" 989 (.ref 582),dE P "told" 995 (.ref 587),dE P "__static_attributes__" 998 (.ref 588),dE P "__dict__" 1000 (.ref 591),dE P "__weakref__" 1002 (.ref 592),dE P "__doc__" 1003 .none] 4),
 (590,sV "Operation" [.type "object"] [.ref 590,.type "object"] 589 [] none 969 "object.__new__")]
def KF(p:fC)(P:bL):Frag:=KR P++(MQ p).flatMap λe=>[(e.c,e.co),(e.a,Pa e.st e.nm e.qn e.sX e.pm (.ref e.c))]
def KA:List Addr:=[2,3,22,23,52,67,146,147,159,175,176,188,189,284,285,304,319,396,397,409,418,419,439,440,467,468,514,515,560,568,589,590]++(MQ pw).flatMap λe=>[e.c,e.a]
noncomputable def S0:Obj:=⟨(.type "tuple"),none,(.seq #[] 0),#[]⟩
noncomputable def S1:Obj:=⟨.none,none,(.fields #[]),#[]⟩
def S2:Obj:=Kr #[(.str "<module>" 182),(.str "<module>" 183),(.str "/claim/cut.py" 184),(.int (1) 0),(.int (0) 0),(.int (0) 0),(.int (0) 0),(.int (0) 0),(.ref 11),(.bool aj),(.int (181) 0),(.ref 12),.none,.none,.none,.none,(.int (185) 0),(.int (1) 0),(.str "/claim/cut.py" 186)]
noncomputable def S3:Obj:=⟨(.type "frame"),none,.plain,#[(some (.ref 13)),(some (.ref 3)),(some (.ref 3)),none,(some (.str "__main__" 164)),none,(some (.ref 0))]⟩
def Ze(P:bL):BT:=(.node (boot_o_0 P) (.node (boot_o_1 P) (.node (boot_o_3 P) (.node (boot_o_7 P) .nil .nil) (.node S0 .nil .nil)) (.node (boot_o_5 P) (.node (boot_o_9 P) .nil .nil) (.node S2 .nil .nil))) (.node (boot_o_2 P) (.node (boot_o_4 P) (.node (boot_o_8 P) .nil .nil) (.node S1 .nil .nil)) (.node (boot_o_6 P) (.node (boot_o_10 P) .nil .nil) (.node S3 .nil .nil))))
def Ul(P:bL):Heap:=⟨#[(boot_o_0 P),(boot_o_1 P),(boot_o_2 P),(boot_o_3 P),(boot_o_4 P),(boot_o_5 P),(boot_o_6 P),(boot_o_7 P),(boot_o_8 P),(boot_o_9 P),(boot_o_10 P),S0,S1,S2,S3],{}⟩
noncomputable def loose:List Str:=[("_wall":Str),("WHITE":Str),("DELIMITERS":Str),("LINE_FEED":Str),("RETURN":Str),("COMMENT":Str),("MOST_FIGURES_cursor":Str),("is_white":Str),("is_regular":Str),("is_figure":Str),("Cursor":Str),("PaperError":Str),("SyntaxFault":Str),("MOST_FIGURES_decimals":Str),("PLUS":Str),("MINUS":Str),("POINT":Str),("ZERO":Str),("Decimal":Str),("sign_text":Str),("read_decimal":Str),("PAREN":Str),("CLOSE_PAREN":Str),("LESS":Str),("GREATER":Str),("SLASH":Str),("BACKSLASH":Str),("HASH":Str),("SIGNS":Str),("hex_worth":Str),("plain_escape":Str),("name_text":Str),("octal":Str),("escaped_codes":Str),("literal":Str),("hex_string":Str),("run_token":Str),("delimited_token":Str),("next_token":Str),("is_sign":Str),("Name":Str),("String":Str),("Stream":Str),("Reference":Str),("kind_of":Str),("told_plain":Str),("told":Str),("told_objects":Str),("MOST_DEPTH":Str),("Frame":Str),("is_whole":Str),("take_reference":Str),("word_value":Str),("plain_value":Str),("dict_of":Str),("close_frame":Str),("object_from":Str),("VALUE_WORDS":Str),("Operation":Str),("is_operator":Str),("word_text":Str),("image_head":Str),("ends_image":Str),("image_octets":Str),("read_image":Str),("read_content":Str),("_law_pen":Str),("_law_draw":Str),("_law_pick":Str),("_law_told_of":Str),("_law_object":Str),("_law_objects":Str),("_law_row":Str),("_law_read":Str),("_law_due":Str),("_law_heard":Str),("_law_row_right":Str),("_law_image_right":Str)]
noncomputable def DF(p:fC):Env:={scope:=p.main.scope,locals:=mainNs,globals:=mainNs,cells:=[],code:=.ref 13,frame:=some 14}
def G7(p:fC):Code:=.body (behindTheImports p) (DF p)
def pK(p:fC):fC:={p with main:={p.main with body:=[bx p 86]}}
def sT(w:World)(os:iX):SharedT:=⟨Ze w.params,15,{},#[],{},187,os⟩
def Y2(p:fC):Thread:=⟨(execs (behindTheImports p) (DF p)).wrap doneF deadEnd id id,G7 p,oR,[topFrame oR]⟩
noncomputable def Je:Pos:=⟨639,0,644,15⟩
noncomputable def zO(p:fC)(h₀:Heap)(s:aH):Bool:=staticsOk (importedModules p.main.body) h₀ s.heap&&namesBound p s.heap&&gensDone s&&laidKept h₀ s.heap
noncomputable def yf(s:aH):List (Option Obj):=KA.map s.heap.get?
noncomputable def ya(p:fC)(w:World):List (Option Obj):=(KF p w.params).map λx=>some x.2
def FV(p:fC)(s:aH):=openSeen (pK p) loose (importedModules p.main.body) (λ_=>ah) ah s
theorem ES(w:World)(os:iX):(segRunT treeTable pw w 11 (some (.ref 6)) 1 4940 (sT w os) (Y2 pw)).map (λr=>(r.1,r.2.2.1,r.2.2.2,zO pw (Cm w.params) r.2.1.abs,FV pw r.2.1.abs,yf r.2.1.abs))=some (.next,G7 pw,Je,ah,openGood (pK pw) loose,ya pw w):=by
 delta Y2 pw FV;rw[Ua,kh,Uc,Ue];kernel_rfl
theorem Jg(w:World)(os:iX):topGo treeTable pw w 11 (some (.ref 6)) 12 ⟨Cm w.params,Array.mk [],boot_drawn,boot_toks,os⟩ (topStub pw)=
 some (⟨Ul w.params,#[],{},187,os⟩,⟨denote treeTable (G7 pw),G7 pw,oR,[topFrame oR]⟩):=by
 unfold pw;rw[Ud,kh,Ub];kernel_rfl
theorem AS(w:World)(os:iX):segRun treeTable pw w 11 (some (.ref 6)) 1 1 ⟨Ul w.params,#[],{},187,os⟩ (blockOf (behindTheImports pw) (DF pw) (G7 pw) oR [topFrame oR])=
 some (.next,⟨Ul w.params,#[],{},187,os⟩,G7 pw,oR):=by kernel_rfl
theorem Oc(w:World)(os:iX):(sT w os).abs=⟨Ul w.params,#[],{},187,os⟩:=by kernel_rfl
theorem fin_run(w:World)(s:aH):topRun treeTable pw w 11 (some (.ref 6)) 2 s ⟨doneF .next,G7 pw,Je,[topFrame oR]⟩=some s:=by
 obtain⟨h,g,d,t,os⟩:=s;rfl
theorem JD(w:World)(os:iX):∃cH,topRun treeTable pw w 11 (some (.ref 6)) (12+(1+(4940+2))) ⟨Cm w.params,Array.mk [],boot_drawn,boot_toks,os⟩ (topStub pw)=some cH/\
 zO pw (Cm w.params) cH=ah/\FV pw cH=openGood (pK pw) loose/\yf cH=ya pw w:=by
 obtain⟨⟨f,s,c,q⟩,e,e'⟩:=aS.mp (ES w os);simp only[sL] at e';obtain⟨rfl,rfl,rfl,h1,h2,h3⟩:=e';refine⟨s.abs,go_top (Jg w os) ?_,h1,h2,h3⟩;rw[show denote treeTable (G7 pw)=denote treeTable (.body (behindTheImports pw) (DF pw)) from rfl];refine piece_block (AS w os) ?_;have e2:=segRun_of e;rw[Oc] at e2;have z:=piece_app (rest:=[]) (q:=oR) e2 (N:=2) (r:=s.abs) (by
  rw[show restOf [] (DF pw) (G7 pw) Je [topFrame oR]=⟨doneF .next,G7 pw,Je,[topFrame oR]⟩ from rfl];exact fin_run w _)
 rw[c5] at z;exact z
theorem II{p q:fC}{loose:List Str}{Xt:aH->Bool}{Yf:aH->α}{Ya:World->α}{N:Nat}{g0:Bool}{uA:bL->Heap}{zo:Array sM}{MB:Drawn}{Nr:Nat}{R_:Nat}{ann:Option Value}{M:Nat}
 (open_:∀w:World,(fencedOpening treeTable p w N).map (λs=>(s.heap,s.gens,s.drawn,s.toks))=some (uA w.params,zo,MB,Nr))
 (size:∀w:World,((uA w.params).isNs mainGlobals&&zo.size==0,(uA w.params).objs.size,(uA w.params).nsMap mainGlobals "__annotations__")=(ah,R_,ann))
 (run:∀(w:World) (os:iX),∃cH,topRun treeTable p w R_ ann M ⟨uA w.params,zo,MB,Nr,os⟩ (topStub p)=some cH/\
  zO p (uA w.params) cH=ah/\openSeen q loose (importedModules p.main.body) Xt g0 cH=openGood q loose/\Yf cH=Ya w) (le:Nat.ble M N=ah):LeftO p q loose Xt Yf Ya N g0:=λw=>by
 obtain⟨⟨h,gs,d,k,os⟩,e,e'⟩:=aS.mp (open_ w);obtain⟨rfl,rfl,rfl,rfl⟩:h=uA w.params/\gs=zo/\d=MB/\k=Nr:=by simpa using e'
 obtain⟨z1,z2,z3⟩:_/\_/\_:=by simpa only [sL] using size w
 obtain⟨cH,r,l1,l2,l3⟩:=run w os;have r:=topRun_mono (N-M) _ _ _ _ r;rw[show M+(N-M)=N from iW (cW le)] at r;have t:topFrom treeTable p w N ⟨uA w.params,gs,d,k,os⟩=some cH:=by
  unfold topFrom;dsimp only;rw[z1,z2,z3,r];show(match zO p (uA w.params) cH with|true=>_|false=>_)=_;rw[l1]
 unfold openEnds;rw[e];show(topFrom treeTable p w N _).map _=_;rw[t];exact congrArg some (Prod.ext l2 l3)
theorem left:LeftO pw (pK pw) loose (λ_=>ah) yf (ya pw) 6000:=
 II (boot_open (p:=pw) (N:=6000) (by kernel_rfl) rfl (λ_=>by kernel_rfl)) (λw=>by kernel_rfl) (M:=12+(1+(4940+2))) JD (by decide)
noncomputable abbrev RO:DefRec:=⟨"law",fArgs (bx pw 86),fBody (bx pw 86),fScope (bx pw 86),⟨639,0,644,15⟩⟩
theorem Cb:eR.wellSaid=ah:=by kernel_rfl
set_option maxHeartbeats 0 in
theorem Rx(walk:WalkX (pK pw) loose (λ_ _=>True) yf (ya pw) (CO (J2 eR)) RO [] λf vs=>bU f vs):eR.Holds:=by
 refine holds_law Cb λù=>?_
 refine holds_openX (q:=pK pw) (loose:=loose) (Xt:=λ_=>ah) (XP:=λ_ _=>True) (Yf:=yf) (Ya:=ya pw) (N:=6000) (d:=RO) (kwd:=[]) left (λ_ _=>trivial) (λ_ _ _ _ _=>trivial) (by kernel_rfl) (by kernel_rfl) (by kernel_rfl)
  (λ_ _=>recFacts_nil rfl) rfl (by first|assumption|decide+kernel) (by decide+kernel) ⟨rfl,rfl,rfl,rfl,rfl,by decide+kernel⟩ ?hw walk
 case hw=>w_witness2
theorem nS{a:α}{p:Prop}(h:none=some a):p:=nomatch h
theorem nB{p:Prop}(h:aj=ah):p:=nomatch h
theorem iN{c:Prop}[Decidable c]{α:Type}{f:Option α}{x:α}(h:(if c then f else none)=some x):c/\f=some x:=by
 by_cases q:c
 ·exact⟨q,(if_pos q).symm.trans h⟩
 ·exact nS ((if_neg q).symm.trans h)
inductive PV where
 |none|bool (b:Bool)|int (i:Int)|str (x:Str)|bytes (b:List UInt8)|tup (l:List PV)|ref (i:Nat)|obj (v:Value)
 deriving Inhabited
inductive PO where
 |list (l:List PV)|dict (l:List (Str×PV))|cN (l:List (List UInt8×PV))|inst (c:Addr) (fs:List PV)
 deriving Inhabited
structure St where
 loc:List (Option PV)
 hp:List PO
inductive R(α:Type) where
 |ok (a:α) (s:St)|exc (n:Int) (s:St)|bad
noncomputable def M(α:Type):=St->R α
noncomputable def M.pure(a:α):M α:=λs=>.ok a s
noncomputable def M.bind(m:M α)(f:α->M β):M β:=λs=>match m s with
 |.ok a s'=>f a s'
 |.exc n s'=>.exc n s'
 |.bad=>.bad
noncomputable instance:Monad M:={pure:=M.pure,bind:=M.bind}
theorem M.pure_run(a:α)(s:St):(pure a:M α) s=.ok a s:=rfl
theorem M.b6(m:M α)(f:α->M β)(s:St):(m>>=f) s=(match m s with|.ok a s'=>f a s'|.exc n s'=>.exc n s'|.bad=>.bad):=rfl
noncomputable def M.bad:M α:=λ_=>.bad
inductive PF where
 |next|cont|brk|ret (v:PV)
noncomputable abbrev eS:=List (Addr×Option Addr)
noncomputable def addrs(ρ:eS):List Addr:=ρ.flatMap λp=>p.1::p.2.toList
theorem mZ(ρ σ:eS):addrs (ρ++σ)=addrs ρ++addrs σ:=List.flatMap_append
mutual
noncomputable def a7(ρ:eS)(h:Heap):PV->Value->Prop
 |.none,v=>v=.none
 |.bool b,v=>v=.bool b
 |.int i,v=>∃t,v=.int i t
 |.str x,v=>∃t,v=.str x t
 |.bytes b,v=>∃t,v=.bytes b.toArray t
 |.tup l,v=>∃a o vs n,v=.ref a/\h.get? a=some o/\o.cls=.type "tuple"/\o.data=.seq vs n/\aR ρ h l vs.toList
 |.ref i,v=>∃a d,v=.ref a/\ρ[i]?=some (a,d)
 |.obj w,v=>v=w
noncomputable def aR(ρ:eS)(h:Heap):List PV->List Value->Prop
 |[],vs=>vs=[]
 |p::l,vs=>∃v r,vs=v::r/\a7 ρ h p v/\aR ρ h l r
end
noncomputable def fieldNames:Nat->List Str
 |147=>["data","at","end"]
 |397=>["text"]
 |419=>["octets","is_hex"]
 |515=>["mark","items"]
 |590=>["word","operands"]
 |285=>["top","places"]
 |_=>[]
def bN(P:bL):List Str->List Value->List cT->Prop
 |_,[],es=>es=[]
 |x::xs,v::vs,es=>∃t r,es=⟨bZ P x,.str x t,v⟩::r/\bN P xs vs r
 |[],_::_,_=>False
def jy(w:World)(ρ:eS)(h:Heap)(a:Addr)(d:Option Addr):PO->Prop
 |.list l=>d=none/\∃vs n,h.get? a=some {cls:=.type "list",data:=.seq vs n}/\aR ρ h l vs.toList
 |.dict l=>d=none/\∃kvs,(h.DictOf (strKind pw w) a kvs/\(a==sysModules)=aj)/\kvs.map (·.1)=l.map (·.1)/\aR ρ h (l.map (·.2)) (kvs.map (·.2))
 |.cN l=>d=none/\∃kvs,(h.DictOf (bytesKind pw w) a kvs/\(a==sysModules)=aj)/\kvs.map (·.1)=l.map (·.1)/\aR ρ h (l.map (·.2)) (kvs.map (·.2))
 |.inst c fs=>∃dx vs es n,d=some dx/\h.get? a=some (instObj c dx)/\h.get? dx=some (dictOf es n)/\bN w.params (fieldNames c) vs es/\aR ρ h fs vs
structure Cx where
 A:e_
 env:Env
 outer:List Env
 names:List Str
 fV:Env
 wc:List Addr
def own(C:Cx)(ρ:eS):List Addr:=C.env.locals::(C.wc++addrs ρ)
def qA(C:Cx)(ρ:eS)(h:Heap)(m:Str->Option Value)(loc:List (Option PV)):Prop:=
 ∀(i:Nat) (v:PV),loc[i]?=some (some v)->∃x V,C.names[i]?=some x/\a7 ρ h v V/\
  ((C.env.kindOf x=some .local/\m x=some V)\/(C.env.kindOf x=some .cell/\∃c,C.env.cells.lookup x=some c/\h.IsCell c (some V))\/(C.env.kindOf x=some .free/\∃c,C.env.cells.lookup x=some c/\h.IsCell c (some V)))
structure Inv(w:World)(H0:Heap)(C:Cx)(ρ:eS)(st:St)(h:Heap):Prop where
 old:∀b o,H0.get? b=some o->h.get? b=some o
 frames:h.FunFrames H0 (C.fV::C.outer)
 loc:∃m,h.Ns C.env.locals m/\qA C ρ h m st.loc
 frame:C.env.frame=some C.fV.locals
 apart:C.env.locals∉addrs ρ
 eN:∀L∈(C.fV::C.outer).filterMap (·.frame),L∉addrs ρ
 cells:∀p∈C.env.cells,H0.get? p.2=none/\(∃v,h.IsCell p.2 v)/\p.2∉addrs ρ/\p.2≠C.env.locals
 len:ρ.length=st.hp.length
 objs:∀(i:Nat) (o:PO),st.hp[i]?=some o->∃a d,ρ[i]?=some (a,d)/\jy w ρ h a d o
 nodup:(addrs ρ).Nodup
 fresh:∀a∈addrs ρ,H0.get? a=none/\a<h.objs.size
 l0:H0.get? C.env.locals=none
 Cu:∀c∈C.wc,c∈C.env.cells.map (·.2)
structure Ext(C:Cx)(ρ:eS)(h:Heap)(d9:eS)(h':Heap):Prop where
 pre:ρ<+:d9
 size:h.objs.size<=h'.objs.size
 keep:∀b o,h.get? b=some o->b∉own C ρ->∃sl,h'.get? b=some {o with slots:=sl}
 new:∀a∈addrs d9,a∈addrs ρ\/h.objs.size<=a
 fix:∀(b:Addr) (o:Obj) (vs:Array Value),h.get? b=some o->o.data=.fields vs->h'.get? b=some o
theorem Ext.refl(C:Cx)(ρ:eS)(h:Heap):Ext C ρ h ρ h:=⟨a_ _,aC _,λ_ o e _=>⟨o.slots,e⟩,λ_ h=>.inl h,λ_ _ _ e _=>e⟩
theorem eV{C:Cx}{b:Addr}:b∈own C ρ↔b=C.env.locals\/b∈C.wc\/b∈addrs ρ:=by
 unfold own;rw[aP,cx]
theorem Ext.trans{C:Cx}{bC c8 jg:eS}{bo dc h₃:Heap}(x:Ext C bC bo c8 dc)(y:Ext C c8 dc jg h₃):Ext C bC bo jg h₃:=by
 refine⟨x.pre.trans y.pre,ai x.size y.size,λb o e hb=>?_,λa ha=>?_,λb o vs e d=>y.fix b o vs (x.fix b o vs e d) d⟩
 ·obtain⟨sl,V_⟩:=x.keep b o e hb;have hn:b∉own C c8:=λhm=>by
   rcases eV.mp hm with q|q|q
   ·exact hb (eV.mpr (.inl q))
   ·exact hb (eV.mpr (.inr (.inl q)))
   ·rcases x.new b q with q|q
    ·exact hb (eV.mpr (.inr (.inr q)))
    ·exact absurd (aK e) (b0.mpr q)
  obtain⟨XS,Wa⟩:=y.keep b _ V_ hn;exact⟨XS,Wa⟩
 ·rcases y.new a ha with q|q
  ·exact x.new a q
  ·exact .inr (ai x.size q)
inductive PY(H0 h:Heap)(n₀:Nat)(e:Addr)(vs:Array Value)(P:Option Value->Prop):Prop
 |mk (T:Addr) (oT:Obj) (ts:Array Value) (z1:vs[1]?=some (.ref T)) (z2:n₀<=T) (z3:T≠e) (z4:H0.get? T=none) (z5:h.get? T=some oT) (z6:oT.data=.fields ts) (z7:P ts[3]?)
inductive ux(w:World)(H0:Heap)(fs:List Addr)(h:Heap)(n₀:Nat)(e:Addr)(n:Int)(TP:Array Value->Prop):Prop
 |mk (a:n₀<=e) (b:H0.get? e=none) (oe:Obj) (vs:Array Value) (dx:Addr) (v1:Value) (vt:Tok) (es:List cT) (k:Nat) (c:h.get? e=some oe) (d:oe.cls=.ref 189) (f:oe.dict=some dx) (g:oe.data=.fields vs) (y:1<vs.size) (i:n₀<=dx) (j:H0.get? dx=none) (l:dx∉fs)
  (m:h.get? dx=some (dictOf es k)) (o:bN w.params ["what","at"] [v1,.int n vt] es) (z:TP vs)
noncomputable abbrev ni(C:Cx):List Addr:=(C.fV::C.outer).filterMap (·.frame)
def xf(w:World)(H0:Heap)(C:Cx)(h:Heap)(n₀:Nat)(e:Addr)(n:Int):Prop:=ux w H0 (ni C) h n₀ e n λvs=>vs[1]?=some .none\/PY H0 h n₀ e vs λo=>o=some .none\/o=some (rawInt C.fV.locals)
def dI(w:World)(H0:Heap)(C:Cx)(rel:eS->Heap->β->α->Prop)(ρ:eS)(s:aH)(r:R β)(Q:α->aH->Prop)(E:Value->aH->Prop):Prop:=match r with
 |.ok b st'=>∀d9 a h' fJ,Inv w H0 C d9 st' h'->Ext C ρ s.heap d9 h'->rel d9 h' b a->Q a {s with heap:=h',toks:=fJ}
 |.exc n st'=>∀d9 e h' fJ,Inv w H0 C d9 st' h'->Ext C ρ s.heap d9 h'->xf w H0 C h' s.heap.objs.size e n->E (.ref e) {s with heap:=h',toks:=fJ}
 |.bad=>False
def aG(w:World)(H0:Heap)(C:Cx)(rel:eS->Heap->β->α->Prop)(ρ:eS)(st:St)(s:aH)(t:Sem α)(m:M β):Prop:=
 ∀Q E,dI w H0 C rel ρ s (m st) Q E->wpAny (model pw w) C.A t Q E s
def c_(w:World)(H0:Heap)(C:Cx)(rel:eS->Heap->β->α->Prop)(t:Sem α)(m:M β):Prop:=
 ∀ρ st s,Inv w H0 C ρ st s.heap->aG w H0 C rel ρ st s t m
theorem PY.mono{n₁:Nat}{e:Addr}{vs:Array Value}{P P':Option Value->Prop}(x:PY H0 h n₁ e vs P)(q:n₀<=n₁)(f:∀o,P o->P' o):PY H0 h n₀ e vs P':=
 let⟨T,oT,ts,z1,z2,z3,z4,z5,z6,z7⟩:=x
 ⟨T,oT,ts,z1,ai q z2,z3,z4,z5,z6,f _ z7⟩
theorem ux.mono{fs Pb:List Addr}{n₁:Nat}{e:Addr}{n:Int}{TP Ye:Array Value->Prop}(x:ux w H0 fs h n₁ e n TP)(q:n₀<=n₁)(hs:∀a∈Pb,a∈fs)(t:∀vs,TP vs->Ye vs):ux w H0 Pb h n₀ e n Ye:=
 let⟨a,b,oe,vs,dx,v1,vt,es,k,c,d,f,g,y,i,j,l,m,o,z⟩:=x
 ⟨ai q a,b,oe,vs,dx,v1,vt,es,k,c,d,f,g,y,ai q i,j,λz=>l (hs _ z),m,o,t _ z⟩
theorem xf.tU{C:Cx}{n₁:Nat}{e:Addr}{n:Int}(x:xf w H0 C h n₁ e n)(q:n₀<=n₁):xf w H0 C h n₀ e n:=ux.mono x q (λ_ h=>h) λ_ z=>z.imp id λz=>z.mono q λ_ h=>h
section
variable{C:Cx}{γ δ:Type}{rel:eS->Heap->β->α->Prop}{rel':eS->Heap->δ->γ->Prop}
theorem dI.later{bC:eS}{bo:Heap}{tk:Nat}{r:R β}{Q:α->aH->Prop}(x:Ext C ρ s.heap bC bo)(p:dI w H0 C rel ρ s r Q E):
 dI w H0 C rel bC {s with heap:=bo,toks:=tk} r Q E:=by
 cases r with
 |ok b st'=>exactλd9 a h' fJ I X q=>p d9 a h' fJ I (x.trans X) q
 |exc n st'=>exactλd9 e h' fJ I X q=>p d9 e h' fJ I (x.trans X) (q.tU x.size)
 |bad=>exact p
theorem aG.bind{t:Sem α}{f:α->Sem γ}{m:M β}{g:β->M δ}(x:aG w H0 C rel ρ st s t m)
 (y:∀bC aV bo b8 b a,Inv w H0 C bC aV bo->Ext C ρ s.heap bC bo->rel bC bo b a->aG w H0 C rel' bC aV {s with heap:=bo,toks:=b8} (f a) (g b)):
 aG w H0 C rel' ρ st s (t>>=f) (m>>=g):=by
 intro Q E p;dsimp only[M.b6] at p;refine ag (x _ _ ?_);cases hm:m st with
 |ok b aV=>
  rw[hm] at p;exactλbC a bo b8 I X r=>y bC aV bo b8 b a I X r Q E (p.later X)
 |exc n aV=>rw[hm] at p;exact p
 |bad=>rw[hm] at p;exact p
theorem c_.bind{t:Sem α}{f:α->Sem γ}{m:M β}{g:β->M δ}(x:c_ w H0 C rel t m)
 (y:∀bC aV cH b a,Inv w H0 C bC aV cH.heap->rel bC cH.heap b a->aG w H0 C rel' bC aV cH (f a) (g b)):c_ w H0 C rel' (t>>=f) (m>>=g):=
 λρ st s I=>(x ρ st s I).bind λbC aV _ _ b a bK _ r=>y bC aV _ b a bK r
theorem aG.pure{a:α}{b:β}(I:Inv w H0 C ρ st s.heap)(r:rel ρ s.heap b a):aG w H0 C rel ρ st s (pure a) (pure b):=
 λ_ _ p=>aE (p ρ a s.heap s.toks I (.refl ..) r)
theorem aG.skip{t:Sem Unit}{f:Unit->Sem α}{m:M β}(h:∀(Q:Unit->aH->Prop) (E:Value->aH->Prop),Q () s->wpAny (model pw w) C.A t Q E s)(x:aG w H0 C rel ρ st s (f ()) m):aG w H0 C rel ρ st s (t>>=f) m:=
 λQ E p=>ag (h _ _ (x Q E p))
theorem aG.standAt{f:Unit->Sem α}{m:M β}(x:aG w H0 C rel ρ st s (f ()) m):aG w H0 C rel ρ st s (standAt pos>>=f) m:=.skip (λ_ _ q=>c9 q) x
theorem aG.holding{t:Sem α}{m:M β}(x:aG w H0 C rel ρ st s t m):aG w H0 C rel ρ st s (holding vs t) m:=λQ E p=>bS (x Q E p)
theorem aG.at{t:Sem α}{m:M β}(x:c_ w H0 C rel t m)(I:Inv w H0 C ρ st s.heap):aG w H0 C rel ρ st s t m:=x ρ st s I
theorem c_.of_eq{t t':Sem α}{m:M β}(e:t=t')(x:c_ w H0 C rel t' m):c_ w H0 C rel t m:=e▸x
end
set_option backward.match.sparseCases false
def dX(h h':Heap):Prop:=∀a o vs n,h.get? a=some o->o.cls=.type "tuple"->o.data=.seq vs n->∃sl,h'.get? a=some {o with slots:=sl}
theorem dX.refl(h:Heap):dX h h:=λ_ o _ _ e _ _=>⟨o.slots,e⟩
theorem jc(p:ρ<+:d9){x:Addr×Option Addr}(e:ρ[i]?=some x):d9[i]?=some x:=by
 obtain⟨σ,rfl⟩:=p;obtain⟨hl,_⟩:=ak.mp e;rw[bh hl];exact e
theorem a7.mono(k:dX h h')(p:ρ<+:d9)(v:PV):∀(V:Value),a7 ρ h v V->a7 d9 h' v V:=by
 refine PV.rec (motive_1:=λv=>∀V,a7 ρ h v V->a7 d9 h' v V) (motive_2:=λl=>∀vs,aR ρ h l vs->aR d9 h' l vs) (λ_ r=>r) (λ_ _ r=>r) (λ_ _ r=>r) (λ_ _ r=>r) (λ_ _ r=>r) (λl ih V r=>?_) (λi V r=>?_) (λ_ _ r=>r) (λ_ r=>r) (λv l h1 h2 vs r=>?_) v
 ·obtain⟨a,o,vs,n,e,g,c,d,r⟩:=r;obtain⟨sl,g'⟩:=k a o vs n g c d;exact⟨a,_,vs,n,e,g',c,d,ih _ r⟩
 ·obtain⟨a,d,e,g⟩:=r;exact⟨a,d,e,jc p g⟩
 ·obtain⟨V,r',e,x,y⟩:=r;exact⟨V,r',e,h1 V x,h2 r' y⟩
theorem aR.mono(k:dX h h')(p:ρ<+:d9)(l:List PV):∀(vs:List Value),aR ρ h l vs->aR d9 h' l vs:=by
 induction l with
 |nil=>exactλ_ r=>r
 |cons v l ih=>
  intro vs r;obtain⟨V,r',e,x,y⟩:=r;exact⟨V,r',e,a7.mono k p v V x,ih r' y⟩
theorem aR.length:∀{vs:List Value},aR ρ h l vs->vs.length=l.length:=by
 induction l with
 |nil=>intro vs r;rw[show vs=[] from r];rfl
 |cons x l ih=>intro vs ⟨V,r',e,_,y⟩;rw[e];exact congrArg Ly (ih y)
theorem aR.get:∀{vs:List Value},aR ρ h l vs->∀{i:Nat} {p:PV},l[i]?=some p->∃v,vs[i]?=some v/\a7 ρ h p v:=by
 induction l with
 |nil=>intro _ _ i p e;cases e
 |cons q l ih=>
  intro vs ⟨V,r',e,x,y⟩ i p hp;rw[e];cases i with
  |zero=>cases hp;exact⟨V,rfl,x⟩
  |succ i=>exact ih y hp
theorem aR.append{k:List PV}{ws:List Value}(r:aR ρ h l vs)(q:aR ρ h k ws):aR ρ h (l++k) (vs++ws):=by
 induction l generalizing vs with
 |nil=>rw[show vs=[] from r];exact q
 |cons x l ih=>
  refine gg λG k_=>?_
  obtain⟨V,r',e,x,y⟩:=r;refine k_ ?_;exact⟨V,r'++ws,congrArg (·++ws) e,x,ih y⟩
theorem aR.one{p:PV}{v:Value}(r:a7 ρ h p v):aR ρ h [p] [v]:=⟨v,[],rfl,r,rfl⟩
theorem jy.mono(k:dX h h')(p:ρ<+:d9)(ka:h'.get? a=h.get? a)(kd:∀x,d=some x->h'.get? x=h.get? x):∀o:PO,jy w ρ h a d o->jy w d9 h' a d o
 |.list l,r=>by
  obtain⟨e,vs,n,g,r⟩:=r;exact⟨e,vs,n,ka.trans g,aR.mono k p _ _ r⟩
 |.dict l,r=>by
  obtain⟨e,kvs,⟨⟨o,es,ep,g,q⟩,lo⟩,m,r⟩:=r;exact⟨e,kvs,⟨⟨o,es,ep,ka.trans g,q⟩,lo⟩,m,aR.mono k p _ _ r⟩
 |.cN l,r=>by
  obtain⟨e,kvs,⟨⟨o,es,ep,g,q⟩,lo⟩,m,r⟩:=r;exact⟨e,kvs,⟨⟨o,es,ep,ka.trans g,q⟩,lo⟩,m,aR.mono k p _ _ r⟩
 |.inst c fs,r=>by
  refine gg λG k_=>?_
  obtain⟨dx,vs,es,n,e,g,gd,q,r⟩:=r;refine k_ ?_;exact⟨dx,vs,es,n,e,ka.trans g,(kd dx e).trans gd,q,aR.mono k p _ _ r⟩
def Xy(o:Obj):Prop:=o.cls≠.type "tuple"\/∀vs n,o.data≠.seq vs n
theorem jy.at_:∀{o:PO},jy w ρ h a d o->(∃x,h.get? a=some x/\x.cls≠.type "tuple"/\∀vs,x.data≠.fields vs)/\∀b,d=some b->∃x,h.get? b=some x/\x.cls≠.type "tuple"/\∀vs,x.data≠.fields vs
 |.list l,r=>by
  obtain⟨rfl,vs,n,g,_⟩:=r;exact⟨⟨_,g,by simp,by simp⟩,λ_ e=>nomatch e⟩
 |.dict l,r=>by
  obtain⟨rfl,kvs,⟨⟨o,es,ep,g,q,qd,_⟩,_⟩,_,_⟩:=r;exact⟨⟨_,g,by rw[q.1];simp,by rw[qd];simp⟩,λ_ e=>nomatch e⟩
 |.cN l,r=>by
  obtain⟨rfl,kvs,⟨⟨o,es,ep,g,q,qd,_⟩,_⟩,_,_⟩:=r;exact⟨⟨_,g,by rw[q.1];simp,by rw[qd];simp⟩,λ_ e=>nomatch e⟩
 |.inst c fs,r=>by
  refine gg λG k_=>?_
  obtain⟨dx,vs,es,n,rfl,g,gd,_,_⟩:=r;refine k_ ?_;refine⟨⟨_,g,by simp,by simp⟩,λb e=>?_⟩;cases e
  exact⟨_,gd,by simp,by simp⟩
theorem eG{b:Addr}:b∈addrs ρ↔∃(i:Nat) (a:Addr) (d:Option Addr),ρ[i]?=some (a,d)/\(b=a\/d=some b):=by
 unfold addrs;rw[List.mem_flatMap];constructor
 ·rintro⟨⟨a,d⟩,hp,hb⟩
  obtain⟨i,hi,e⟩:=Ao hp;refine⟨i,a,d,?_,?_⟩
  ·rw[ak];exact⟨hi,e⟩
  ·rcases aP.mp hb with q|q
   ·exact .inl q
   ·exact .inr (by simpa using q)
 ·rintro⟨i,a,d,e,q⟩
  obtain⟨hi,e'⟩:=ak.mp e;refine⟨(a,d),e'▸qf hi,?_⟩;rcases q with rfl|q
  ·exact .head _
  ·subst q;exact .tail _ (.head _)
section
variable{C:Cx}
theorem Inv.L0(I:Inv w H0 C ρ st h):H0.get? C.env.locals=none:=I.l0
theorem Inv.pv(I:Inv w H0 C ρ st h):∃o es ep,h.get? C.env.locals=some o/\o.data=.dict es ep:=by
 refine gg λG k_=>?_
 obtain⟨m,⟨o,es,ep,a,b,_⟩,_⟩:=I.loc;refine k_ ?_;exact⟨o,es,ep,a,b⟩
theorem Inv.qH(I:Inv w H0 C ρ st h){b:Addr}(hb:b∈addrs ρ):∃x,h.get? b=some x/\x.cls≠.type "tuple"/\∀vs,x.data≠.fields vs:=by
 refine gg λG k_=>?_
 obtain⟨i,a,d,e,q⟩:=eG.mp hb;refine k_ ?_;refine gg λG k_=>?_
 have hi:i<st.hp.length:=I.len▸(ak.mp e).1;obtain⟨a',d',e',r⟩:=I.objs i st.hp[i] (bp hi);rw[e] at e';cases e';refine k_ ?_;rcases q with rfl|q
 ·exact(jy.at_ r).1
 ·exact(jy.at_ r).2 b q
theorem Inv.E7(I:Inv w H0 C ρ st h){b:Addr}{o:Obj}(e:h.get? b=some o)(hc:o.cls=.type "tuple")(hd:∃vs n,o.data=.seq vs n):b∉own C ρ:=by
 obtain⟨vs,n,hd⟩:=hd;intro hm;rcases eV.mp hm with q|q|q
 ·obtain⟨o',es,ep,e',d'⟩:=I.pv;rw[<-q,e] at e';cases e';rw[hd] at d';cases d'
 ·obtain⟨p,hp,rfl⟩:=bD.mp (I.Cu _ q);obtain⟨_,⟨v,o',e',d'⟩,_⟩:=I.cells p hp;rw[e] at e';cases e';rw[hd] at d';cases d'
 ·obtain⟨x,e',c',_⟩:=I.qH q;rw[e] at e';cases e';exact c' hc
theorem a7.ext(I:Inv w H0 C ρ st h)(X:Ext C ρ h d9 h'):∀(v:PV) (V:Value),a7 ρ h v V->a7 d9 h' v V:=
 a7.mono (λa o vs n g c d=>X.keep a o g (I.E7 g c ⟨vs,n,d⟩)) X.pre
theorem aR.ext(I:Inv w H0 C ρ st h)(X:Ext C ρ h d9 h'):∀(l:List PV) (vs:List Value),aR ρ h l vs->aR d9 h' l vs:=
 aR.mono (λa o vs n g c d=>X.keep a o g (I.E7 g c ⟨vs,n,d⟩)) X.pre
theorem Inv.NR(I:Inv w H0 C ρ st h){b:Addr}(hb:b∈own C ρ):H0.get? b=none/\b<h.objs.size:=by
 rcases eV.mp hb with rfl|q|q
 ·obtain⟨o,_,_,e,_⟩:=I.pv;exact⟨I.L0,aK e⟩
 ·obtain⟨p,hp,rfl⟩:=bD.mp (I.Cu _ q);refine gg λG k_=>?_
  obtain⟨a,⟨v,o',e',d'⟩,_⟩:=I.cells p hp;refine k_ ?_;exact⟨a,aK e'⟩
 ·exact I.fresh b q
theorem qA.keep{m:Str->Option Value}{loc:List (Option PV)}(l:qA C ρ h m loc)(tk:dX h h')(pre:ρ<+:d9)(ck:∀y c v,C.env.cells.lookup y=some c->h.IsCell c v->h'.IsCell c v):qA C d9 h' m loc:=by
 intro j v e;obtain⟨y,V,a,b,c⟩:=l j v e;refine⟨y,V,a,a7.mono tk pre _ _ b,c.imp id (Or.imp (λz=>?_) λz=>?_)⟩
 ·obtain⟨c1,c,c2,c3⟩:=z;exact⟨c1,c,c2,ck y c _ c2 c3⟩
 ·obtain⟨c1,c,c2,c3⟩:=z;exact⟨c1,c,c2,ck y c _ c2 c3⟩
theorem Inv.slots(I:Inv w H0 C ρ st h)(k0:∀b o,H0.get? b=some o->h'.get? b=some o)(k1:∀b∈addrs ρ,h'.get? b=h.get? b)
 (k2:∀b o,h.get? b=some o->b∈own C ρ\/(∀vs,o.data≠.fields vs)->∃sl,h'.get? b=some {o with slots:=sl}) (sz:h.objs.size<=h'.objs.size):Inv w H0 C ρ st h':=by
 have tk:dX h h':=λa o _ _ e _ d=>k2 a o e (.inr (by rw[d];simp))
 have ck:∀{c:Addr} {v:Option Value},h.IsCell c v->h'.IsCell c v:=λ⟨o,e,d⟩=>by
  obtain⟨sl,e'⟩:=k2 _ o e (.inr (by rw[d];simp));exact⟨_,e',d⟩
 refine⟨k0,?_,?_,I.frame,I.apart,I.eN,λp hp=>?_,I.len,λi o e=>?_,I.nodup,λa ha=>⟨(I.fresh a ha).1,aB (I.fresh a ha).2 sz⟩,I.l0,I.Cu⟩
 ·refine I.frames.of_keeps λb o e d=>?_
  obtain⟨sl,e'⟩:=k2 b o e (.inr d);exact⟨_,e',rfl⟩
 ·obtain⟨m,⟨o,es,ep,e,d,q⟩,l⟩:=I.loc;obtain⟨sl,e'⟩:=k2 _ o e (.inl (eV.mpr (.inl rfl)));exact⟨m,⟨_,es,ep,e',d,q⟩,l.keep tk (a_ _) λ_ _ _ _=>ck⟩
 ·obtain⟨a,⟨v,b⟩,c⟩:=I.cells p hp;exact⟨a,⟨v,ck b⟩,c⟩
 ·obtain⟨a,d,e,r⟩:=I.objs i o e;refine⟨a,d,e,jy.mono tk (a_ _) (k1 a (eG.mpr ⟨i,a,d,e,.inl rfl⟩)) (λx hx=>k1 x (eG.mpr ⟨i,a,d,e,.inr hx⟩)) o r⟩
theorem Inv.F3(I:Inv w H0 C ρ st h)(k:∀b o,h.get? b=some o->b∈own C ρ\/H0.get? b=some o\/(∀vs,o.data≠.fields vs)->h'.get? b=some o)(sz:h.objs.size<=h'.objs.size):Inv w H0 C ρ st h':=
 I.slots (λb o e=>k b o (I.old b o e) (.inr (.inl e))) (λb hb=>by
  obtain⟨x,e,_⟩:=I.qH hb;simp only[e];exact k b x e (.inl (eV.mpr (.inr (.inr hb))))) (λb o e q=>⟨o.slots,k b o e (q.imp id .inr)⟩) sz
theorem Inv.keeps(I:Inv w H0 C ρ st h)(k:∀b o,h.get? b=some o->h'.get? b=some o)(sz:h.objs.size<=h'.objs.size):Inv w H0 C ρ st h':=I.F3 (λb o e _=>k b o e) sz
theorem Inv.push(I:Inv w H0 C ρ st h)(o:Obj):Inv w H0 C ρ st (h.push o):=I.keeps (λ_ _ e=>az _ e) (by simp only[a9];lia)
theorem Ext.of_keeps(k:∀b o,h.get? b=some o->h'.get? b=some o)(sz:h.objs.size<=h'.objs.size):Ext C ρ h ρ h':=⟨a_ _,sz,λb o e _=>⟨o.slots,k b o e⟩,λ_ h=>.inl h,λ_ _ _ e _=>k _ _ e⟩
theorem Ext.push(o:Obj):Ext C ρ h ρ (h.push o):=.of_keeps (λ_ _ e=>az _ e) (by simp only[a9];lia)
end
set_option backward.match.sparseCases true
structure Cx.Ok(C:Cx):Prop where
 fn:C.env.scope.kind=.function
 gl:C.env.globals=mainGlobals
 bl:C.env.builtins=builtinsNs
 st:C.A.frames=some (C.fV::C.outer)
 hd:C.A.handled=none
 nd:C.names.Nodup
 cd:(C.env.cells.map (·.2)).Nodup
 ff:C.fV.frame=C.env.frame
def af(i:Nat):M PV:=λst=>match st.loc[i]?with|some (some v)=>.ok v st|_=>.bad
noncomputable def aX(i:Nat)(v:PV):M Unit:=λst=>.ok () {st with loc:=st.loc.set i (some v)}
abbrev cv:eS->Heap->PV->Value->Prop:=λρ h b a=>a7 ρ h b a
def i6:eS->Heap->Unit->Unit->Prop:=λ_ _ _ _=>True
def iA:eS->Heap->Bool->Bool->Prop:=λ_ _ b a=>a=b
def pV:eS->Heap->PF->Flow->Prop:=λρ h b a=>match b with
 |.next=>a=.next
 |.cont=>a=.cont
 |.brk=>a=.brk
 |.ret v=>∃V,a=.ret V/\a7 ρ h v V
abbrev bj(w:World)(H0:Heap)(C:Cx)(e:Expr)(m:M PV):Prop:=c_ w H0 C cv (eval e C.env) m
abbrev d7(w:World)(H0:Heap)(C:Cx)(e:Expr)(m:M Bool):Prop:=c_ w H0 C iA (isTrue e C.env (eval e C.env)) m
abbrev dr(w:World)(H0:Heap)(C:Cx)(e:Stmt)(m:M PF):Prop:=c_ w H0 C pV (exec e C.env) m
abbrev i4(w:World)(H0:Heap)(C:Cx)(l:List Stmt)(m:M PF):Prop:=c_ w H0 C pV (execs l C.env) m
section
variable{C:Cx}{rel:eS->Heap->β->α->Prop}
theorem FunFrames.upd{base:Heap}(k:∀b o,b≠L->h.get? b=some o->∃o',h'.get? b=some o'/\o'.data=o.data)(hL:∃o,h'.get? L=some o/\∀vs,o.data≠.fields vs){l:List Env}:h.FunFrames base l->h'.FunFrames base l:=by
 induction l with
 |nil=>exactλ_=>trivial
 |cons env l ih=>
  intro ff;obtain⟨a,⟨F,o,b,c,d,e⟩,r⟩:=ff;refine⟨a,?_,ih r⟩;by_cases q:F=L
  ·rw[q] at b c;obtain⟨o',g,z⟩:=hL;exact⟨L,o',b,c,g,z⟩
  ·obtain⟨o',g,z⟩:=k F o q d;exact⟨F,o',b,c,g,z▸e⟩
theorem dX.one{c:Addr}{o0:Obj}(hs:dK c h h')(e0:h.get? c=some o0)(d0:∀vs n,o0.data≠.seq vs n):dX h h':=λa o vs n e _ d=>by
 by_cases q:a=c
 ·rw[q,e0] at e;exact absurd d (ao e▸d0 vs n)
 ·exact⟨o.slots,(hs.2 a q).trans e⟩
theorem Inv.one{c:Addr}{o0 o1:Obj}{IJ:List (Option PV)}(I:Inv w H0 C ρ st h)(hs:dK c h h')(hc:c=C.env.locals\/c∈C.wc)(e0:h.get? c=some o0)(d0:(∀vs n,o0.data≠.seq vs n)/\∀vs,o0.data≠.fields vs)(e1:h'.get? c=some o1)(d1:∀vs,o1.data≠.fields vs)
 (lc:∃m,h'.Ns C.env.locals m/\qA C ρ h' m IJ) (cl:∀p∈C.env.cells,∃v,h'.IsCell p.2 v):Inv w H0 C ρ ⟨IJ,st.hp⟩ h'/\Ext C ρ h ρ h':=by
 have tk:=dX.one hs e0 d0.1;have ho:c∈own C ρ:=eV.mpr (hc.imp id .inl);have ne:∀b∈addrs ρ,b≠c:=λb hb q=>by
  simp only[q] at hb;rcases hc with z|z
  ·exact I.apart (z▸hb)
  ·obtain⟨p,hp,e⟩:=bD.mp (I.Cu _ z);exact(I.cells p hp).2.2.1 (e▸hb)
 refine⟨⟨λb o e=>(hs.2 b (λq=>by rw[q,(I.NR ho).1] at e;exact nS e)).trans (I.old b o e),FunFrames.upd (λb o q e=>⟨o,(hs.2 b q).trans e,rfl⟩) ⟨o1,e1,d1⟩ I.frames,lc,I.frame,I.apart,I.eN,λp hp=>⟨(I.cells p hp).1,cl p hp,(I.cells p hp).2.2⟩,I.len,λj o e=>?_,I.nodup,λa ha=>⟨(I.fresh a ha).1,hs.1▸(I.fresh a ha).2⟩,I.l0,I.Cu⟩,?_⟩
 ·obtain⟨a,d,e,r⟩:=I.objs j o e;exact⟨a,d,e,jy.mono tk (a_ _) (hs.2 a (ne a (eG.mpr ⟨j,a,d,e,.inl rfl⟩))) (λx hx=>hs.2 x (ne x (eG.mpr ⟨j,a,d,e,.inr hx⟩))) o r⟩
 ·exact⟨a_ _,bI hs.1.symm,λb o e hb=>⟨o.slots,(hs.2 b (λq=>hb (q▸ho))).trans e⟩,λ_ h=>.inl h,λb o vs e d=>(hs.2 b (λq=>by rw[q,e0] at e;exact d0.2 vs (ao e▸d))).trans e⟩
theorem qA.set{m m':Str->Option Value}{x:Str}{loc:List (Option PV)}{u:Option PV}(K:C.Ok)(l:qA C ρ h m loc)(tk:dX h h')(ck:∀y z v,y≠x->C.env.cells.lookup y=some z->h.IsCell z v->h'.IsCell z v)(hi:C.names[i]?=some x)(hm:∀y,y≠x->m' y=m y)
 (hu:∀v,u=some v->∃V,a7 ρ h' v V/\((C.env.kindOf x=some .local/\m' x=some V)\/(C.env.kindOf x=some .cell/\∃c,C.env.cells.lookup x=some c/\h'.IsCell c (some V)))):qA C ρ h' m' (loc.set i u):=by
 intro j v e;by_cases q:j=i
 ·rw[q,CA] at e;rw[if_pos rfl] at e;refine gg λG k_=>?_
  obtain⟨V,r,k⟩:=hu v (ao (iN e).2);refine k_ ?_;exact⟨x,V,by rw[q];exact hi,r,k.imp id .inl⟩
 ·rw[fR (fN q)] at e;refine gg λG k_=>?_
  obtain⟨y,U,a,b,c⟩:=l j v e;refine k_ ?_;have yx:y≠x:=λz=>q ((Cz (ak.mp a).1 K.nd).mp (a.trans (z▸hi.symm)))
  exact⟨y,U,a,a7.mono tk (a_ _) _ _ b,c.imp (λc=>⟨c.1,(hm y yx).trans c.2⟩) (Or.imp (λ⟨c1,c,c2,c3⟩=>⟨c1,c,c2,ck y c _ yx c2 c3⟩) λ⟨c1,c,c2,c3⟩=>⟨c1,c,c2,ck y c _ yx c2 c3⟩)⟩
theorem Inv.locs{m:Str->Option Value}{x:Str}{u:Option PV}{U:Option Value}(K:C.Ok)(I:Inv w H0 C ρ st h)(l:qA C ρ h m st.loc)(hs:dK C.env.locals h h')(hn:h'.Ns C.env.locals (λy=>if y=x then U else m y))
 (hi:C.names[i]?=some x) (hu:∀v,u=some v->∃V,a7 ρ h v V/\C.env.kindOf x=some .local/\U=some V):Inv w H0 C ρ {st with loc:=st.loc.set i u} h'/\Ext C ρ h ρ h':=by
 refine gg λG k_=>?_
 obtain⟨o0,Ć,Ą,e0,d0⟩:=I.pv;refine k_ ?_;refine gg λG k_=>?_
 obtain⟨o1,es,ep,e1,d1,_⟩:=id hn;refine k_ ?_;have d:(∀vs n,o0.data≠.seq vs n)/\∀vs,o0.data≠.fields vs:=by rw[d0];exact⟨nofun,nofun⟩
 have tk:=dX.one hs e0 d.1;have ck:∀p∈C.env.cells,∀v,h.IsCell p.2 v->h'.IsCell p.2 v:=λp hp v ⟨o,e,d⟩=>⟨o,(hs.2 _ (I.cells p hp).2.2.2).trans e,d⟩
 exact I.one hs (.inl rfl) e0 d e1 (by rw[d1];nofun) ⟨_,hn,l.set K tk (λy z v _ hz=>ck (y,z) (mem_of_lookup hz) v) hi (λy q=>if_neg q) λv e=>by
  obtain⟨V,r,k,z⟩:=hu v e;exact⟨V,a7.mono tk (a_ _) _ _ r,.inl ⟨k,(if_pos rfl).trans z⟩⟩⟩ λp hp=>let⟨v,b⟩:=(I.cells p hp).2.1;⟨v,ck p hp v b⟩
theorem Inv.oX{m:Str->Option Value}{x:Str}(K:C.Ok)(I:Inv w H0 C ρ st h)(l:qA C ρ h m st.loc)(hs:dK C.env.locals h h')(hn:h'.Ns C.env.locals (λy=>if y=x then some V else m y))
 (hi:C.names[i]?=some x) (hk:C.env.kindOf x=some .local) (r:a7 ρ h v V):Inv w H0 C ρ {st with loc:=st.loc.set i (some v)} h'/\Ext C ρ h ρ h':=
 I.locs K l hs hn hi λu e=>⟨V,ao e▸r,hk,rfl⟩
theorem aG.oX{x:Str}(K:C.Ok)(I:Inv w H0 C ρ st s.heap)(hi:C.names[i]?=some x)(hk:C.env.kindOf x=some .local)(r:a7 ρ s.heap v V):aG w H0 C i6 ρ st s (storeName C.env x V) (aX i v):=by
 intro Q E p;obtain⟨m,hn,l⟩:=I.loc;refine fT hk hn (λh' Rr hs=>?_) (by rw[K.fn];rfl);obtain⟨I',X'⟩:=I.oX K l hs Rr hi hk r;exact p ρ () h' _ I' X' trivial
theorem bj.loc(K:C.Ok){x:Str}(hi:C.names[i]?=some x)(hd:(x==("__debug__":Str))=aj)(hd2:(x==("__classdict__":Str))=aj):bj w H0 C (.Name x pos) (af i):=by
 intro ρ st s I Q E p;unfold af at p;obtain⟨m,hn,l⟩:=I.loc;split at p
 ·rename_i v e;refine gg λG k_=>?_
  obtain⟨y,V,a,b,c⟩:=l i v e;refine k_ ?_;rw[hi] at a;cases a;have fin:Q V s:=p ρ V s.heap s.toks I (.refl ..) b;refine jK ?_ hd;rcases c with⟨c1,c2⟩|⟨c1,c,c2,c3⟩|⟨c1,c,c2,c3⟩
  ·exact gh K.fn c1 hn c2 fin
  ·exact pP K.fn c1 c2 c3 fin
  ·exact wpAny_loadName_free K.fn c1 c2 c3 fin hd2
 ·exact p.elim
theorem bj.int{i:Int}{k:Nat}:bj w H0 C (.Constant (.int i) k pos) (pure (.int i)):=
 λρ _ s I _ _ p=>Hk (p ρ _ s.heap _ I (.refl ..) ⟨_,rfl⟩)
theorem bj.str{x:Str}{k:Nat}:bj w H0 C (.Constant (.str x) k pos) (pure (.str x)):=
 λρ _ s I _ _ p=>jw (p ρ _ s.heap _ I (.refl ..) ⟨_,rfl⟩)
theorem bj.bytes{b:List UInt8}{k:Nat}:bj w H0 C (.Constant (.bytes b) k pos) (pure (.bytes b)):=
 λρ _ s I _ _ p=>O6 (p ρ _ s.heap _ I (.refl ..) ⟨_,rfl⟩)
theorem bj.TH{b:Bool}{k:Nat}:bj w H0 C (.Constant (.bool b) k pos) (pure (.bool b)):=
 λρ _ s I _ _ p=>aE (p ρ _ s.heap _ I (.refl ..) rfl)
theorem bj.none_{k:Nat}:bj w H0 C (.Constant .none k pos) (pure .none):=
 λρ _ s I _ _ p=>aE (p ρ _ s.heap _ I (.refl ..) rfl)
theorem aG.two{f:Value->Value->Sem α}{a:Sem Value}{b:Value->Sem Value}{ma mb:M PV}{g:PV->PV->M β}(I:Inv w H0 C ρ st s.heap)(ha:c_ w H0 C cv a ma)(hb:∀X,c_ w H0 C cv (b X) mb)
 (hf:∀ρ st s x y X Y,Inv w H0 C ρ st s.heap->a7 ρ s.heap x X->a7 ρ s.heap y Y->aG w H0 C rel ρ st s (f X Y) (g x y)):
 aG w H0 C rel ρ st s (a>>=λX=>b X>>=λY=>f X Y) (do let x<-ma;let y<-mb;g x y):=
 (ha ρ st s I).bind λbC aV _ _ x X bK _ Ob=>(hb X bC aV _ bK).bind λc8 cQ _ _ y Y dg dS gm=>hf c8 cQ _ x y X Y dg (a7.ext bK dS _ _ Ob) gm
def ki(w:World)(H0:Heap)(C:Cx)(f:Value->Value->Sem Value)(g:PV->PV->M PV):Prop:=
 ∀ρ st s x y X Y,Inv w H0 C ρ st s.heap->a7 ρ s.heap x X->a7 ρ s.heap y Y->aG w H0 C cv ρ st s (f X Y) (g x y)
theorem aG.wp{t t':Sem α}{m:M β}(h:∀Q E,wpAny (model pw w) C.A t' Q E s->wpAny (model pw w) C.A t Q E s)(x:aG w H0 C rel ρ st s t' m):aG w H0 C rel ρ st s t m:=λQ E p=>h Q E (x Q E p)
theorem aG.operate{t:Sem Value}{m:M PV}(x:aG w H0 C cv ρ st s t m):aG w H0 C cv ρ st s (operate vs t) m:=λQ E p=>Uj (x Q E p)
theorem bj.bin{l r:Expr}{op:sN}{ma mb:M PV}{g:PV->PV->M PV}(ha:bj w H0 C l ma)(hb:bj w H0 C r mb)(hf:ki w H0 C (binaryOp op) g):
 bj w H0 C (.BinOp l op r pos) (do let x<-ma;let y<-mb;g x y):=by
 intro ρ st s I;simp only[eval_BinOp];exact aG.two (b:=λX=>holding [X] (eval r C.env)) (f:=λX Y=>standAt pos>>=λ_=>operate [X,Y] (binaryOp op X Y)) I ha (λX ρ st s I=>(hb ρ st s I).holding) λρ st s x y X Y I a b=>.standAt (.operate (hf ρ st s x y X Y I a b))
theorem bj.cmp{l r:Expr}{op:CmpOp}{ma mb:M PV}{g:PV->PV->M PV}(ha:bj w H0 C l ma)(hb:bj w H0 C r mb)(hf:ki w H0 C (compareOp op) g)
 (hm:behindInMarks op r=aj):bj w H0 C (.Compare l [op] [r] pos) (do let x<-ma;let y<-mb;g x y):=by
 intro ρ st s I;simp only[eval_Compare1,g7 hm];exact aG.two (b:=λX=>holding [X] (eval r C.env)) (f:=λX Y=>standAt pos>>=λ_=>operate [X,Y] (compareOp op X Y)) I ha (λX ρ st s I=>(hb ρ st s I).holding) λρ st s x y X Y I a b=>.standAt (.operate (hf ρ st s x y X Y I a b))
def dz:PV->M Bool
 |.bool b=>pure b
 |_=>M.bad
theorem aG.truthy(I:Inv w H0 C ρ st s.heap)(r:a7 ρ s.heap v V):aG w H0 C iA ρ st s (truthy V) (dz v):=by
 intro Q E p;cases v<;>first|exact p.elim|skip
 obtain rfl:V=_:=r;exact ky (p ρ _ s.heap s.toks I (.refl ..) rfl)
theorem d7.cmp{l r:Expr}{op:CmpOp}{ma mb:M PV}{g:PV->PV->M PV}(ha:bj w H0 C l ma)(hb:bj w H0 C r mb)(hf:ki w H0 C (compareOp op) g)
 (hm:behindInMarks op r=aj):d7 w H0 C (.Compare l [op] [r] pos) (do let x<-ma;let y<-mb;let c<-g x y;dz c):=by
 intro ρ st s I;simp only[isTrue_Compare1,g7 hm];refine aG.two (b:=λX=>holding [X] (eval r C.env)) (f:=λX Y=>standAt pos>>=λ_=>operate [X,Y] (compareOp op X Y)>>=λc=>holding [c] (truthy c)) (g:=λx y=>g x y>>=dz) I ha (λX ρ st s I=>(hb ρ st s I).holding) λρ st s x y X Y I a b=>.standAt ?_
 exact(aG.operate (hf ρ st s x y X Y I a b)).bind λbC aV _ _ c _ bK _ r=>.holding (.truthy bK r)
theorem d7.val{m:M PV}(h:bj w H0 C e m)(he:∀whole,isTrue e C.env whole=(whole>>=λv=>standAt e.pos>>=λ_=>holding [v] (truthy v))):d7 w H0 C e (do let v<-m;dz v):=by
 intro ρ st s I;simp only[he];exact(h ρ st s I).bind λbC aV _ _ v _ bK _ r=>.standAt (.holding (.truthy bK r))
theorem d7.not{x:Expr}{m:M Bool}(h:d7 w H0 C x m):d7 w H0 C (.UnaryOp .Not x pos) (do let b<-m;pure (!b)):=by
 intro ρ st s I;show aG w H0 C iA ρ st s (isTrue x C.env (eval x C.env)>>=λb=>pure (!b)) _;exact(h ρ st s I).bind λbC aV _ _ b a bK _ r=>.pure bK (congrArg (!·) r)
theorem d7.bool{op:n5}{m:M Bool}(h:c_ w H0 C iA (allTrue op es C.env) m):d7 w H0 C (.BoolOp op es pos) m:=h
theorem d7.Ma:c_ w H0 C iA (allTrue .And [] C.env) (pure ah):=λ_ _ _ I=>.pure I rfl
theorem d7.SX:c_ w H0 C iA (allTrue .Or [] C.env) (pure aj):=λ_ _ _ I=>.pure I rfl
theorem d7.Hz{x:Expr}{m k:M Bool}(h:d7 w H0 C x m)(t:c_ w H0 C iA (allTrue .And es C.env) k):c_ w H0 C iA (allTrue .And (x::es) C.env) (do let b<-m;if b then k else pure aj):=by
 intro ρ st s I;show aG w H0 C iA ρ st s (isTrue x C.env (eval x C.env)>>=λb=>match O0,b with|.And,aj=>pure aj|.Or,ah=>pure ah|_,_=>allTrue .And es C.env) _;refine(h ρ st s I).bind λbC aV _ _ b a bK _ r=>?_
 cases r
 cases b
 ·exact .pure bK rfl
 ·exact t _ _ _ bK
theorem d7.NP{x:Expr}{m k:M Bool}(h:d7 w H0 C x m)(t:c_ w H0 C iA (allTrue .Or es C.env) k):c_ w H0 C iA (allTrue .Or (x::es) C.env) (do let b<-m;if b then pure ah else k):=by
 intro ρ st s I;show aG w H0 C iA ρ st s (isTrue x C.env (eval x C.env)>>=λb=>match BoolOp.Or,b with|.And,aj=>pure aj|.Or,ah=>pure ah|_,_=>allTrue .Or es C.env) _;refine(h ρ st s I).bind λbC aV _ _ b a bK _ r=>?_
 cases r
 cases b
 ·exact t _ _ _ bK
 ·exact .pure bK rfl
theorem bj.ite{test body orelse:Expr}{m:M Bool}{a b:M PV}(h:d7 w H0 C test m)(ha:bj w H0 C body a)(hb:bj w H0 C orelse b):bj w H0 C (.IfExp test body orelse pos) (do let c<-m;if c then a else b):=by
 intro ρ st s I;show aG w H0 C cv ρ st s (isTrue test C.env (eval test C.env)>>=λc=>if c then eval body C.env else eval orelse C.env) _;refine(h ρ st s I).bind λbC aV _ _ c _ bK _ r=>?_
 cases r
 cases c
 ·exact hb _ _ _ bK
 ·exact ha _ _ _ bK
theorem i4.nil:i4 w H0 C [] (pure .next):=λ_ _ _ I=>.pure I rfl
theorem i4.cons{x:Stmt}{l:List Stmt}{m k:M PF}(h:dr w H0 C x m)(t:i4 w H0 C l k):i4 w H0 C (x::l) (do let f<-m;match f with|.next=>k|f=>pure f):=by
 intro ρ st s I;dsimp only[execs_cons];refine(h ρ st s I).bind λbC aV _ _ f F bK _ r=>?_
 cases f with
 |next=>obtain rfl:F=.next:=r;exact t _ _ _ bK
 |cont=>obtain rfl:F=.cont:=r;exact .pure bK rfl
 |brk=>obtain rfl:F=.brk:=r;exact .pure bK rfl
 |ret v=>obtain⟨V,rfl,r⟩:=r;exact .pure bK ⟨V,rfl,r⟩
theorem dr.Ê{test:Expr}{orelse:List Stmt}{m:M Bool}{a b:M PF}(h:d7 w H0 C test m)(ha:i4 w H0 C body a)(hb:i4 w H0 C orelse b):dr w H0 C (.If test body orelse pos) (do let c<-m;if c then a else b):=by
 intro ρ st s I;simp only[exec_If];refine .standAt ((h ρ st s I).bind λbC aV _ _ c _ bK _ r=>?_);cases r
 cases c
 ·exact hb _ _ _ bK
 ·exact ha _ _ _ bK
theorem dr.ret{m:M PV}(h:bj w H0 C e m):dr w H0 C (.Return (some e) pos) (do let v<-m;pure (.ret v)):=by
 intro ρ st s I;simp only[Pu];exact .standAt ((h ρ st s I).bind λbC aV _ _ v V bK _ r=>.pure bK ⟨V,rfl,r⟩)
theorem dr.Jk:dr w H0 C (.Return none pos) (pure (.ret .none)):=by
 intro ρ st s I;simp only[exec_Return_none];exact .standAt (.pure I ⟨_,rfl,rfl⟩)
theorem dr.cont:dr w H0 C (.Continue pos) (pure .cont):=by
 intro ρ st s I;show aG w H0 C pV ρ st s (standAt pos>>=λ_=>pure .cont) _;exact .standAt (.pure I rfl)
end
set_option backward.match.sparseCases false
def RF(f:Int->Int->Int):PV->PV->M PV
 |.int a,.int b=>pure (.int (f a b))
 |_,_=>M.bad
def rH(f:Int->Int->Bool):PV->PV->M PV
 |.int a,.int b=>pure (.bool (f a b))
 |_,_=>M.bad
noncomputable def small(a:Int):Bool:=decide (-(2^64)<a/\a<2^64)
def Nh:PV->PV->M PV
 |.int a,.int b=>if small a||small b then pure (.int (a*b)) else M.bad
 |_,_=>M.bad
def imod:PV->PV->M PV
 |.int a,.int b=>if b=0 then M.bad else pure (.int (a.fmod b))
 |_,_=>M.bad
def Od(f:Str->Str->Bool):PV->PV->M PV
 |.str a,.str b=>pure (.bool (f a b))
 |_,_=>M.bad
def Mi(f:List UInt8->List UInt8->Bool):PV->PV->M PV
 |.bytes a,.bytes b=>pure (.bool (f a b))
 |_,_=>M.bad
def Mh:PV->PV->M PV
 |.bytes a,.bytes b=>if a.length+b.length<=16777216 then pure (.bytes (a++b)) else M.bad
 |_,_=>M.bad
section
variable{C:Cx}{rel:eS->Heap->β->α->Prop}
theorem aG.give{t:Sem Value}(I:Inv w H0 C ρ st s.heap)(h:∀(Q:Value->aH->Prop) (E:Value->aH->Prop),(∀V k,a7 ρ s.heap v V->Q V {s with toks:=k})->wpAny (model pw w) C.A t Q E s):aG w H0 C cv ρ st s t (bB v:M PV):=
 λQ E p=>h Q E λV k r=>p ρ V s.heap k I (.refl ..) r
theorem Fi{F:Value->Value->Sem Value}{f:Int->Int->Int}(hf:∀{s:aH} {A:e_} {a b:Int} {t u:Tok} {Q:Value->aH->Prop} {E:Value->aH->Prop},Q (.int (f a b) s.toks) {s with toks:=s.toks+1}->wpAny (model pw w) A (F (.int a t) (.int b u)) Q E s):ki w H0 C F (RF f):=by
 intro ρ st s x y X Y I a b;cases x<;>first|exactλ_ _ p=>p.elim|skip
 cases y<;>first|exactλ_ _ p=>p.elim|skip
 obtain⟨t,rfl⟩:=a;obtain⟨u,rfl⟩:=b;exact .give I λQ E q=>hf (q _ _ ⟨_,rfl⟩)
theorem lK{F:Value->Value->Sem Value}{f:Int->Int->Bool}(hf:∀{s:aH} {A:e_} {a b:Int} {t u:Tok} {Q:Value->aH->Prop} {E:Value->aH->Prop},Q (.bool (f a b)) s->wpAny (model pw w) A (F (.int a t) (.int b u)) Q E s):ki w H0 C F (rH f):=by
 intro ρ st s x y X Y I a b;cases x<;>first|exactλ_ _ p=>p.elim|skip
 cases y<;>first|exactλ_ _ p=>p.elim|skip
 obtain⟨t,rfl⟩:=a;obtain⟨u,rfl⟩:=b;exact .give I λQ E q=>hf (q _ s.toks rfl)
theorem zQ{F:Value->Value->Sem Value}{f:Str->Str->Bool}(hf:∀{s:aH} {A:e_} {a b:Str} {t u:Tok} {Q:Value->aH->Prop} {E:Value->aH->Prop},Q (.bool (f a b)) s->wpAny (model pw w) A (F (.str a t) (.str b u)) Q E s):ki w H0 C F (Od f):=by
 intro ρ st s x y X Y I a b;cases x<;>first|exactλ_ _ p=>p.elim|skip
 cases y<;>first|exactλ_ _ p=>p.elim|skip
 obtain⟨t,rfl⟩:=a;obtain⟨u,rfl⟩:=b;exact .give I λQ E q=>hf (q _ s.toks rfl)
theorem zP{F:Value->Value->Sem Value}{f:List UInt8->List UInt8->Bool}(hf:∀{s:aH} {A:e_} {a b:List UInt8} {t u:Tok} {Q:Value->aH->Prop} {E:Value->aH->Prop},Q (.bool (f a b)) s->wpAny (model pw w) A (F (.bytes a.toArray t) (.bytes b.toArray u)) Q E s):ki w H0 C F (Mi f):=by
 intro ρ st s x y X Y I a b;cases x<;>first|exactλ_ _ p=>p.elim|skip
 cases y<;>first|exactλ_ _ p=>p.elim|skip
 obtain⟨t,rfl⟩:=a;obtain⟨u,rfl⟩:=b;exact .give I λQ E q=>hf (q _ s.toks rfl)
theorem SP:ki w H0 C (binaryOp .Add) (RF (·+·)):=Fi λh=>P.add_int h
theorem SW:ki w H0 C (binaryOp .Sub) (RF (·-·)):=Fi λh=>P.sub_int h
theorem ß:ki w H0 C (compareOp .Eq) (rH (·==·)):=lK λh=>P.eq_int h
theorem à:ki w H0 C (compareOp .NotEq) (rH (·!=·)):=lK λh=>P.ne_int h
theorem XH:ki w H0 C (compareOp .Lt) (rH λa b=>decide (a<b)):=lK λh=>P.lt_int h
theorem XG:ki w H0 C (compareOp .LtE) (rH λa b=>decide (a<=b)):=lK λh=>P.le_int h
theorem XD:ki w H0 C (compareOp .Gt) (rH λa b=>decide (a>b)):=lK λh=>P.gt_int h
theorem XC:ki w H0 C (compareOp .GtE) (rH λa b=>decide (a>=b)):=lK λh=>P.ge_int h
theorem str_beq(a b:Str):(a.cps.toList==b.cps.toList)=decide (a=b):=by
 by_cases j3:a=b
 ·subst j3;simp
 ·simp only[decide_eq_false j3];refine beq_eq_false_iff_ne.mpr λhl=>j3 ?_
  cases a;cases b
  simp only[Str.mk.injEq];exact Cw.mp hl
theorem YS:ki w H0 C (compareOp .Eq) (Od λa b=>decide (a=b)):=zQ λh=>P.eq_str (by rw[str_beq];exact h)
theorem YT:ki w H0 C (compareOp .NotEq) (Od λa b=>!decide (a=b)):=zQ λh=>P.ne_str (by simp only[bne,str_beq];exact h)
theorem YQ:ki w H0 C (compareOp .Eq) (Mi (·==·)):=zP λh=>eq_bytes h
theorem YR:ki w H0 C (compareOp .NotEq) (Mi (·!=·)):=zP λh=>ne_bytes h
theorem SU:ki w H0 C (binaryOp .Mult) Nh:=by
 intro ρ st s x y X Y I a b;cases x<;>first|exactλ_ _ p=>p.elim|skip
 cases y<;>first|exactλ_ _ p=>p.elim|skip
 rename_i i j;obtain⟨t,rfl⟩:=a;obtain⟨u,rfl⟩:=b;unfold Nh;by_cases q:(small i||small j)=ah
 ·simp only[q,if_true];refine .give I λQ E q'=>P.mul_int (q' _ _ ⟨_,rfl⟩) ?_
  unfold small at q;simp only[iF,decide_eq_true_eq] at q;rcases q with q|q
  ·exact .of_left (intBits_le_64 q.1 q.2)
  ·exact .of_right (intBits_le_64 q.1 q.2)
 ·simp only[q];exactλ_ _ p=>p.elim
theorem SS:ki w H0 C (binaryOp .Mod) imod:=by
 intro ρ st s x y X Y I a b;cases x<;>first|exactλ_ _ p=>p.elim|skip
 cases y<;>first|exactλ_ _ p=>p.elim|skip
 rename_i i j;obtain⟨t,rfl⟩:=a;obtain⟨u,rfl⟩:=b;unfold imod;by_cases q:j=0
 ·simp only[q,if_true];exactλ_ _ p=>p.elim
 ·simp only[q,if_false];exact .give I λQ E q'=>mod_int' q (q' _ _ ⟨_,rfl⟩)
theorem NI:ki w H0 C (binaryOp .Add) Mh:=by
 intro ρ st s x y X Y I a b;cases x<;>first|exactλ_ _ p=>p.elim|skip
 cases y<;>first|exactλ_ _ p=>p.elim|skip
 rename_i i j;obtain⟨t,rfl⟩:=a;obtain⟨u,rfl⟩:=b;unfold Mh;by_cases q:i.length+j.length<=16777216
 ·simp only[q,if_true];exact .give I λQ E q'=>bytes_add_K (by simpa using q) rfl λt' k=>q' _ _ ⟨_,rfl⟩
 ·simp only[q,if_false];exactλ_ _ p=>p.elim
def Ni:PV->M PV
 |.int a=>pure (.int (-a))
 |_=>M.bad
theorem bj.neg{x:Expr}{m:M PV}(h:bj w H0 C x m):bj w H0 C (.UnaryOp .USub x pos) (do let v<-m;Ni v):=by
 intro ρ st s I;show aG w H0 C cv ρ st s (eval x C.env>>=λv=>standAt pos>>=λ_=>holding [v] (unaryOp .USub v)) _;refine(h ρ st s I).bind λbC aV _ _ v V bK _ r=>.standAt (.holding ?_)
 cases v<;>first|exactλ_ _ p=>p.elim|skip
 obtain⟨t,rfl⟩:=r;exact aG.give bK λQ E q=>P.neg_int (q _ _ ⟨_,rfl⟩)
noncomputable def isNone:PV->Bool
 |.none=>ah
 |_=>aj
noncomputable def dh:PV->Bool
 |.obj _=>aj
 |_=>ah
theorem a7.isNone(r:a7 ρ h v V)(k:dh v=ah):(V==bT)=Mine.isNone v:=by
 cases v<;>first|(obtain ⟨t,rfl⟩:=r;rfl)|(obtain rfl:V=_:=r;rfl)|skip
 ·obtain⟨a,o,vs,n,rfl,_⟩:=r;rfl
 ·obtain⟨a,d,rfl,_⟩:=r;rfl
 ·cases k
def vc:PV->PV->M PV
 |v,.none=>if dh v then pure (.bool (isNone v)) else M.bad
 |_,_=>M.bad
def mD:PV->PV->M PV
 |v,.none=>if dh v then pure (.bool (!isNone v)) else M.bad
 |_,_=>M.bad
theorem XF:ki w H0 C (compareOp .Is) vc:=by
 intro ρ st s x y X Y I a b;cases y<;>first|(cases x<;>exactλ_ _ p=>p.elim)|skip
 obtain rfl:Y=_:=b;unfold vc;by_cases q:dh x=ah
 ·simp only[q,if_true];exact .give I λQ E q'=>is_none (q' _ s.toks (congrArg Pt (a.isNone q)))
 ·simp only[q];exactλ_ _ p=>p.elim
theorem I6:ki w H0 C (compareOp .IsNot) mD:=by
 intro ρ st s x y X Y I a b;cases y<;>first|(cases x<;>exactλ_ _ p=>p.elim)|skip
 obtain rfl:Y=_:=b;unfold mD;by_cases q:dh x=ah
 ·simp only[q,if_true];exact .give I λQ E q'=>isNot_none (q' _ s.toks (congrArg (λb=>Pt !b) (a.isNone q)))
 ·simp only[q];exactλ_ _ p=>p.elim
end
set_option backward.match.sparseCases true
def pj(w:World)(H0:Heap)(C:Cx)(h:Heap)(n₀:Nat)(e:Addr)(n:Int)(v:Value):Prop:=ux w H0 (ni C) h n₀ e n λvs=>PY H0 h n₀ e vs λo=>o=some v
abbrev y0(w:World)(H0:Heap)(C:Cx)(h:Heap)(n₀:Nat)(e:Addr)(n:Int):Prop:=pj w H0 C h n₀ e n (rawInt C.fV.locals)
theorem yR{M:Model}{base:Heap}{fV:Env}{outer:List Env}(he:fV.frame=env.frame)(KI:A.frames=some (fV::outer))(hl:s.heap.FunFrames base (fV::outer))
 (hf:env.frame=some L) (h:∀h',tD ((fV::outer).filterMap (·.frame)) s.heap h'->Q (.ref L) {s with heap:=h'}):wpAny M A (frameOf env) Q E s:=by
 have e:ui env=ui fV:=by unfold ui;rw[he]
 exact e.symm▸wpAny_frameOf_fun KI hl (he.trans hf) h
section
variable{C:Cx}
theorem Inv.fO(I:Inv w H0 C ρ st h){b:Addr}{o:Obj}{vs:Array Value}(e:h.get? b=some o)(hd:o.data=.fields vs):b∉own C ρ/\b∉ni C:=by
 refine⟨λhm=>?_,λhm=>?_⟩
 ·rcases eV.mp hm with q|q|q
  ·obtain⟨o',es,ep,e',d'⟩:=I.pv;rw[<-q,e] at e';cases e';rw[hd] at d';cases d'
  ·obtain⟨p,hp,rfl⟩:=bD.mp (I.Cu _ q);obtain⟨_,⟨v,o',e',d'⟩,_⟩:=I.cells p hp;rw[e] at e';cases e';rw[hd] at d';cases d'
  ·obtain⟨x,e',_,d'⟩:=I.qH q;rw[e] at e';cases e';exact d' _ hd
 ·obtain⟨_,o',e',d'⟩:=I.frames.mem hm;rw[e] at e';cases e';exact d' _ hd
theorem Inv.t8(I:Inv w H0 C ρ st h){b:Addr}(hb:b∈addrs ρ):b∉ni C:=λhm=>I.eN b hm hb
theorem Inv.MV(I:Inv w H0 C ρ st h){b:Addr}(hb:b∈ni C):H0.get? b=none:=(I.frames.mem hb).1
theorem Inv.E9(I:Inv w H0 C ρ st h)(X:Ext C cC h₀ ρ h)(hn:h₀.objs.size=n₀){xs:List Addr}(hx:∀x∈xs,n₀<=x/\H0.get? x=none/\x∉own C ρ/\∃o vs,h.get? x=some o/\o.data=.fields vs)
 (k:∀b o,h.get? b=some o->b∉xs->∃sl,h'.get? b=some {o with slots:=sl}/\(b∉ni C->sl=o.slots)) (sz:h.objs.size<=h'.objs.size):Inv w H0 C ρ st h'/\Ext C cC h₀ ρ h':=by
 have nx:∀b o,h.get? b=some o->(∀vs,o.data≠.fields vs)->b∉xs:=λb o e d q=>by
  obtain⟨_,_,_,o',vs,e',d'⟩:=hx b q;rw[e] at e';cases e';exact d _ d'
 have same:∀b o,h.get? b=some o->b∉xs->b∉ni C->h'.get? b=some o:=λb o e q f=>by
  obtain⟨sl,e',d'⟩:=k b o e q;rw[e',d' f]
 refine⟨I.slots (λb o e=>?_) (λb hb=>?_) (λb o e q=>?_) sz,⟨X.pre,ai X.size sz,λb o e hb=>?_,X.new,λb o vs e d=>?_⟩⟩
 ·refine same b o (I.old b o e) (λq=>?_) (λq=>?_)
  ·have:=(hx b q).2.1;rw[e] at this;cases this
  ·have:=I.MV q;rw[e] at this;cases this
 ·obtain⟨x,e,_,d⟩:=I.qH hb;rw[e];exact same b x e (nx b x e d) (I.t8 hb)
 ·have hq:b∉xs:=q.elim (λq z=>(hx b z).2.2.1 q) (nx b o e);obtain⟨sl,e',_⟩:=k b o e hq;exact⟨sl,e'⟩
 ·obtain⟨sl,e'⟩:=X.keep b o e hb;have hq:b∉xs:=λz=>absurd (aK e) (b0.mpr (hn▸(hx b z).1))
  obtain⟨XS,Zw,_⟩:=k b _ e' hq;exact⟨XS,Zw⟩
 ·have hq:b∉xs:=λz=>absurd (aK e) (b0.mpr (hn▸(hx b z).1))
  have e':=X.fix b o vs e d;exact same b o e' hq (I.fO e' d).2
noncomputable def nD(bo:Heap)(e L:Addr)(head:Value)(pl:List Value):Heap:=(bo.push {cls:=.type "traceback",dict:=none,data:=.fields ([head,.ref L,.none,rawInt L,.none]++(if pl.isEmpty then dO 6 bT else pl)).toArray}).update e (nX (·.setIfInBounds 1 (.ref bo.objs.size)))
noncomputable abbrev DE(C:Cx)(e:Addr)(head:Value)(Rb:Bool):Sem Unit:=do setField (.ref e) 1 (<-ug head (<-frameOf C.env) .none (rawInt C.fV.locals) .none (<-entryPlaceOf C.fV.locals Rb))
theorem GF{e:Addr}{oe:Obj}{vs:Array Value}{head:Value}{Rb:Bool}{Q:Unit->aH->Prop}(K:C.Ok)(I:Inv w H0 C ρ st s.heap)(he:s.heap.get? e=some oe)(hd:oe.data=.fields vs)(hsz:1<vs.size)
 (h:∀bo pl,tD (ni C) s.heap bo->IsPlace pl->Q () {s with heap:=nD bo e C.fV.locals head pl}):wpAny (model pw w) C.A (DE C e head Rb) Q E s:=by
 refine ag (yR K.ff K.st I.frames I.frame λbo fS=>?_);refine ag (wpAny_entryPlaceOf λpl Wt=>?_);delta ug newFields;refine ag (b5 ?_ (Wt.sizeOk5 _ _ _ _ _));have rG:bo.get? e=some oe:=(fS.2.1 e (I.fO he hd).2).trans he;exact ij (az _ rG) hd hsz (h bo pl fS Wt)
theorem tT{bo:Heap}{e:Addr}{head:Value}{pl:List Value}(hs:tD (ni C) h bo)(b:Addr)(o:Obj)(eb:h.get? b=some o)(q:b∉[e]):∃sl,(nD bo e L head pl).get? b=some {o with slots:=sl}/\(b∉ni C->sl=o.slots):=by
 unfold nD;rw[cp _ _ (λz:e=b=>q (z▸.head _))];by_cases hf:b∈ni C
 ·obtain⟨sl,e'⟩:=hs.2.2 b o eb;exact⟨sl,az _ e',λz=>absurd hf z⟩
 ·exact⟨o.slots,az _ ((hs.2.1 b hf).trans eb),λ_=>rfl⟩
theorem qX{o:Obj}{vs:Array Value}(hd:o.data=.fields vs)(f:Array Value->Array Value):(o.mapFields f).dict=o.dict:=by
 obtain⟨c1,c2,c3,c4⟩:=o;obtain rfl:c3=_:=hd;rfl
theorem zK{e:Addr}{n:Int}{Q:Unit->aH->Prop}{TP:Array Value->Prop}{hh:Heap}{xs:List Addr}{head:Value}{Rb:Bool}(K:C.Ok)(I:Inv w H0 C ρ st s.heap)(X:Ext C cC h₀ ρ s.heap)(hn:h₀.objs.size=n₀)(F:ux w H0 (ni C) s.heap n₀ e n TP)
 (hex:e∉xs) (YE:∀x∈xs,n₀<=x/\H0.get? x=none/\x∉own C ρ/\∃o vs,s.heap.get? x=some o/\o.data=.fields vs) (Er:∀x,x∉xs->hh.get? x=s.heap.get? x) (KP:hh.objs.size=s.heap.objs.size)
 (hQ:∀h',Inv w H0 C ρ st h'->Ext C cC h₀ ρ h'->y0 w H0 C h' n₀ e n->Q () {s with heap:=h'}):wpAny (model pw w) C.A (DE C e head Rb) Q E {s with heap:=hh}:=by
 refine gg λG k_=>?_
 obtain⟨a,b,oe,vs,dx,v1,vt,es,k,c,d,f,g,y,i,j,l,m,o,z⟩:=F;obtain⟨I',X'⟩:=I.E9 (h':=hh) X hn YE (λb o e q=>⟨o.slots,(Er b q).trans e,λ_=>rfl⟩) (bI KP.symm);have Cp:hh.get? e=some oe:=(Er e hex).trans c;refine k_ ?_;refine GF (s:={s with heap:=hh}) K I' Cp g y λbo pl fS Wt=>?_
 have rG:bo.get? e=some oe:=(fS.2.1 e (I'.fO Cp g).2).trans Cp;have Q9:bo.objs.size≠e:=cO (aK rG);have wi:=n6 g (·.setIfInBounds 1 (cG bo.objs.size));obtain⟨PN,P5⟩:=I'.E9 X' hn (xs:=[e]) (λx hx=>by
  exact(au.mp hx).symm▸⟨a,b,(I'.fO Cp g).1,oe,vs,Cp,g⟩) (tT (e:=e) (L:=C.fV.locals) (head:=head) (pl:=pl) fS) (by rw[nD,(bG _ e _).1,a9,fS.1];exact bX _)
 have Uv:hh.get? dx=some (dictOf es k):=(Er dx (λq=>by
  obtain⟨_,_,_,o',vs',e',d'⟩:=YE dx q;rw[m] at e';rw[<-ao e'] at d'
  nomatch d')).trans m
 have Wi:dx∉[e]:=λq=>by
  rw[au.mp q,Cp] at Uv;rw[ao Uv] at g
  nomatch g
 obtain⟨sl,e1,e2⟩:=tT (e:=e) (L:=C.fV.locals) (head:=head) (pl:=pl) fS dx _ Uv Wi;rw[e2 l] at e1;refine hQ _ PN P5 ⟨a,b,_,_,dx,v1,vt,es,k,cD _ (az _ rG) (lR wi),(GY _ _).trans d,(qX g _).trans f,wi,by simp only[Array.size_setIfInBounds];exact y,i,j,l,e1,o,bo.objs.size,_,_,by simp[y],?_,Q9,?_,(cp _ _ (fN Q9)).trans (a8 bo rfl),rfl,by simp⟩
 ·simp only[fS.1,<-hn];exact ai X.size (bI KP.symm)
 ·rw[fS.1];cases q:H0.get? hh.objs.size with
  |none=>rfl
  |some o'=>exact absurd (aK (I'.old _ _ q)) (dM _)
theorem vA{e:Addr}{n:Int}{Q:Unit->aH->Prop}(K:C.Ok)(I:Inv w H0 C ρ st s.heap)(X:Ext C cC h₀ ρ s.heap)(hn:h₀.objs.size=n₀)(F:xf w H0 C s.heap n₀ e n)
 (hQ:∀h',Inv w H0 C ρ st h'->Ext C cC h₀ ρ h'->y0 w H0 C h' n₀ e n->Q () {s with heap:=h'}):wpAny (model pw w) C.A (noteFrame (.ref e) C.env) Q E s:=by
 have F0:=F;obtain⟨a,b,oe,vs,dx,v1,vt,es,k,c,d,f,g,y,i,j,l,m,o,z⟩:=F;unfold noteFrame;rw[I.frame];refine ag (dG (x:=(vs[1]?).getD .none) c g ?_ ?_)
 ·rw[dv y];rfl
 rcases z with z|⟨T,oT,ts,z1,z2,z3,z4,z5,z6,z7⟩
 ·rw[z];show wpAny _ _ (if(bT !=bT)=ah then _ else _) _ _ _;rw[if_neg (by decide)];exact zK (xs:=[]) (hh:=s.heap) K I X hn F0 (λq=>nomatch q) (λ_ q=>nomatch q) (λ_ _=>rfl) rfl hQ
 ·rw[z1];show wpAny _ _ (if(cG T !=bT)=ah then _ else _) _ _ _;rw[if_pos (show(cG T !=bT)=ah from by simp)];rcases z7 with z7|z7
  ·refine ag (dG z5 z6 z7 ?_);rw[if_neg (show¬((bT==rawInt C.fV.locals)=ah) from by simp[rawInt])];refine ag (ij z5 z6 (sJ.mp z7).1 ?_);exact zK (xs:=[T]) K I X hn F0 (λq=>z3 (au.mp q).symm) (λx hx=>by
    exact(au.mp hx).symm▸⟨z2,z4,(I.fO z5 z6).1,oT,ts,z5,z6⟩) (λx hx=>cp _ _ (λq=>hx (q▸.head _))) (bG _ T _).1 hQ
  ·refine ag (dG z5 z6 z7 ?_);rw[if_pos (show(rawInt C.fV.locals==rawInt C.fV.locals)=ah from by first|(simp;done)|exact beq_self_eq_true _)];exact aE (hQ s.heap I X ⟨a,b,oe,vs,dx,v1,vt,es,k,c,d,f,g,y,i,j,l,m,o,T,oT,ts,z1,z2,z3,z4,z5,z6,z7⟩)
theorem lP{e:Addr}{n:Int}{fl:Option Addr}{Q:Unit->aH->Prop}(I:Inv w H0 C ρ st s.heap)(X:Ext C cC h₀ ρ s.heap)(hn:h₀.objs.size=n₀){v:Value}(F:pj w H0 C s.heap n₀ e n v)
 (hQ:∀h',Inv w H0 C ρ st h'->Ext C cC h₀ ρ h'->pj w H0 C h' n₀ e n (fl.elim .none λf=>rawInt f)->Q () {s with heap:=h'}):wpAny (model pw w) C.A (setFlight (.ref e) fl) Q E s:=by
 refine gg λG k_=>?_
 obtain⟨a,b,oe,vs,dx,v1,vt,es,k,c,d,f,g,y,i,j,l,m,o,T,oT,ts,z1,z2,z3,z4,z5,z6,z7⟩:=F;refine k_ ?_;unfold setFlight;refine ag (dG c g z1 ?_);rw[if_pos (show(cG T !=bT)=ah from by simp)];have h3:=(sJ.mp z7).1;refine ij z5 z6 h3 ?_;have other:∀b,b≠T->(s.heap.update T (nX (·.setIfInBounds 3 (fl.elim bT λf=>rawInt f)))).get? b=s.heap.get? b:=λb q=>cp _ _ (fN q)
 have wi:=n6 z6 (·.setIfInBounds 3 (fl.elim bT λf=>rawInt f));obtain⟨I',X'⟩:=I.E9 X hn (xs:=[T]) (h':=s.heap.update T (nX (·.setIfInBounds 3 (fl.elim bT λf=>rawInt f)))) (λx hx=>by
  obtain rfl:x=T:=au.mp hx;exact⟨z2,z4,(I.fO z5 z6).1,oT,ts,z5,z6⟩) (λb o e q=>⟨o.slots,(other b (λz=>q (z▸.head _))).trans e,λ_=>rfl⟩) (bI (bG _ T _).1.symm)
 have dT:dx≠T:=λq=>by
  rw[<-q,m] at z5;rw[<-ao z5] at z6
  nomatch z6
 exact hQ _ I' X' ⟨a,b,oe,vs,dx,v1,vt,es,k,(other e (fN z3)).trans c,d,f,g,y,i,j,l,(other dx dT).trans m,o,T,_,_,z1,z2,z3,z4,cD _ z5 (lR wi),wi,by simp[h3]⟩
theorem pj.Wb{e:Addr}{n:Int}{v:Value}(x:pj w H0 C h n₀ e n v)(hv:v=.none\/v=rawInt C.fV.locals):xf w H0 C h n₀ e n:=
 ux.mono x (aC _) (λ_ h=>h) λ_ z=>.inr (z.mono (aC _) λo q=>hv.imp (λe:v=.none=>e▸q) λe:v=rawInt C.fV.locals=>e▸q)
theorem pj.up{C':Cx}{e:Addr}{n:Int}(x:pj w H0 C h n₀ e n .none)(hs:∀a∈ni C',a∈ni C):xf w H0 C' h n₀ e n:=
 ux.mono x (aC _) hs λ_ z=>.inr (z.mono (aC _) λ_ q=>.inl q)
theorem OP{e:Addr}{n:Int}(K:C.Ok)(I:Inv w H0 C ρ st s.heap)(X:Ext C cC h₀ ρ s.heap)(hn:h₀.objs.size=n₀)(F:xf w H0 C s.heap n₀ e n)
 (hE:∀h',Inv w H0 C ρ st h'->Ext C cC h₀ ρ h'->xf w H0 C h' n₀ e n->E (.ref e) {s with heap:=h'}):notedBy (model pw w) C.A C.env (cameBackBy (model pw w) C.A C.env E) (.ref e) s:=by
 unfold notedBy;refine vA K I X hn F λh' I' X' F'=>?_
 unfold cameBackBy;obtain⟨a,b,oe,vs,dx,v1,vt,es,k,c,d,f,g,y,i,j,l,m,o,T,oT,ts,z1,z⟩:=id F';refine ag (dG c g z1 ?_);rw[if_neg (by simp)];rw[I.frame];exact lP (s:={s with heap:=h'}) I' X' hn F' λmC PN P5 U2=>hE mC PN P5 (U2.Wb (.inr rfl))
theorem GG{e:Addr}{n:Int}{Q:Unit->aH->Prop}(K:C.Ok)(I:Inv w H0 C ρ st s.heap)(X:Ext C cC h₀ ρ s.heap)(hn:h₀.objs.size=n₀)(F:xf w H0 C s.heap n₀ e n)
 (hQ:∀h',Inv w H0 C ρ st h'->Ext C cC h₀ ρ h'->pj w H0 C h' n₀ e n .none->Q () {s with heap:=h'}):wpAny (model pw w) C.A (leaving C.env (.ref e)) Q E s:=by
 unfold leaving;refine ag (vA K I X hn F λh' I' X' F'=>?_);exact lP (s:={s with heap:=h'}) I' X' hn F' hQ
end
def iT(c:M Bool)(b m:M PF):M PF:=do
 let t<-c
 if t then
  let f<-b
  match f with
  |.next=>m
  |.cont=>m
  |.brk=>pure .next
  |.ret v=>pure (.ret v)
 else pure .next
def eF:Nat->M Bool->M PF->M PF
 |0,_,_=>M.bad
 |k+1,c,b=>iT c b (eF k c b)
theorem lu(c:M Bool)(b:M PF)(st:St):(∃r,∀m,iT c b m st=r)\/∃st',∀m,iT c b m st=m st':=by
 cases hc:c st with
 |ok t s1=>
  cases t with
  |false=>exact .inl ⟨.ok .next s1,λm=>by rw[iT,M.b6,hc];rfl⟩
  |true=>
   have e:∀m,iT c b m st=(b>>=λf=>match f with|.next=>m|.cont=>m|.brk=>pure .next|.ret v=>pure (.ret v)) s1:=λm=>by rw[iT,M.b6,hc];rfl
   cases hb:b s1 with
   |ok f s2=>
    cases f with
    |next=>exact .inr ⟨s2,λm=>by rw[e,M.b6,hb]⟩
    |cont=>exact .inr ⟨s2,λm=>by rw[e,M.b6,hb]⟩
    |brk=>exact .inl ⟨.ok .next s2,λm=>by rw[e,M.b6,hb];rfl⟩
    |ret v=>exact .inl ⟨.ok (.ret v) s2,λm=>by rw[e,M.b6,hb];rfl⟩
   |exc n s2=>exact .inl ⟨.exc n s2,λm=>by rw[e,M.b6,hb]⟩
   |bad=>exact .inl ⟨.bad,λm=>by rw[e,M.b6,hb]⟩
 |exc n s1=>exact .inl ⟨.exc n s1,λm=>by rw[iT,M.b6,hc]⟩
 |bad=>exact .inl ⟨.bad,λm=>by rw[iT,M.b6,hc]⟩
theorem pL{c:M Bool}{b:M PF}:∀(k:Nat) (st:St),eF k c b st≠.bad->eF (k+1) c b st=eF k c b st
 |0,_,h=>absurd rfl h
 |k+1,st,h=>by
  show iT c b _ st=iT c b _ st;change iT c b (eF k c b) st≠.bad at h;rcases lu c b st with⟨r,e⟩|⟨s,e⟩
  ·rw[e,e]
  ·rw[e] at h;rw[e,e];exact pL k s h
theorem lr{c:M Bool}{b:M PF}(k:Nat)(st:St)(h:eF k c b st≠.bad):∀j,eF (k+j) c b st=eF k c b st
 |0=>rfl
 |j+1=>by
  have e:=lr k st h j;rw[<-aN,pL (k+j) st (by rw[e];exact h),e]
open Classical in
def bM(c:M Bool)(b:M PF):M PF:=λst=>if h:∃k,eF k c b st≠.bad then eF h.choose c b st else .bad
theorem o_{c:M Bool}{b:M PF}{k:Nat}(h:eF k c b st≠.bad):bM c b st=eF k c b st:=by
 have q:∃k,eF k c b st≠.bad:=⟨k,h⟩;unfold bM;rw[dif_pos q];have z:=q.choose_spec;have e1:=lr k st h q.choose;have e2:=lr q.choose st z k;rw[<-e2,bz,e1]
theorem mK{c:M Bool}{b:M PF}(h:∀k,eF k c b st=.bad):bM c b st=.bad:=by
 unfold bM;rw[dif_neg]
 rintro⟨k,q⟩
 exact q (h k)
theorem Cc(c:M Bool)(b:M PF):bM c b=iT c b (bM c b):=by
 funext st
 have one:∀k,eF (k+1) c b st=iT c b (eF k c b) st:=λ_=>rfl
 by_cases q:∃k,eF k c b st≠.bad
 ·obtain⟨k,q⟩:=q;cases k with
  |zero=>exact absurd rfl q
  |succ k=>
   simp only[o_ q,one];rw[one] at q;rcases lu c b st with⟨r,e⟩|⟨s,e⟩
   ·simp only[e,e]
   ·rw[e] at q;simp only[e,e,o_ q]
 ·have q:∀k,eF k c b st=.bad:=λk=>qc λz=>q ⟨k,z⟩
  rw[mK q];rcases lu c b st with⟨r,e⟩|⟨s,e⟩
  ·rw[e,<-e (eF 0 c b)];exact(q 1).symm
  ·rw[e];refine(mK λk=>?_).symm;have z:=q (k+1);rw[one,e] at z;exact z
section
variable{C:Cx}
def Va(w:World)(C:Cx)(Q:Flow->aH->Prop)(E:Value->aH->Prop):n8->aH->Prop:=λr s'=>match r with
 |.ok f=>Q f s'
 |.error e=>cameBackBy (model pw w) C.A C.env E e s'
theorem dI.err{rel:eS->Heap->β->α->Prop}{r:Nat}{Q:α->aH->Prop}{E:Value->aH->Prop}{n:Int}{st':St}(K:C.Ok)(X0:Ext C cC h₀ ρ s.heap)(s₀:aH)(hs:s₀={s with heap:=h₀,toks:=r})
 (p:dI w H0 C rel cC s₀ (.exc n st') Q E):∀d9 e h' fJ,Inv w H0 C d9 st' h'->Ext C ρ s.heap d9 h'->xf w H0 C h' s.heap.objs.size e n->notedBy (model pw w) C.A C.env (cameBackBy (model pw w) C.A C.env E) (.ref e) {s with heap:=h',toks:=fJ}:=by
 subst hs;intro d9 e h' fJ I X F;exact OP (s:={s with heap:=h',toks:=fJ}) K I (X0.trans X) rfl (F.tU X0.size) λmC PN P5 U2=>p d9 e mC fJ PN P5 U2
inductive WI(w:World)(H0:Heap)(C:Cx)(cC:eS)(s₀:aH)(c:M Bool)(b:M PF)(Q:Flow->aH->Prop)(E:Value->aH->Prop):Nat->aH->Prop
 |mk (ρ:eS) (st:St) (h:Heap) (tk n:Nat) (I:Inv w H0 C ρ st h) (X:Ext C cC s₀.heap ρ h) (p:dI w H0 C pV cC s₀ (eF n c b st) Q E):WI w H0 C cC s₀ c b Q E n {s₀ with heap:=h,toks:=tk}
theorem dr.dt{test:Expr}{c:M Bool}{b:M PF}(K:C.Ok)(hc:d7 w H0 C test c)(hb:i4 w H0 C body b):dr w H0 C (.While test body [] pos) (bM c b):=by
 intro cC je s₀ oq Q E lY;by_cases q:∃k,eF k c b je≠.bad
 case neg=>
  rw[mK λk=>qc λz=>q ⟨k,z⟩] at lY;exact lY.elim
 obtain⟨k,q⟩:=q;rw[o_ q] at lY;refine wpAny_While (codeAny_whileLoop (WI w H0 C cC s₀ c b Q E) (λn s hI=>?_) k (.mk cC je s₀.heap s₀.toks k oq (.refl ..) lY));clear q lY oq;cases hI with
 |mk ρ st h tk n I X p=>
 cases n with
 |zero=>exact p.elim
 |succ n=>
  change dI w H0 C pV cC s₀ (iT c b (eF n c b) st) Q E at p;dsimp only[iT,M.b6] at p;refine hc ρ st _ I _ _ ?_;cases vD:c st with
  |bad=>rw[vD] at p;exact p
  |exc n' aV=>rw[vD] at p;exact dI.err (s:={s₀ with heap:=h,toks:=tk}) (r:=s₀.toks) K X s₀ rfl p
  |ok t aV=>
   rw[vD] at p;clear vD;intro bC t' bo b8 bK d8 Ob;have d8:=X.trans d8;clear X I;obtain rfl:t'=t:=Ob;cases t' with
   |false=>exact mQ (p bC .next bo b8 bK d8 rfl)
   |true=>
    change dI w H0 C pV cC s₀ ((b>>=_) aV) Q E at p;dsimp only[M.b6] at p;refine hb bC aV _ bK _ _ ?_;cases u7:b aV with
    |bad=>rw[u7] at p;exact p
    |exc n' cQ=>rw[u7] at p;exact dI.err (s:={s₀ with heap:=bo,toks:=b8}) (r:=s₀.toks) K d8 s₀ rfl p
    |ok f cQ=>
     rw[u7] at p;clear u7;intro c8 f' dc ew dg dS gm;have dS:=d8.trans dS;clear d8 bK;cases f with
     |next=>obtain rfl:f'=.next:=gm;exact⟨n,aO _,.mk c8 cQ dc ew n dg dS p⟩
     |cont=>obtain rfl:f'=.cont:=gm;exact⟨n,aO _,.mk c8 cQ dc ew n dg dS p⟩
     |brk=>obtain rfl:f'=.brk:=gm;exact p c8 .next dc ew dg dS rfl
     |ret v=>obtain⟨V,rfl,gm⟩:=gm;exact p c8 (.ret V) dc ew dg dS ⟨V,rfl,gm⟩
end
set_option backward.match.sparseCases false
def FE.fd(e:FE):FuncData:=⟨e.nm,e.qn,fArgs e.st,.stmts (fBody e.st),fScope e.st,3,[],e.sX,.none,.none,e.pm,none,.ref e.c,.none,0⟩
def FE.ps(e:FE):List Str:=(fArgs e.st).args.map (·.arg)
noncomputable def I8:eg->Bool
 |.local=>ah
 |.cell=>ah
 |_=>aj
def FE.names(e:FE):List Str:=e.ps++(((fScope e.st).names.filter λx=>I8 x.2).map (·.1)).filter λx=>!e.ps.contains x
noncomputable def NG(x:Str×eg):Bool:=match x.2 with
 |.local=>ah
 |.cell=>ah
 |.globalImplicit=>ah
 |_=>aj
def z8(sc:Scope):Bool:=sc.names.all NG&&decide ((sc.names.map (·.1)).Nodup)&&decide (sc.kind=.function)&&!sc.isCoroutine&&!sc.isGenerator
def FE.check(e:FE):Bool:=
 (fArgs e.st).posonlyargs.isEmpty&&(fArgs e.st).vararg.isNone&&(fArgs e.st).kwonlyargs.isEmpty&&(fArgs e.st).kwarg.isNone&&decide e.ps.Nodup&&decide e.names.Nodup&&
  (e.ps.all λx=>match(fScope e.st).names.lookup x with|some .local=>ah|some .cell=>ah|_=>aj)&&z8 (fScope e.st)
def mA:List FE:=(MQ pw).drop 1
theorem MR(P:bL):mA.map (λe=>(KF pw P).lookup e.a)=mA.map λe=>some (Pa e.st e.nm e.qn e.sX e.pm (.ref e.c)):=by kernel_rfl
noncomputable def NZ:Option Obj->Option Str
 |some o=>match o.data with
  |.fields vs=>match vs[1]?with
   |some (CM q _)=>some q
   |_=>none
  |_=>none
 |none=>none
theorem D6(P:bL):mA.map (λe=>NZ ((KF pw P).lookup e.c))=mA.map λe=>some e.qn:=by kernel_rfl
theorem Bg:mA.all FE.check=ah:=by kernel_rfl
theorem yr{ps:List Str}:∀{vs:List Value},ps.Nodup->ps.length<=vs.length->(ps.filterMap λn=>((ps.zip vs).lookup n).map (n,·))=ps.zip vs:=by
 induction ps with
 |nil=>intros;rfl
 |cons p ps ih=>
  intro vs hn hl;cases vs with
  |nil=>simp at hl
  |cons v vs=>
   obtain⟨h1,h2⟩:=bF.mp hn;simp only[nV,cR,b7,beq_self_eq_true,fp]
   congr 1
   have go:∀l:List Str,p∉l->(l.filterMap λn=>sE (λx=>(n,x)) (match n==p with|true=>some v|false=>(ps.zip vs).lookup n))=l.filterMap λn=>sE (λx=>(n,x)) ((ps.zip vs).lookup n):=λl=>by
    induction l with
    |nil=>intro _;rfl
    |cons a l il=>
     intro hm;have:(a==p)=aj:=beq_eq_false_iff_ne.mpr λe=>hm (e▸.head _)
     simp only[cR,this,il λz=>hm (.tail _ z)]
   exact(go ps h1).trans (ih h2 (by simpa using hl))
theorem pY{ps:List Str}:∀{vs:List Value} {n:Str},ps.length<=vs.length->n∈ps->((ps.zip vs).lookup n).isSome=ah:=by
 induction ps with
 |nil=>intro vs n _ h;cases h
 |cons p ps ih=>
  intro vs n hl hm;cases vs with
  |nil=>simp at hl
  |cons v vs=>
   simp only[nV,b7];by_cases q:n=p
   ·subst q;simp
   ·have:(n==p)=aj:=beq_eq_false_iff_ne.mpr q;rw[this];exact ih (bW hl) ((aP.mp hm).resolve_left q)
theorem Ln{M:Model}{t t':Sem α}{Q:α->aH->Prop}(e:t=t')(h:wpAny M A t' Q E s):wpAny M A t Q E s:=e▸h
theorem m6{fd:FuncData}{o:Option (Array Value)}{ps:List Str}{bs:List (Str×Value)}(h1:fd.params.posonlyargs=[])(h2:fd.params.vararg=none)(h3:fd.params.kwonlyargs=[])(h4:fd.params.kwarg=none)
 (KO:fd.params.args.map (·.arg)=ps) (hD:∀(M:Model) (A:e_) (E:Value->aH->Prop) (Q:Option (Array Value)->aH->Prop),Q o s->wpAny M A (seqItems? fd.defaults) Q E s)
 {ds:List Value} (ZU:(o.getD #[]).toList.drop ((o.getD #[]).toList.length-ps.length)=ds)
 (c1:vs.length<=ps.length) (c2:(yU (λn=>(qt n (ps.zip vs)).isNone) (GW (ps.length-ds.length) ps))=[])
 (c3:(forIn ((UO (ps.length-ds.length) ps).zip ds) (ps.zip vs) λ(x:Str×Value) L6=>if(qt x.fst L6).isNone=ah then(pure (dj (L6++[(x.fst,x.snd)])):Sem _) else pure (dj L6))=pure bs)
 (hn:ps.filterMap (λn=>(bs.lookup n).map (n,·))=bs):pg s fd ⟨vs,[]⟩ bs:=by
 intro M A E Q q;obtain⟨_,_,⟨po,ar,va,ko,_,kw,_⟩,_,_,_,_,_,_,_,_,_,_,_,_⟩:=fd;dsimp only at h1 h2 h3 h4 KO hD;subst h1 h2 h3 h4;show wpAny M A (seqItems? _>>=_) Q E s;refine ag (hD _ _ _ _ ?_);subst KO ZU;refine Uh (decide_eq_false λz=>f9 c1 (of_decide_eq_true (fQ.mp z).1)) ?_;have Zh:decide ((!(yU (λn=>(qt n ((ar.map (·.arg)).zip vs)).isNone) (GW ((ar.map (·.arg)).length-((o.getD #[]).toList.drop ((o.getD #[]).toList.length-(ar.map (·.arg)).length)).length) (ar.map (·.arg)))).isEmpty)=ah)=aj:=by rw[c2];rfl
 refine Uh Zh (ag (Ln c3 (aE ?_)));show wpAny M A (pure _) Q E s;refine aE ?_;show Q ((pd Arg.arg ar++[]).filterMap λn=>(bs.lookup n).map (n,·)) s;simp only[c5,hn];exact q
theorem j7{ps:List Str}{n:Str}(hl:ps.length<=vs.length)(h:n∈ps):((ps.zip vs).lookup n).isNone=aj:=by
 rw[<-Option.not_isSome,pY hl h];rfl
theorem oy{fd:FuncData}{o:Option (Array Value)}{ps:List Str}(h1:fd.params.posonlyargs=[])(h2:fd.params.vararg=none)(h3:fd.params.kwonlyargs=[])(h4:fd.params.kwarg=none)
 (KO:fd.params.args.map (·.arg)=ps) (hn:ps.Nodup) (hl:vs.length=ps.length)
 (hD:∀(M:Model) (A:e_) (E:Value->aH->Prop) (Q:Option (Array Value)->aH->Prop),Q o s->wpAny M A (seqItems? fd.defaults) Q E s):pg s fd ⟨vs,[]⟩ (ps.zip vs):=by
 have G9:=bI hl.symm;refine m6 h1 h2 h3 h4 KO hD rfl (bI hl) (xd.mpr λn hm=>by rw[j7 G9 (l6 hm)];nofun) ?_ (yr hn G9);have loop:∀l:List (Str×Value),(∀x∈l,x.1∈ps)->(forIn l (ps.zip vs) λ(x:Str×Value) L6=>if(qt x.fst L6).isNone=ah then(pure (dj (L6++[(x.fst,x.snd)])):Sem _) else pure (dj L6))=pure (ps.zip vs):=λl=>by
  induction l with
  |nil=>intro _;simp only[tp]
  |cons a l il=>
   intro hm;rw[sD,j7 G9 (hm a (.head _)),if_neg nofun,pure_bind];exact il λx hx=>hm x (.tail _ hx)
 exact loop _ λx hx=>l5 (gy hx).1
set_option backward.match.sparseCases true
structure Base(w:World)(H0:Heap):Prop where
 K:(KF pw w.params).In H0
 g:∃mg,H0.Ns mainGlobals mg
 b:∃mb,H0.Ns builtinsNs mb/\∀x:Str,x≠"__name__"->mb x=bootBuiltins x
 lim:H0.NoLimit
 seer:H0.NoSeer
def Cx.sub(C:Cx)(e:FE)(L:Addr):Cx:=⟨C.A.deeper (callEnvC e.fd L e.a),callEnvC e.fd L e.a,C.fV::C.outer,e.names,callEnvC e.fd L e.a,(callEnvC e.fd L e.a).cells.map (·.2)⟩
def jR(n:Nat)(vs:List PV)(m:M PF):M PV:=λst=>match m ⟨vs.map some++dO (n-vs.length) none,st.hp⟩ with
 |.ok f st'=>.ok (match f with|.ret v=>v|_=>.none) ⟨st.loc,st'.hp⟩
 |.exc n st'=>.exc n ⟨st.loc,st'.hp⟩
 |.bad=>.bad
theorem iQ{p:Str×eg}{r:List (Str×eg)}{acc:List (Str×Addr)}{P:List (Str×Addr)->Prop}(h1:P (cellsFrom (n+1) r ((p.1,n)::acc)))(h2:P (cellsFrom n r acc)):P (cellsFrom n (p::r) acc):=by
 show P (if _ then _ else _);split
 ·exact h1
 ·exact h2
theorem cellsFrom_names:∀(names:List (Str×eg)) (n:Nat) (acc:List (Str×Addr)),(names.map (·.1)).Nodup->(∀p∈acc,p.1∉names.map (·.1))->(acc.map (·.1)).Nodup->((cellsFrom n names acc).map (·.1)).Nodup:=by
 intro names;induction names with
 |nil=>intro _ _ _ _ h;exact h
 |cons x r ih=>
  intro n acc hn ha h;have ht:∀p∈acc,p.1∉r.map (·.1):=λp hp z=>ha p hp (.tail _ z)
  refine iQ (P:=λl=>(l.map (·.1)).Nodup) (ih (n+1) ((x.1,n)::acc) (bF.mp hn).2 (λp hp=>?_) (bF.mpr ⟨λz=>?_,h⟩)) (ih _ _ (bF.mp hn).2 ht h)
  ·cases hp with
   |head=>exact(bF.mp hn).1
   |tail _ hp=>exact ht p hp
  ·obtain⟨p,hp,q⟩:=bD.mp z;exact ha p hp (q▸.head _)
theorem l9{x:Str}:∀(names:List (Str×eg)) (n:Nat) (acc:List (Str×Addr)),(acc.lookup x).isSome=ah->((cellsFrom n names acc).lookup x).isSome=ah:=by
 intro names;induction names with
 |nil=>intro _ _ h;exact h
 |cons p r ih=>
  intro n acc h;refine iQ (P:=λl=>(l.lookup x).isSome=ah) (ih _ _ ?_) (ih _ _ h);dsimp only[b7];cases x==p.1
  ·exact h
  ·rfl
theorem cellsFrom_some(names:List (Str×eg)):∀(n:Nat) (acc:List (Str×Addr)) (x:Str),(names.map (·.1)).Nodup->(names.lookup x=some .cell\/(acc.lookup x).isSome=ah/\x∉names.map (·.1))->((cellsFrom n names acc).lookup x).isSome=ah:=by
 intro n acc x _ h;cases h with
 |inr h=>exact l9 _ _ _ h.1
 |inl h=>
  induction names generalizing n acc with
  |nil=>cases h
  |cons p r ih=>
   rename_i hn;have ih:=λn acc=>ih n acc (bF.mp hn).2
   rw[b7] at h;cases q:x==p.1 with
   |true=>
    rw[q] at h;show((if p.2==.cell then _ else _:List (Str×Addr)).lookup x).isSome=ah;rw[ao h];exact l9 _ _ _ (by simp only[b7,q];rfl)
   |false=>
    rw[q] at h;exact iQ (P:=λl=>(l.lookup x).isSome=ah) (ih _ _ h) (ih _ _ h)
theorem jo{l:List (Str×α)}{p:Str×α}(hn:(l.map (·.1)).Nodup)(hp:p∈l):l.lookup p.1=some p.2:=by
 induction l with
 |nil=>cases hp
 |cons q l ih=>
  rw[b7];cases hp with
  |head=>rw[beq_self_eq_true]
  |tail _ hp=>
   rw[beq_eq_false_iff_ne.mpr λe:p.1=q.1=>(bF.mp hn).1 (bD.mpr ⟨p,hp,e⟩)];exact ih (bF.mp hn).2 hp
section
variable{B:List (Str×Value)->(Str->Option Value)->Str->Option Value}{c:Str->Prop}
theorem HF(e0:∀m,B [] m=m)(e1:∀n v r m,c n->B ((n,v)::r) m=B r λy=>if y=n then some v else m y)(e2:∀n v r m,¬c n->B ((n,v)::r) m=B r m){x:Str}:∀{l:List (Str×Value)} {m:Str->Option Value},x∉l.map (·.1)->B l m x=m x:=by
 intro l;induction l with
 |nil=>intro m _;rw[e0]
 |cons p r ih=>
  intro m h;by_cases q:c p.1
  ·rw[e1 _ _ _ _ q,ih λz=>h (.tail _ z),if_neg (show x≠p.1 fromλe=>h (e▸.head _))]
  ·rw[e2 _ _ _ _ q,ih λz=>h (.tail _ z)]
theorem C5(e0:∀m,B [] m=m)(e1:∀n v r m,c n->B ((n,v)::r) m=B r λy=>if y=n then some v else m y)(e2:∀n v r m,¬c n->B ((n,v)::r) m=B r m){x:Str}(hk:c x){v:Value}:∀{ps:List Str} {vs:List Value} {m:Str->Option Value} {i:Nat},ps.Nodup->ps[i]?=some x->vs[i]?=some v->B (ps.zip vs) m x=some v:=by
 intro ps;induction ps with
 |nil=>intro vs m i _ h;exact nomatch h
 |cons p ps ih=>
  intro vs m i hn hp hv;cases vs with
  |nil=>exact nomatch hv
  |cons u vs=>
   simp only[nV];cases i with
   |zero=>
    cases hp;cases hv
    rw[e1 _ _ _ _ hk,HF e0 e1 e2 λz=>?_,if_pos rfl];obtain⟨a,hp,e⟩:=bD.mp z;exact(bF.mp hn).1 (e▸(gy hp).1)
   |succ i=>
    by_cases q:c p
    ·rw[e1 _ _ _ _ q];exact ih (bF.mp hn).2 hp hv
    ·rw[e2 _ _ _ _ q];exact ih (bF.mp hn).2 hp hv
end
theorem C3{ps:List Str}{m:Str->Option Value}{x:Str}{v:Value}(hn:ps.Nodup)(hp:ps[i]?=some x)(hv:vs[i]?=some v)(hk:k x=some .local):bindL k (ps.zip vs) m x=some v:=
 C5 (c:=λn=>k n=some .local) (λ_=>rfl) (λ_ _ r _ h=>congrArg (bindL k r) (if_pos h)) (λ_ _ r _ h=>congrArg (bindL k r) (if_neg h)) hk hn hp hv
theorem C1{ps:List Str}{m:Str->Option Value}{x:Str}{v:Value}(hn:ps.Nodup)(hp:ps[i]?=some x)(hv:vs[i]?=some v)(hk:k x≠some .local):bindC k (ps.zip vs) m x=some v:=
 C5 (c:=λn=>k n≠some .local) (λ_=>rfl) (λ_ _ r _ h=>congrArg (bindC k r) (if_neg h)) (λ_ _ r _ h=>congrArg (bindC k r) (if_pos (Decidable.not_not.mp h))) hk hn hp hv
structure FE.Ok(e:FE):Prop where
 p1:(fArgs e.st).posonlyargs=[]
 p2:(fArgs e.st).vararg=none
 p3:(fArgs e.st).kwonlyargs=[]
 p4:(fArgs e.st).kwarg=none
 nd:e.ps.Nodup
 nn:e.names.Nodup
 kinds:∀x∈e.ps,(fScope e.st).names.lookup x=some .local\/(fScope e.st).names.lookup x=some .cell
 sn:((fScope e.st).names.map (·.1)).Nodup
 fn:(fScope e.st).kind=.function
 co:(fScope e.st).isCoroutine=aj
 ge:(fScope e.st).isGenerator=aj
theorem FE.SM{e:FE}(h:e.check=ah):e.Ok:=by
 unfold FE.check z8 at h;simp only[aI,decide_eq_true_eq,gL,List.isEmpty_iff,Option.isNone_iff_eq_none,a6] at h;obtain⟨⟨⟨⟨⟨⟨⟨a,b⟩,c⟩,d⟩,f⟩,g⟩,i⟩,⟨⟨⟨_,j⟩,k⟩,l⟩,m⟩:=h;refine⟨a,b,c,d,f,g,λx hx=>?_,j,k,l,m⟩;have:=i x hx;split at this<;>first|(rename_i q;exact .inl q)|(rename_i q;exact .inr q)|cases this
section
variable{C:Cx}{e:FE}
theorem Inv.fg(I:Inv w H0 C ρ st h)(ha:h.objs.size<=a):H0.get? a=none:=by
 cases q:H0.get? a with
 |none=>rfl
 |some o=>exact absurd (aK (I.old a o q)) (b0.mpr ha)
theorem Inv.oN(I:Inv w H0 C ρ st h):C.env.locals<h.objs.size:=by
 refine gg λG k_=>?_
 obtain⟨o,_,_,e,_⟩:=I.pv;refine k_ ?_;exact aK e
theorem Inv.into(K:C.Ok)(F:e.Ok)(I:Inv w H0 C ρ st s.heap){vs:List PV}(hl:Vs.length=e.ps.length)(r:aR ρ s.heap vs Vs)
 (x:InCallC s s.heap.objs.size (bindL (callEnvC e.fd s.heap.objs.size e.a).kindOf (e.ps.zip Vs) λ_=>none) (callEnvC e.fd s.heap.objs.size e.a).cells (bindC (callEnvC e.fd s.heap.objs.size e.a).kindOf (e.ps.zip Vs) λ_=>none) cH):
 (C.sub e s.heap.objs.size).Ok/\Inv w H0 (C.sub e s.heap.objs.size) ρ ⟨vs.map some++dO (e.names.length-vs.length) none,st.hp⟩ cH.heap:=by
 have sz:s.heap.objs.size<cH.heap.objs.size:=by
  refine gg λG k_=>?_
  obtain⟨o,_,_,q,_⟩:=x.toInCall.ns;refine k_ ?_;exact aK q
 have hk:∀y,(callEnvC e.fd s.heap.objs.size e.a).kindOf y=(fScope e.st).names.lookup y:=λ_=>rfl
 have cn:((callEnvC e.fd s.heap.objs.size e.a).cells.map (·.1)).Nodup:=cellsFrom_names _ _ _ F.sn (λ_ h=>nomatch h) i8;have tk:dX s.heap cH.heap:=λa o _ _ q _ _=>⟨o.slots,x.toInCall.keep a o q⟩
 refine⟨⟨F.fn,rfl,rfl,?_,K.hd,F.nn,?_,rfl⟩,λb o q=>x.toInCall.keep b o (I.old b o q),⟨?_,⟨s.heap.objs.size,?_⟩,?_⟩,⟨_,x.toInCall.ns,?_⟩,rfl,?_,?_,?_,I.len,?_,I.nodup,?_,I.fg (aC _),λ_ hc=>hc⟩
 ·show(C.A.frames.map _)=_;rw[K.st];rfl
 ·exact CG.mpr x.apart
 ·show(fScope e.st).kind≠.module;rw[F.fn];decide
 ·obtain⟨o,es,ep,q,d,_⟩:=x.toInCall.ns;exact⟨o,rfl,I.fg (aC _),q,by rw[d];simp⟩
 ·exact I.frames.of_keeps λb o q _=>⟨o,x.toInCall.keep b o q,rfl⟩
 ·intro i v q;have hi:i<vs.length/\vs[i]?=some v:=by
   rw[List.getElem?_append] at q;split at q
   ·rename_i z;rw[aW] at z;exact⟨z,by rw[cE] at q;cases zz:vs[i]?with
     |none=>rw[zz] at q;cases q
     |some u=>rw[zz] at q;cases q;rfl⟩
   ·rw[List.getElem?_replicate] at q;split at q<;>cases q
  obtain⟨V,hV,rV⟩:=r.get hi.2;have hp:i<e.ps.length:=by simp only[<-hl,aR.length r];exact hi.1
  have hx:e.ps[i]?=some e.ps[i]:=bp hp;refine⟨e.ps[i],V,?_,a7.mono tk (a_ _) _ _ rV,?_⟩
  ·show e.names[i]?=_;unfold FE.names;rw[bh hp];exact hx
  ·rcases F.kinds _ (qf hp) with k|k
   ·exact .inl ⟨k,C3 F.nd hx hV k⟩
   ·refine .inr (.inl ⟨k,?_⟩);obtain⟨c,hc⟩:=cy.mp (cellsFrom_some (fScope e.st).names (s.heap.objs.size+1) [] _ F.sn (.inl k));refine⟨c,hc,?_⟩;have:=x.cell _ c hc;rwa[C1 F.nd hx hV (by rw[hk,k];decide)] at this
 ·exactλhm=>absurd (I.fresh _ hm).2 (dM _)
 ·intro L hL hm;rcases aP.mp (show L∈s.heap.objs.size::List.filterMap (·.frame) (C.fV::C.outer) from hL) with q|q
  ·exact absurd (I.fresh _ hm).2 (q▸dM _)
  ·exact I.t8 hm q
 ·intro p hp;have pX:=x.above p.1 p.2 hp;refine⟨I.fg (aT pX),⟨_,x.cell p.1 p.2 (jo cn hp)⟩,λhm=>absurd (I.fresh _ hm).2 (b0.mpr (aT pX)),cO pX⟩
 ·intro i o q;obtain⟨a,d,q',r⟩:=I.objs i o q;have same:∀b∈addrs ρ,cH.heap.get? b=s.heap.get? b:=λb hb=>by
   obtain⟨x',e',_⟩:=I.qH hb;simp only[e'];exact x.toInCall.keep b x' e'
  exact⟨a,d,q',jy.mono tk (a_ _) (same a (eG.mpr ⟨i,a,d,q',.inl rfl⟩)) (λy hy=>same y (eG.mpr ⟨i,a,d,q',.inr hy⟩)) o r⟩
 ·exactλa ha=>⟨(I.fresh a ha).1,bP (I.fresh a ha).2 sz⟩
theorem Inv.back{C':Cx}{st' aV:St}{bo:Heap}(I:Inv w H0 C ρ st h)(k:∀b o,h.get? b=some o->bo.get? b=some o)(sz:h.objs.size<=bo.objs.size)(bK:Inv w H0 C' ρ aV bo)(hn:∀b∈own C' ρ,b∈addrs ρ\/h.objs.size<=b)
 (ho:C'.outer=C.fV::C.outer) (I':Inv w H0 C' d9 st' h') (X:Ext C' ρ bo d9 h'):Inv w H0 C d9 ⟨st.loc,st'.hp⟩ h'/\Ext C ρ h d9 h':=by
 have kp:∀b o,h.get? b=some o->b∉addrs ρ->∃sl,h'.get? b=some {o with slots:=sl}:=λb o e q=>X.keep b o (k b o e) λhm=>by
  rcases hn b hm with z|z
  ·exact q z
  ·exact absurd (aK e) (b0.mpr z)
 have nw:∀a∈addrs d9,a∈addrs ρ\/h.objs.size<=a:=λa ha=>(X.new a ha).imp id (ai sz)
 have ap:∀b o,h.get? b=some o->b∉addrs ρ->b∉addrs d9:=λb o e q hm=>(nw b hm).elim q λz=>absurd (aK e) (b0.mpr z)
 refine⟨⟨I'.old,?_,?_,I.frame,?_,?_,λp hp=>?_,I'.len,I'.objs,I'.nodup,I'.fresh,I.l0,I.Cu⟩,⟨X.pre,ai sz X.size,λb o e q=>kp b o e λz=>q (eV.mpr (.inr (.inr z))),nw,λb o vs e d=>X.fix b o vs (k b o e) d⟩⟩
 ·have:=I'.frames.2.2;rwa[ho] at this
 ·obtain⟨m,⟨o,es,ep,e,d,q⟩,l⟩:=I.loc;obtain⟨sl,e'⟩:=kp _ o e I.apart;refine⟨m,⟨_,es,ep,e',d,q⟩,λi v e=>?_⟩;refine gg λG k_=>?_
  obtain⟨x,V,a,b,c⟩:=l i v e;refine k_ ?_;refine⟨x,V,a,a7.ext bK X v V (a7.mono (λa o _ _ e _ _=>⟨o.slots,k a o e⟩) (a_ _) v V b),?_⟩;have ck:∀{c:Addr} {v:Option Value},c∉addrs ρ->h.IsCell c v->h'.IsCell c v:=λq ⟨o,e,d⟩=>by
   obtain⟨sl,e'⟩:=kp _ o e q;exact⟨_,e',d⟩
  rcases c with c|⟨c1,c,c2,c3⟩|⟨c1,c,c2,c3⟩
  ·exact .inl c
  ·exact .inr (.inl ⟨c1,c,c2,ck (I.cells (x,c) (mem_of_lookup c2)).2.2.1 c3⟩)
  ·exact .inr (.inr ⟨c1,c,c2,ck (I.cells (x,c) (mem_of_lookup c2)).2.2.1 c3⟩)
 ·obtain⟨o,_,_,e,_⟩:=I.pv;exact ap _ o e I.apart
 ·intro L hL;obtain⟨_,o,e,_⟩:=I.frames.mem hL;exact ap _ o e (I.eN L hL)
 ·obtain⟨a,⟨v,o,e,d⟩,b,c⟩:=I.cells p hp;obtain⟨sl,e'⟩:=kp _ o e b;exact⟨a,⟨v,_,e',d⟩,ap _ o e b,c⟩
theorem FE.at_(he:e∈mA)(P:bL):(KF pw P).lookup e.a=some (Pa e.st e.nm e.qn e.sX e.pm (.ref e.c)):=CD.mp (MR P) e he
theorem BR{x:Option Obj}{q:Str}(h:NZ x=some q):∃o vs t,x=some o/\o.data=.fields vs/\vs[1]?=some (.str q t):=by
 cases x with
 |none=>exact nS h
 |some o=>
  delta NZ at h;dsimp only at h;cases d:o.data with
  |fields vs=>
   rw[d] at h;dsimp only at h;cases z:vs[1]?with
   |none=>rw[z] at h;exact nS h
   |some v=>
    rw[z] at h;cases v with
    |str y t=>exact⟨o,vs,t,rfl,d,z.trans (congrArg (λy=>some (CM y t)) (ao h))⟩
    |_=>exact nS h
  |_=>rw[d] at h;exact nS h
theorem FE.Di(he:e∈mA)(P:bL):∃o vs t,(KF pw P).lookup e.c=some o/\o.data=.fields vs/\vs[1]?=some (.str e.qn t):=by
 exact BR (CD.mp (D6 P) e he)
theorem FE.okIn(he:e∈mA):e.Ok:=FE.SM (a6.mp Bg e he)
def fu(w:World)(H0:Heap)(C:Cx)(ρ:eS)(st:St)(s:aH)(c:Code)(m:M PV):Prop:=
 ∀(Q:Value->aH->Prop) (E:Value->aH->Prop),dI w H0 C (λρ h b a=>a7 ρ h b a) ρ s (m st) Q E->codeAny (model pw w) C.A c (λr s'=>match r with|.ok (.ret v)=>Q v s'|.ok _=>False|.error e=>E e s') s
theorem fu.sim{f:Value}{m:M PV}(h:fu w H0 C ρ st s (.call f ⟨Vs,[]⟩) m):aG w H0 C cv ρ st s (bU f Vs []) m:=λQ E p=>my (h Q E p)
theorem fu.Mp{vs':List PV}{G5:List Value}{m:M PF}(B:Base w H0)(he:e∈mA)(K:C.Ok)(I:Inv w H0 C ρ st s.heap)(room:C.A.depth<recursionLimit)(bind:pg s e.fd ⟨Vs,[]⟩ (e.ps.zip G5))
 (hl:G5.length=e.ps.length) (r:aR ρ s.heap vs' G5) (hb:∀L,(C.sub e L).Ok->i4 w H0 (C.sub e L) (fBody e.st) m):
 fu w H0 C ρ st s (.call (.ref e.a) ⟨Vs,[]⟩) (jR e.names.length vs' m):=by
 intro Q E p;have F:=FE.okIn he;refine gg λG k_=>?_
 obtain⟨oc,Qz,ct,c1,c2,c3⟩:=FE.Di he w.params;refine k_ ?_;have lim:s.heap.NoLimit:=B.lim.keeps I.old;refine GZ (o:=Pa e.st e.nm e.qn e.sX e.pm (.ref e.c)) (fd:=e.fd) (body:=fBody e.st) room (I.old _ _ (B.K _ _ (FE.at_ he w.params))) rfl F.co F.ge rfl ⟨e.c,oc,Qz,ct,rfl,I.old _ _ (B.K _ _ c1),c2,c3⟩ (bind _ _ _ _ ?_);refine xp F.fn (λx hx=>?_) λenv Cp cH x=>?_
 ·have hm:x.1∈e.ps:=(gy (show(x.1,x.2)∈e.ps.zip G5 from hx)).1;exact(F.kinds _ hm).imp id λk=>⟨k,cellsFrom_some _ _ _ _ F.sn (.inl k)⟩
 have Cp:env=callEnvC e.fd s.heap.objs.size e.a:=Cp;subst Cp;obtain⟨K',I'⟩:=Inv.into K F I hl r x;refine⟨lim.keeps x.toInCall.keep,codeAny_func ?_⟩;obtain⟨bo,b8,rfl,kp⟩:=x.done;have sz:s.heap.objs.size<bo.objs.size:=by
  refine gg λG k_=>?_
  obtain⟨o,_,_,q,_⟩:=x.toInCall.ns;refine k_ ?_;exact aK q
 have hn:∀b∈own (C.sub e s.heap.objs.size) ρ,b∈addrs ρ\/s.heap.objs.size<=b:=λb hb=>by
  rcases eV.mp hb with rfl|q|q
  ·exact .inr (aC _)
  ·obtain⟨y,hy,rfl⟩:=bD.mp q;exact .inr (aT (x.above y.1 y.2 hy))
  ·exact .inl q
 refine hb _ K' ρ _ _ I' _ _ ?_;unfold jR at p;revert p;cases hm:m ⟨vs'.map some++dO (e.names.length-vs'.length) none,st.hp⟩ with
 |bad=>exactλp=>p
 |ok f st'=>
  intro p d9 f' h' fJ dg dS gm;obtain⟨fD,gV⟩:=Inv.back I kp (aT sz) I' hn rfl dg dS;cases f with
  |ret v=>
   obtain⟨V,rfl,gm⟩:=gm;exact p d9 V h' fJ fD gV gm
  |next=>obtain rfl:f'=.next:=gm;exact p d9 .none h' fJ fD gV rfl
  |cont=>obtain rfl:f'=.cont:=gm;exact p d9 .none h' fJ fD gV rfl
  |brk=>obtain rfl:f'=.brk:=gm;exact p d9 .none h' fJ fD gV rfl
 |exc n st'=>
  intro p d9 ex h' fJ dg dS gm;refine GG (s:={s with heap:=h',toks:=fJ}) (n₀:=bo.objs.size) K' dg dS rfl gm λmC fD gV XR=>?_
  obtain⟨hW,i5⟩:=Inv.back I kp (aT sz) I' hn rfl fD gV;exact p d9 ex mC fJ hW i5 ((XR.up λa ha=>nU.mpr (by
   obtain⟨y,hy,z⟩:=nU.mp ha;exact⟨y,aM _ hy,z⟩)).tU (aT sz))
end
set_option backward.match.sparseCases false
noncomputable def sz(n:Nat):Bool:=decide (n<=16777216)
theorem dQ(h:sz n=ah):n<=sizeLine:=by simp only[eY];exact of_decide_eq_true h
section
variable{C:Cx}{rel:eS->Heap->β->α->Prop}
theorem Inv.YX(I:Inv w H0 C ρ st h){o:PO}(e:st.hp[i]?=some o):∃a d,ρ[i]?=some (a,d)/\jy w ρ h a d o:=I.objs i o e
theorem qE{l:eS}:(addrs l).Nodup->∀{j i:Nat} {b a y:Addr} {bd d:Option Addr},l[j]?=some (b,bd)->l[i]?=some (a,d)->(y=b\/bd=some y)->(y=a\/d=some y)->j=i:=by
 induction l with
 |nil=>exactλ_ _ _ _ _ _ _ _ h=>nS h
 |cons p l ih=>
  intro hn j i b a y bd d h1 h2 y1 y2;obtain⟨n1,n2,n3⟩:=CF.mp (show(p.1::p.2.toList++addrs l).Nodup from hn);have hp:∀{b:Addr} {bd:Option Addr},(p::l)[0]?=some (b,bd)->(y=b\/bd=some y)->∀{i:Nat} {a:Addr} {d:Option Addr},l[i]?=some (a,d)->(y=a\/d=some y)->False:=λ{b bd} h q {i a d} hi q'=>n3 y (by
   rw[ao h];rcases q with q|q
   ·simp only[q];exact .head _
   ·rw[q];exact .tail _ (.head _)) y (eG.mpr ⟨i,a,d,hi,q'⟩) rfl
  cases j with
  |zero=>
   cases i with
   |zero=>rfl
   |succ i=>exact(hp h1 y1 h2 y2).elim
  |succ j=>
   cases i with
   |zero=>exact(hp h2 y2 h1 y1).elim
   |succ i=>exact congrArg (·+1) (ih n2 h1 h2 y1 y2)
theorem Inv.put(I:Inv w H0 C ρ st h){x:Addr}{o':PO}(hr:ρ[i]?=some (a,d))(hx:x=a\/d=some x)(k:∀b,b≠x->h'.get? b=h.get? b)(sz:h'.objs.size=h.objs.size)
 (nt:∃ox,h'.get? x=some ox/\ox.cls≠.type "tuple") (r:(∀(v:PV) (V:Value),a7 ρ h v V->a7 ρ h' v V)->(∀(v:List PV) (V:List Value),aR ρ h v V->aR ρ h' v V)->jy w ρ h' a d o'):Inv w H0 C ρ {st with hp:=st.hp.set i o'} h'/\Ext C ρ h ρ h':=by
 have hm:x∈addrs ρ:=eG.mpr ⟨i,a,d,hr,hx⟩;have hf:=I.fresh x hm;have tk:dX h h':=λb o vs n e c dd=>by
  by_cases q:b=x
  ·obtain⟨o',e',c',_⟩:=I.qH hm;rw[<-q,e] at e';exact absurd c (ao e'▸c')
  ·exact⟨o.slots,(k b q).trans e⟩
 have ne:∀b,b∉addrs ρ->b≠x:=λb q z=>q (z▸hm)
 have r':=r (λv V z=>a7.mono tk (a_ _) v V z) (λv V z=>aR.mono tk (a_ _) v V z);refine⟨⟨λb o e=>(k b (λz=>by rw[z,hf.1] at e;exact nS e)).trans (I.old b o e),?_,?_,I.frame,I.apart,I.eN,λp hp=>?_,by simp only[eL];exact I.len,λj o e=>?_,I.nodup,λb hb=>⟨(I.fresh b hb).1,sz▸(I.fresh b hb).2⟩,I.l0,I.Cu⟩,⟨a_ _,bI sz.symm,λb o e q=>⟨o.slots,(k b (λz=>q (eV.mpr (.inr (.inr (z▸hm)))))).trans e⟩,λ_ z=>.inl z,λb o vs e d=>(k b (λz=>by obtain⟨x',e',_,d'⟩:=I.qH hm;rw[<-z,e] at e';exact d' vs (ao e'▸d))).trans e⟩⟩
 ·refine FunFrames.upd (L:=x) (λb o q e=>⟨o,(k b q).trans e,rfl⟩) ?_ I.frames;obtain⟨â,ZG,c₁⟩:=nt;cases hx with
  |inl z=>obtain⟨o,q1,_,q2⟩:=(jy.at_ r').1;exact⟨o,z▸q1,q2⟩
  |inr z=>obtain⟨o,q1,_,q2⟩:=(jy.at_ r').2 x z;exact⟨o,q1,q2⟩
 ·obtain⟨m,⟨o,es,ep,e,dd,q⟩,l⟩:=I.loc;exact⟨m,⟨o,es,ep,(k _ (ne _ I.apart)).trans e,dd,q⟩,l.keep tk (a_ _) λy c v hc ⟨o,e,d⟩=>⟨o,(k _ (ne _ (I.cells (y,c) (mem_of_lookup hc)).2.2.1)).trans e,d⟩⟩
 ·obtain⟨b1,⟨v,o,e,dd⟩,b2,b3⟩:=I.cells p hp;exact⟨b1,⟨v,o,(k _ (ne _ b2)).trans e,dd⟩,b2,b3⟩
 ·have e:(st.hp.set i o')[j]?=some o:=e;by_cases q:j=i
  ·rw[q,CA,if_pos rfl] at e;rw[q,<-ao (iN e).2];exact⟨a,d,hr,r'⟩
  ·rw[fR (fN q)] at e;obtain⟨b,bd,e',rr⟩:=I.objs j o e;have other:∀y,(y=b\/bd=some y)->y≠x:=λy hy z=>q (qE I.nodup e' hr hy (z▸hx))
   exact⟨b,bd,e',jy.mono tk (a_ _) (k b (other b (.inl rfl))) (λy hy=>k y (other y (.inr hy))) o rr⟩
theorem Inv.new(I:Inv w H0 C ρ st h){o:PO}(k:∀b x,h.get? b=some x->h'.get? b=some x)(ha:h.objs.size<=a/\a<h'.objs.size)(hd:∀x,d=some x->h.objs.size<=x/\x<h'.objs.size/\x≠a)
 (r:jy w (ρ++[(a,d)]) h' a d o):Inv w H0 C (ρ++[(a,d)]) {st with hp:=st.hp++[o]} h'/\Ext C ρ h (ρ++[(a,d)]) h':=by
 have p_:h.objs.size<=h'.objs.size:=aT (aA ha.1 ha.2);have I':=I.keeps k p_;have pre:ρ<+:ρ++[(a,d)]:=fk ..;have tk:dX h h':=λb o _ _ e _ _=>⟨o.slots,k b o e⟩
 have one:∀b,b∈addrs [(a,d)]->b=a\/d=some b:=λb hb=>by
  refine gg λG k_=>?_
  obtain⟨i,a',d',e,q⟩:=eG.mp hb;refine k_ ?_;cases i with
  |zero=>
   obtain⟨rfl,rfl⟩:=i9 (ao e);exact q
  |succ=>exact nS e
 have YY:∀b,b=a\/d=some b->h.objs.size<=b/\b<h'.objs.size:=λb q=>q.elim (λq=>q▸ha) λq=>⟨(hd b q).1,(hd b q).2.1⟩
 have am:∀b,b∈addrs (ρ++[(a,d)])->b∈addrs ρ\/(h.objs.size<=b/\b<h'.objs.size):=λb hb=>by
  rw[mZ,cx] at hb;exact hb.imp id λz=>YY b (one b z)
 have ap:∀b,b<h.objs.size->b∉addrs ρ->b∉addrs (ρ++[(a,d)]):=λb hb q z=>(am b z).elim q λz=>absurd hb (b0.mpr z.1)
 refine⟨⟨I'.old,I'.frames,?_,I.frame,ap _ I.oN I.apart,λL hL=>?_,λp hp=>?_,by simp[I.len],λj x e=>?_,?_,λb hb=>?_,I.l0,I.Cu⟩,⟨pre,p_,λb x e _=>⟨x.slots,k b x e⟩,λb hb=>(am b hb).imp id (·.1),λb x _ e _=>k b x e⟩⟩
 ·obtain⟨m,n,l⟩:=I'.loc;exact⟨m,n,l.keep (dX.refl _) pre λ_ _ _ _ h=>h⟩
 ·obtain⟨_,o,e,_⟩:=I.frames.mem hL;exact ap _ (aK e) (I.eN L hL)
 ·obtain⟨b1,⟨v,o,e,dd⟩,b2,b3⟩:=I.cells p hp;exact⟨b1,⟨v,o,k _ _ e,dd⟩,ap _ (aK e) b2,b3⟩
 ·have e:(st.hp++[o])[j]?=some x:=e;by_cases q:j<st.hp.length
  ·rw[bh q] at e;obtain⟨b,bd,e',rr⟩:=I'.objs j x e;exact⟨b,bd,jc pre e',jy.mono (dX.refl _) pre rfl (λ_ _=>rfl) x rr⟩
  ·rw[cL (kc q),List.getElem?_singleton] at e;obtain⟨q',e⟩:=iN e;rw[<-ao e];refine⟨a,d,?_,r⟩;rw[cL (I.len▸kc q),I.len,q'];rfl
 ·rw[mZ];refine CF.mpr ⟨I.nodup,?_,λb hb c hc=>?_⟩
  ·show((a::d.toList)++[]).Nodup;cases d with
   |none=>simp
   |some x=>simp[fN (hd x rfl).2.2]
  ·rintro rfl
   exact absurd (I.fresh b hb).2 (b0.mpr (YY b (one b hc)).1)
 ·rcases am b hb with q|q
  ·exact⟨(I.fresh b q).1,aB (I.fresh b q).2 p_⟩
  ·exact⟨I.fg q.1,q.2⟩
def oO(l:List PV):M PV:=λst=>if sz l.length then .ok (.ref st.hp.length) {st with hp:=st.hp++[.list l]} else .bad
def E5(l:List PV):M PV:=λst=>if sz l.length then .ok (.tup l) st else .bad
theorem aG.newList(I:Inv w H0 C ρ st s.heap)(r:aR ρ s.heap l vs):aG w H0 C cv ρ st s (ie vs) (oO l):=by
 intro Q E p;unfold oO at p;split at p
 ·rename_i q;refine AD ?_ (by rw[r.length];exact dQ q);obtain⟨I',X'⟩:=I.new (a:=s.heap.objs.size) (d:=none) (o:=.list l) (h':=s.heap.push {cls:=.type "list",data:=.seq vs.toArray}) (λ_ _ e=>az _ e) ⟨aC _,jk (aO _) (a9 ..).symm⟩ (λ_ e=>nomatch e)
   ⟨rfl,vs.toArray,_,a8 _ rfl,by simpa using aR.mono (λb o _ _ e _ _=>⟨o.slots,az _ e⟩) (fk ..) _ _ r⟩
  exact p _ _ _ s.toks I' X' ⟨s.heap.objs.size,none,rfl,by rw[<-I.len];simp⟩
 ·exact p.elim
theorem aG.newTuple(I:Inv w H0 C ρ st s.heap)(r:aR ρ s.heap l vs):aG w H0 C cv ρ st s (sQ vs) (E5 l):=by
 intro Q E p;unfold E5 at p;split at p
 ·rename_i q;refine UX ?_ (by rw[r.length];exact dQ q);refine p ρ _ _ s.toks (I.push _) (Ext.push _) ⟨s.heap.objs.size,_,vs.toArray,_,rfl,a8 _ rfl,rfl,rfl,?_⟩;simpa using aR.mono (λb o _ _ e _ _=>⟨o.slots,az _ e⟩) (a_ _) _ _ r
 ·exact p.elim
abbrev ub:eS->Heap->List PV->List Value->Prop:=λρ h b a=>aR ρ h b a
abbrev f_(w:World)(H0:Heap)(C:Cx)(es:List Expr)(m:M (List PV)):Prop:=∀pos,c_ w H0 C ub (spliced (backTo pos (starEach es C.env))) m
noncomputable def notStar:Expr->Bool
 |.Starred _ _=>aj
 |_=>ah
theorem g_(h:notStar e=ah):starEach (e::es) env=(aj,eval e env)::starEach es env:=by
 cases e<;>first|rfl|exact nB h
theorem f_.nil:f_ w H0 C [] (pure []):=λ_ _ _ _ I=>.pure I rfl
theorem f_.cons{m:M PV}{k:M (List PV)}(he:notStar e=ah)(a:bj w H0 C e m)(b:f_ w H0 C es k):f_ w H0 C (e::es) (do let v<-m;let vs<-k;pure (v::vs)):=by
 intro pos ρ st s I;rw[g_ he];show aG w H0 C ub ρ st s (spliced ((aj,eval e C.env)::backTo pos (starEach es C.env))) _;dsimp only[spliced];refine(a ρ st s I).bind λbC aV _ _ v V bK _ r=>?_
 simp only[cJ,if_false,pure_bind];refine aG.bind (rel:=ub) (.holding (b pos bC aV _ bK)) λc8 cQ _ _ vs Vs dg dS gm=>.pure dg ⟨V,Vs,rfl,a7.ext bK dS v V r,gm⟩
theorem bj.list{m:M (List PV)}(h:f_ w H0 C es m):bj w H0 C (.List es pos) (do let l<-m;oO l):=by
 intro ρ st s I;show aG w H0 C cv ρ st s (standAt pos>>=λ_=>spliced (backTo pos (starEach es C.env))>>=λl=>ie l) _;exact .standAt ((h pos ρ st s I).bind λbC aV _ _ l vs bK _ r=>.newList bK r)
theorem bj.tuple{k:Nat}{m:M (List PV)}(h:f_ w H0 C es m):bj w H0 C (.Tuple es k pos) (do let l<-m;E5 l):=by
 intro ρ st s I;show aG w H0 C cv ρ st s (standAt pos>>=λ_=>spliced (backTo pos (starEach es C.env))>>=λl=>sQ l) _;exact .standAt ((h pos ρ st s I).bind λbC aV _ _ l vs bK _ r=>.newTuple bK r)
theorem v7{f:Value}(hs:es.all notStar=ah):evalArgs f ah (backTo pos (starEach es env)) []=(spliced (backTo pos (starEach es env))>>=λvs=>holding vs (pure (⟨vs,[]⟩:Args))):=by
 cases es with
 |nil=>rfl
 |cons e es=>
  have he:notStar e=ah:=by simp only[dJ,aI] at hs;exact hs.1
  rw[g_ he];delta evalArgs;dsimp only;simp only[backTo,bH,cJ,if_false,bind_assoc,pure_bind,c5,Option.toList_none];rfl
end
set_option backward.match.sparseCases true
def Callee(w:World)(H0:Heap)(f:Value):Prop:=∀(A:e_) (Q:Keeper->aH->Prop) (E:Value->aH->Prop) (s:aH),(∀b o,H0.get? b=some o->s.heap.get? b=some o)->(∀k,Q k s)->wpAny (model pw w) A (keeperOf f) Q E s
theorem Callee.builtin{i:String}:Callee w H0 (.builtin i):=λ_ _ _ _ _ q=>aE (q _)
theorem Callee.type{i:String}:Callee w H0 (.type i):=λ_ _ _ _ _ q=>aE (q _)
theorem Callee.fn{e:FE}(B:Base w H0)(he:e∈mA):Callee w H0 (.ref e.a):=λ_ _ _ _ k q=>by
 unfold keeperOf;refine ag (qy (k _ _ (B.K _ _ (FE.at_ he w.params))) ?_);exact aE (q _)
section
variable{C:Cx}{rel:eS->Heap->β->α->Prop}
theorem kM{f:Value}{first:List Value}{p:Pos}(hs:es.all notStar=ah)(hk:Callee w H0 f)
 (h:wpAny (model pw w) A (spliced (backTo p (starEach es env))) (λvs cH=>(∀b o,H0.get? b=some o->cH.heap.get? b=some o)/\wpAny (model pw w) A (call f (first++vs) []) Q E cH) E s):wpAny (model pw w) A (callWith pos f first (backTo p (starEach es env)) []) Q E s:=by
 unfold callWith;rw[v7 hs];refine ag (bS (ag (iO h (λvs cH bo=>bS (aE (ag (c9 ?_)))) λ_ _ z=>z)));have tail:∀{t:Sem Value},wpAny (model pw w) A t Q E cH->wpAny (model pw w) A (t>>=λr=>holding [r] point>>=λ_=>pure r) Q E cH:=
  λht=>ag (iO ht (λr Ge hr=>ag (bS (wpAny_point (aE hr)))) λ_ _ x=>x)
 have st:(backTo p (starEach es env)).any (·.1)=aj:=by
  clear h bo tail;induction es with
  |nil=>rfl
  |cons e es ih=>
   simp only[dJ,aI] at hs;rw[g_ hs.1];dsimp only[backTo,bH,jF,Lq];exact ih hs.2
 rw[st,xc,gq];refine ag (hk _ _ _ _ bo.1 λk=>?_);cases k<;>dsimp only
 ·split
  ·exact tail bo.2
  ·exact tail (by unfold callMarked;exact CK bo.2)
 ·split
  ·exact tail bo.2
  ·exact tail (by unfold callMarked;exact CK bo.2)
 ·exact tail bo.2
 ·exact tail (Uj bo.2)
theorem aG.callWith{f:Value}{first:List Value}{pos p:Pos}{m:M (List PV)}{g:List PV->M PV}(I:Inv w H0 C ρ st s.heap)(hs:es.all notStar=ah)(hk:Callee w H0 f)(wj:f_ w H0 C es m)
 (hf:∀bC aV bo b8 vs Vs,Inv w H0 C bC aV bo->Ext C ρ s.heap bC bo->aR bC bo vs Vs->aG w H0 C cv bC aV {s with heap:=bo,toks:=b8} (bU f (first++Vs) []) (g vs)):
 aG w H0 C cv ρ st s (Hj pos f first (backTo p (starEach es C.env)) []) (do let vs<-m;g vs):=by
 intro Q E q;refine kM hs hk ?_;dsimp only[M.b6] at q;refine wj p ρ st s I _ _ ?_;cases hm:m st with
 |ok b aV=>
  rw[hm] at q;exactλbC a bo b8 bK X r=>⟨bK.old,hf bC aV bo b8 b a bK X r Q E (q.later X)⟩
 |exc n aV=>rw[hm] at q;exact q
 |bad=>rw[hm] at q;exact q
def YH:M PV:=M.bad
theorem bj.glob{x:Str}(B:Base w H0)(K:C.Ok)(hx:C.env.kindOf x=some .globalImplicit)(e:nsIn (KF pw w.params) mainGlobals x=some (some V))(r:∀ρ,a7 ρ H0 v V)(hd:(x==("__debug__":Str))=aj):bj w H0 C (.Name x pos) (bB v):=by
 intro ρ st s I Q E p;obtain⟨mg,hg⟩:=B.g;refine dk K.fn hx (jI (mg:=mg) (by rw[K.gl];exact hg.keeps I.old) (mg_of B.K hg e) ?_) hd;exact p ρ V s.heap s.toks I (.refl ..) (a7.mono (λa o _ _ e _ _=>⟨o.slots,I.old a o e⟩) (a_ _) _ _ (r ρ))
theorem bj.Vl{x:Str}(B:Base w H0)(K:C.Ok)(hx:C.env.kindOf x=some .globalImplicit)(e:nsIn (KF pw w.params) mainGlobals x=some none)(hv:bootBuiltins x=some V)(hn:x≠"__name__")(hd:(x==("__debug__":Str))=aj):bj w H0 C (.Name x pos) (bB (.obj V)):=by
 intro ρ st s I Q E p;obtain⟨mg,hg⟩:=B.g;obtain⟨mb,hb,u7⟩:=B.b;refine dk K.fn hx (ju (mg:=mg) (mb:=mb) (by rw[K.gl];exact hg.keeps I.old) (LD B.K hg e) (by rw[K.bl];exact hb.keeps I.old) ((u7 x hn).trans hv) ?_) hd;exact p ρ V s.heap s.toks I (.refl ..) rfl
end
set_option backward.match.sparseCases false
noncomputable def Ex:Option (Option Value)->String->Bool
 |some (some (.builtin i)),j=>i==j
 |_,_=>aj
noncomputable def Iu:Option (Option α)->Bool
 |some none=>ah
 |_=>aj
noncomputable def RK:Option (Option Value)->Addr->Bool
 |some (some (.ref a)),b=>a==b
 |_,_=>aj
def Ko(P:bL)(c:Addr):Bool:=
 (clsIn (KF pw P) c).any (·.hasDict)&&Ex (findIn (KF pw P) (.ref c) "__getattribute__") "object.__getattribute__"&&Iu (findIn (KF pw P) (.ref c) "__getattr__")&&
  Ex (findIn (KF pw P) (.ref c) "__setattr__") "object.__setattr__"&&plainOver (KF pw P) c&&makesIn (KF pw P) c&&((fieldNames c).all λx=>Iu (findIn (KF pw P) (.ref c) x)&&Iu (takerIn (KF pw P) c x))
noncomputable def lW:List Addr:=[147,285,397,419,515,590]
theorem HM(P:bL):lW.all (Ko P)=ah:=by kernel_rfl
noncomputable def fx:List (Addr×Str×Addr):=[(147,"__init__",59),(147,"is_done",66),(147,"peek",74),(147,"take",81),(147,"starts",88),(147,"skip",95),(147,"skip_white",102),(147,"take_regular",109),(147,"skip_line_end",116),(147,"find",137),
 (285,"__init__",205),(397,"__init__",394),(419,"__init__",416),(515,"__init__",505),(515,"wants_key",512),(590,"__init__",582),(590,"told",587)]
noncomputable def KU:Option Value->Bool
 |some (.type t)=>t=="function"
 |_=>aj
def ET(P:bL)(m:Addr×Str×Addr):Bool:=RK (findIn (KF pw P) (.ref m.1) m.2.1) m.2.2&&KU (typeIn (KF pw P) (.ref m.2.2))&&lW.contains m.1&&!(fieldNames m.1).contains m.2.1
theorem EV(P:bL):fx.all (ET P)=ah:=by kernel_rfl
theorem uX:lW.all (λc=>decide (fieldNames c).Nodup)=ah:=by kernel_rfl
section
variable{P:bL}
theorem D4:∀{xs:List Str} {vs:List Value} {es:List cT},bN P xs vs es->es.length=vs.length
 |_,[],_,h=>by cases‹List Str›<;>(delta bN at h;subst h;rfl)
 |x::xs,v::vs,_,h=>by obtain⟨t,r,rfl,h⟩:=h;simp[D4 h]
 |[],v::vs,_,h=>h.elim
theorem rf:∀{xs:List Str} {vs:List Value} {es:List cT},bN P xs vs es->es.any (·.refKey)=aj
 |_,[],_,h=>by cases‹List Str›<;>(delta bN at h;subst h;rfl)
 |x::xs,v::vs,_,h=>by obtain⟨t,r,rfl,h⟩:=h;simp only[jF,rf h,gq];rfl
 |[],v::vs,_,h=>h.elim
theorem xT{y x:Str}{t:Tok}(h:y≠x):¬(CM y t).isStr x=ah:=λe=>h (beq_iff_eq.mp e)
theorem H_{x:Str}:∀{xs:List Str} {es:List cT},bN P xs vs es->x∉xs.take vs.length->es.find? (·.key.isStr x)=none:=by
 induction vs with
 |nil=>intro xs es h _;cases xs<;>(delta bN at h;subst h;rfl)
 |cons v vs ih=>
  intro xs es h hn;cases xs with
  |nil=>exact h.elim
  |cons y xs=>
   obtain⟨t,r,rfl,h⟩:=h;exact(xe (p:=λe:cT=>e.key.isStr x) (xT (fN (not_or.mp (mt aP.mpr hn)).1))).trans (ih h (not_or.mp (mt aP.mpr hn)).2)
theorem E4{y x:Str}{xs:List Str}(n1:y∉xs)(hx:xs[j]?=some x):y≠x:=λe=>n1 (e▸cm hx)
theorem FF{x:Str}{t:Tok}{Ij:Int}{k v u:Value}{r:List cT}:putL x Ij k v (⟨bZ P x,.str x t,u⟩::r)=⟨bZ P x,.str x t,v⟩::r:=if_pos (beq_self_eq_true x)
theorem tZ{y x:Str}{t:Tok}{Ij:Int}{k v u:Value}{r:List cT}(h:y≠x):putL x Ij k v (⟨bZ P y,.str y t,u⟩::r)=⟨bZ P y,.str y t,u⟩::putL x Ij k v r:=if_neg (xT h)
theorem D3{x:Str}{v:Value}:∀{xs:List Str} {es:List cT} {j:Nat},bN P xs vs es->xs.Nodup->xs[j]?=some x->vs[j]?=some v->∃e,es.find? (·.key.isStr x)=some e/\e.val=v:=by
 induction vs with
 |nil=>intro xs es j _ _ _ h;exact nomatch h
 |cons u vs ih=>
  intro xs es j h hn hx hv;cases xs with
  |nil=>exact h.elim
  |cons y xs=>
   obtain⟨t,r,rfl,h⟩:=h;cases j with
   |zero=>
    cases hx
    exact⟨_,List.find?_cons_of_pos (beq_self_eq_true _),ao hv⟩
   |succ j=>
    obtain⟨e,h1,h2⟩:=ih h (bF.mp hn).2 hx hv;exact⟨e,(xe (p:=λe:cT=>e.key.isStr x) (xT (E4 (bF.mp hn).1 hx))).trans h1,h2⟩
theorem MP{x:Str}{v:Value}{Ij:Int}{k:Value}:∀{xs:List Str} {es:List cT} {j:Nat},bN P xs vs es->xs.Nodup->xs[j]?=some x->j<vs.length->bN P xs (vs.set j v) (putL x Ij k v es):=by
 induction vs with
 |nil=>intro xs es j _ _ _ h;exact nomatch h
 |cons u vs ih=>
  intro xs es j h hn hx hv;cases xs with
  |nil=>exact h.elim
  |cons y xs=>
   obtain⟨t,r,rfl,h⟩:=h;cases j with
   |zero=>
    cases hx
    exact⟨t,r,FF,h⟩
   |succ j=>exact⟨t,_,tZ (E4 (bF.mp hn).1 hx),ih h (bF.mp hn).2 hx (bJ hv)⟩
theorem MO{x:Str}{v:Value}{t:Tok}:∀{xs:List Str} {es:List cT},bN P xs vs es->xs.Nodup->xs[vs.length]?=some x->bN P xs (vs++[v]) (putL x (bZ P x) (.str x t) v es):=by
 induction vs with
 |nil=>
  intro xs es h _ hx;cases xs with
  |nil=>exact nomatch hx
  |cons y xs=>cases hx;obtain rfl:es=[]:=h;exact⟨t,[],rfl,by cases xs<;>rfl⟩
 |cons u vs ih=>
  intro xs es h hn hx;cases xs with
  |nil=>exact h.elim
  |cons y xs=>
   obtain⟨t',r,rfl,h⟩:=h;exact⟨t',_,tZ (E4 (bF.mp hn).1 hx),ih h (bF.mp hn).2 hx⟩
end
theorem sd(name:Str)(Ij:Int)(k v:Value):∀es:List cT,(putL name Ij k v es).length<=es.length+1
 |[]=>aC _
 |e::es=>by
  unfold putL;split
  ·simp
  ·simpa using sd name Ij k v es
structure PI(P:bL)(c:Addr):Prop where
 cd:∃cd,clsIn (KF pw P) c=some cd/\cd.hasDict=ah
 ga:findIn (KF pw P) (.ref c) "__getattribute__"=some (some (.builtin "object.__getattribute__"))
 gt:findIn (KF pw P) (.ref c) "__getattr__"=some none
 sa:findIn (KF pw P) (.ref c) "__setattr__"=some (some (.builtin "object.__setattr__"))
 po:plainOver (KF pw P) c=ah
 makes:makesIn (KF pw P) c=ah
 fl:∀x∈fieldNames c,findIn (KF pw P) (.ref c) x=some none/\takerIn (KF pw P) c x=some none
 nd:(fieldNames c).Nodup
theorem rK{o:Option (Option α)}(h:Iu o=ah):o=some none:=by
 cases o with
 |none=>exact nB h
 |some o=>cases o with
  |none=>rfl
  |some=>exact nB h
theorem nr{j:String}(h:Ex o j=ah):o=some (some (.builtin j)):=by
 cases o with
 |none=>exact nB h
 |some o=>cases o with
  |none=>exact nB h
  |some v=>cases v with
   |builtin i=>exact congrArg (λi=>some (some (ic i))) (beq_iff_eq.mp h)
   |_=>exact nB h
theorem Ew{j:Addr}(h:RK o j=ah):o=some (some (.ref j)):=by
 cases o with
 |none=>exact nB h
 |some o=>cases o with
  |none=>exact nB h
  |some v=>cases v with
   |ref i=>exact congrArg (λi=>some (some (cG i))) (beq_iff_eq.mp h)
   |_=>exact nB h
theorem uL{P:bL}{c:Addr}(hc:c∈lW):PI P c:=by
 have h:=a6.mp (HM P) c hc;have n:=a6.mp uX c hc;unfold Ko at h;simp only[aI,a6] at h;obtain⟨⟨⟨⟨⟨⟨a,b⟩,d⟩,e⟩,f⟩,g⟩,i⟩:=h;exact⟨Hg a,nr b,rK d,nr e,f,g,λx hx=>⟨rK (i x hx).1,rK (i x hx).2⟩,of_decide_eq_true n⟩
theorem Bn{o:Option Value}(h:KU o=ah):o=some (.type "function"):=by
 cases o with
 |none=>exact nB h
 |some v=>cases v with
  |type t=>rw[beq_iff_eq.mp (show(t=="function")=ah from h)]
  |_=>exact nB h
theorem zD{P:bL}{c f:Addr}{x:Str}(h:(c,x,f)∈fx):findIn (KF pw P) (.ref c) x=some (some (.ref f))/\typeIn (KF pw P) (.ref f)=some (.type "function")/\c∈lW/\x∉fieldNames c:=by
 have h:=a6.mp (EV P) _ h;unfold ET at h;simp only[aI,gL] at h;refine gg λG k_=>?_
 obtain⟨⟨⟨a,b⟩,d⟩,e⟩:=h;refine k_ ?_;exact⟨Ew a,Bn b,by simpa using d,by simpa using e⟩
def dY(c:Addr)(x:Str):Option Nat:=if lW.contains c then(fieldNames c).findIdx? (·==x) else none
theorem nh{c:Addr}{x:Str}(h:dY c x=some j):c∈lW/\(fieldNames c)[j]?=some x:=by
 unfold dY at h;split at h
 ·rename_i q;obtain⟨h1,h2,_⟩:=nZ.mp h;refine⟨by simpa using q,?_⟩;simp only[bp h1,beq_iff_eq.mp h2]
 ·cases h
def j2(x:Str):PV->M PV:=λv st=>match v with
 |.ref i=>match st.hp[i]?with
  |some (.inst c fs)=>match dY c x with
   |some j=>match fs[j]?with
    |some p=>if dh p then .ok p st else .bad
    |none=>.bad
   |none=>.bad
  |_=>.bad
 |_=>.bad
def fi(x:Str):PV->PV->M Unit:=λv p st=>match v with
 |.ref i=>match st.hp[i]?with
  |some (.inst c fs)=>match dY c x with
   |some j=>if j<fs.length then .ok () {st with hp:=st.hp.set i (.inst c (fs.set j p))} else if j=fs.length then .ok () {st with hp:=st.hp.set i (.inst c (fs++[p]))} else .bad
   |none=>.bad
  |_=>.bad
 |_=>.bad
section
variable{C:Cx}{rel:eS->Heap->β->α->Prop}
theorem a7.handed(r:a7 ρ h v V)(k:dh v=ah):handedIn V=ah:=by
 cases v<;>first|(obtain ⟨t,rfl⟩:=r;rfl)|(obtain rfl:V=_:=r;rfl)|skip
 ·obtain⟨a,o,vs,n,rfl,_⟩:=r;rfl
 ·obtain⟨a,d,rfl,_⟩:=r;rfl
 ·cases k
theorem Base.X(B:Base w H0)(I:Inv w H0 C ρ st h):(KF pw w.params).In h:=λa o e=>I.old _ _ (B.K a o e)
theorem rI{c dx:Addr}{es:List cT}(e:h.get? a=some (instObj c dx))(ed:h.get? dx=some (dictOf es n)):InstAt h a (instObj c dx) c (some (dictOf es n)):=⟨e,rfl,rfl,ed⟩
theorem aR.len(r:aR ρ h l vs):vs.length=l.length:=r.length
theorem aG.getAttr{x:Str}(B:Base w H0)(I:Inv w H0 C ρ st s.heap)(r:a7 ρ s.heap v V):aG w H0 C cv ρ st s (uj V x ah) (j2 x v):=by
 intro Q E p;unfold j2 at p;split at p
 ·rename_i i;split at p
  ·rename_i c fs hi;split at p
   ·rename_i j hj;split at p
    ·rename_i q hq;split at p
     ·rename_i kn;obtain⟨hc,hx⟩:=nh hj;have K:=uL (P:=w.params) hc;obtain⟨a,d,rfl,hr⟩:=r;refine gg λG k_=>?_
      obtain⟨a',d',gz,dx,vs,es,n,rfl,e,ed,fe,rs⟩:=I.objs i _ hi;refine k_ ?_;rw[hr] at gz;cases gz;obtain⟨U,hU,rU⟩:=rs.get hq;obtain⟨en,e1,e2⟩:=D3 fe K.nd hx hU;obtain⟨cd,k1,k2⟩:=K.cd;refine get_value (B.X I) (rI e ed) K.ga (v:=U) ?_ (rU.handed kn) (p ρ U s.heap _ I (.refl ..) rU);unfold findObj;rw[k1,cM,(K.fl x (cm hx)).1,cM];dsimp only[cM,cM];have:l8 cd (some (dictOf es n)) x=some (some U):=by
       unfold l8;rw[if_pos k2];unfold lookIn;dsimp only;rw[e1,<-e2]
      rw[this];rfl
     ·exact p.elim
    ·exact p.elim
   ·exact p.elim
  ·exact p.elim
 ·exact p.elim
theorem Fm{A:e_}{K:Frag}{x c dx:Addr}{es:List cT}{name:Str}{tk:Tok}{v:Value}{R:n8->aH->Prop}(X:K.In s.heap)(I:InstAt s.heap x (instObj c dx) c (some (dictOf es n)))(hp:plainOver K c=ah)(ht:takerIn K c name=some none)(hh:(clsIn K c).any (·.hasDict)=ah)
 (hl:es.any (·.refKey)=aj) (hz:es.length<=1000)
 (h:∀h',dK dx s.heap h'->h'.get? dx=some (dictOf (putL name (bZ w.params name) (.str name s.toks) v es) (putN name es n))->R (.ok (.ret .none)) {s with heap:=h',toks:=s.toks+1}):
 codeAny (model pw w) A (.call (.builtin "object.__setattr__") ⟨[.ref x,.str name tk,v],[]⟩) R s:=by
 refine osa_open X I hp ht λb=>?_
 obtain⟨cd,hc,sH⟩:=Hg hh;obtain⟨hx,Ys,hn,D⟩:=I;refine ag (aE (ag (ag (oi hx (ag ((looks_clsIn X hc).here ?_))))));rw[sH];refine aE (a:=some dx) (ag (aE (ag ?_)));unfold nsSet;refine ag (ag (Px (aE (ag (jw (ag (oi D ?_)))))));have c:(!es.toArray.any (·.key.isStr name)&&es.toArray.any (·.refKey))=aj:=by
  rw[<-hM,<-hM];simp[hl]
 dsimp only;rw[CP,c];refine PA D ?_;have U:(s.heap.update dx (Ax name (bZ w.params name) (.str name s.toks) v)).get? dx=some (dictOf (putL name (bZ w.params name) (.str name s.toks) v es) (putN name es n)):=by
  rw[cD _ D (by rw[sO];rfl),sO]
 have ln:=sd name (bZ w.params name) (.str name s.toks) v es;refine ag (Py U (Pw (by simp only[gO,eY];lia)) ?_);exact aE (h _ (bG ..) U)
end
theorem Ky{P:bL}:∀{xs:List Str} {vs:List Value} {es:List cT},bN P xs vs es->vs.length<=xs.length
 |_,[],_,_=>df _
 |x::xs,v::vs,_,h=>by obtain⟨t,r,rfl,h⟩:=h;exact e9 (Ky h)
 |[],v::vs,_,h=>h.elim
section
variable{C:Cx}{rel:eS->Heap->β->α->Prop}
theorem aR.set:∀{vs:List Value} {p:PV} {V:Value} (j:Nat),aR ρ h l vs->a7 ρ h p V->aR ρ h (l.set j p) (vs.set j V):=by
 induction l with
 |nil=>intro vs p V j r _;obtain rfl:vs=[]:=r;rfl
 |cons q l ih=>
  intro vs p V j r rp;obtain⟨U,u,rfl,r1,r2⟩:=r;cases j with
  |zero=>exact⟨V,u,rfl,rp,r2⟩
  |succ j=>exact⟨U,_,rfl,r1,ih j r2 rp⟩
theorem aG.setAttr{x:Str}{p:PV}{P:Value}(B:Base w H0)(I:Inv w H0 C ρ st s.heap)(r:a7 ρ s.heap v V)(rp:a7 ρ s.heap p P):aG w H0 C i6 ρ st s (J4 V x P) (fi x v p):=by
 intro Q E q;unfold fi at q;split at q
 ·rename_i i;split at q
  ·rename_i c fs hi;split at q
   ·rename_i j hj;obtain⟨hc,hx⟩:=nh hj;have K:=uL (P:=w.params) hc;obtain⟨a,d,rfl,hr⟩:=r;refine gg λG k_=>?_
    obtain⟨a',d',gz,dx,vs,es,n,rfl,e,ed,fe,rs⟩:=I.objs i _ hi;refine k_ ?_;rw[hr] at gz;cases gz;obtain⟨cd,k1,k2⟩:=K.cd;have lt:es.length<=1000:=by
     have:=D4 fe;have h2:=Ky fe;have h3:(fieldNames c).length<=3:=of_decide_eq_true (a6.mp (by decide:lW.all (λc=>decide ((fieldNames c).length<=3))=ah) _ hc);lia
    have ad:a≠dx:=λz=>by simp only[z,ed] at e;cases e
    refine set_plain (B.X I) (rI e ed) K.sa (Fm (s:={s with toks:=s.toks+1}) (B.X I) (rI e ed) K.po (K.fl x (cm hx)).2 (by rw[k1];exact k2) (rf fe) lt λh' hs hd=>?_);have go:∀(vs':List Value) (Pb:List PV),bN w.params (fieldNames c) vs' (putL x (bZ w.params x) (.str x (s.toks+1)) P es)->aR ρ s.heap Pb vs'->Inv w H0 C ρ {st with hp:=st.hp.set i (.inst c Pb)} h'/\Ext C ρ s.heap ρ h':=λvs' Pb ZH õ=>
     I.put (x:=dx) hr (.inr rfl) (λb hb=>hs.2 b hb) hs.1 ⟨_,hd,by simp⟩ λm1 m2=>⟨dx,vs',_,_,rfl,(hs.2 a ad).trans e,hd,ZH,m2 _ _ õ⟩
    split at q
    ·rename_i pX;obtain⟨I',X'⟩:=go (vs.set j P) (fs.set j p) (MP fe K.nd hx (by rw[rs.length];exact pX)) (rs.set j rp);exact q ρ () h' _ I' X' trivial
    ·split at q
     ·rename_i heq;subst heq;obtain⟨I',X'⟩:=go (vs++[P]) (fs++[p]) (MO fe K.nd (by rw[rs.length];exact hx)) (rs.append (aR.one rp));exact q ρ () h' _ I' X' trivial
     ·exact q.elim
   ·exact q.elim
  ·exact q.elim
 ·exact q.elim
noncomputable def g6:Expr->Bool
 |.Call ..=>aj
 |_=>ah
theorem y8{o:Expr}{x:Str}{t:Sem Value}(h:g6 o=ah):attributeBase o x env t=t:=by
 cases o<;>first|rfl|cases h
theorem bj.attr{o:Expr}{x:Str}{m:M PV}(B:Base w H0)(hb:g6 o=ah)(h:bj w H0 C o m):bj w H0 C (.Attribute o x pos) (do let v<-m;j2 x v):=by
 intro ρ st s I;simp only[LG,y8 hb];refine(h ρ st s I).bind λbC aV bo b8 v V bK _ r=>.standAt ?_
 have g:aG w H0 C cv bC aV {s with heap:=bo,toks:=b8} (holding [V] (uj V x ah)>>=λr=>letTemporaryGo o V r>>=λ_=>bB r) (j2 x v>>=bB):=
  aG.bind (rel:=cv) (.holding (aG.getAttr (s:={s with heap:=bo,toks:=b8}) B bK r)) λc8 cQ _ _ u U dg _ gm=>aG.wp (λQ E q=>ag (wpAny_letTemporaryGo q)) (aG.pure dg gm)
 have e:(j2 x v>>=bB)=j2 x v:=by funext st;simp only[M.b6];cases j2 x v st<;>rfl
 rwa[e] at g
abbrev fF(w:World)(H0:Heap)(C:Cx)(e:Expr)(g:PV->M Unit):Prop:=∀ρ st s v V,Inv w H0 C ρ st s.heap->a7 ρ s.heap v V->aG w H0 C i6 ρ st s (assign e C.env V) (g v)
theorem M.tH{m:M Unit}:(m>>=λ_=>bB ())=m:=by funext st;simp only[M.b6];cases m st<;>rfl
theorem M.Kl{γ:Type}(m:M α)(f:α->M β)(g:β->M γ):(m>>=f)>>=g=m>>=λa=>f a>>=g:=by
 funext st
 simp only[M.b6];cases m st<;>rfl
theorem M.NY(a:α)(f:α->M β):(bB a>>=f)=f a:=rfl
theorem fF.attr{o:Expr}{x:Str}{m:M PV}(B:Base w H0)(h:bj w H0 C o m):fF w H0 C (.Attribute o x pos) (λp=>do let v<-m;fi x v p):=by
 intro ρ st s p P I rp;show aG w H0 C i6 ρ st s (holding [P] (eval o C.env)>>=λov=>standAt pos.atName>>=λ_=>holding [P,ov] (J4 ov x P)>>=λ_=>release [P,ov] []) _;have e:(do let v<-m;fi x v p)=(m>>=λv=>fi x v p>>=λ_=>bB ()):=by simp only[M.tH]
 show aG w H0 C i6 ρ st s _ (do let v<-m;fi x v p);simp only[e];refine(aG.holding (h ρ st s I)).bind λbC aV bo b8 v V bK d8 r=>.standAt ?_
 exact(aG.holding (aG.setAttr (s:={s with heap:=bo,toks:=b8}) B bK r (a7.ext I d8 _ _ rp))).bind λc8 cQ _ _ _ _ dg _ _=>λQ E q=>AE (q _ () _ _ dg (.refl ..) trivial)
theorem fF.name{x:Str}(K:C.Ok)(hi:C.names[i]?=some x)(hk:C.env.kindOf x=some .local):fF w H0 C (.Name x pos) (aX i):=by
 intro ρ st s v V I r;show aG w H0 C i6 ρ st s (standAt pos>>=λ_=>bindName C.env x V) _;exact .standAt (aG.wp (λQ E q=>oh q) (aG.oX K I hi hk r))
theorem dr.HA{t:Expr}{m:M PV}{g:PV->M Unit}(ns:notStar t=ah)(h:bj w H0 C e m)(ht:fF w H0 C t g)(hs:swapsWith e (some t) pos.line C.env=bB aj)(hw:swappedStores [t] e C.env=bB none):
 dr w H0 C (.Assign [t] e pos) (do let v<-m;g v;pure .next):=by
 intro ρ st s I;have eq:exec (.Assign [t] e pos) C.env=(do
  standAt pos
  if<-swapsWithSole [t] e pos.line C.env then do
   evalThenUse e C.env λv=>assignAll v ((assignEach [t] C.env).map (·.2))
   pure .next
  else do
   let v<-eval e C.env
   assignStores C.env v (<-swappedStores [t] e C.env) ((assignEach [t] C.env).map (·.2))):=rfl
 simp only[eq];show aG w H0 C pV ρ st s (standAt pos>>=λ_=>swapsWith e (some t) pos.line C.env>>=_) _;simp only[hs];refine .standAt ?_;show aG w H0 C pV ρ st s (eval e C.env>>=λv=>swappedStores [t] e C.env>>=λo=>assignStores C.env v o ((assignEach [t] C.env).map (·.2))) _;refine(h ρ st s I).bind λbC aV _ _ v V bK _ r=>?_
 rw[hw];have one:∀t:Expr,notStar t=ah->assignAll V ((assignEach [t] C.env).map (·.2))=n9 t C.env V:=λt ht=>by cases t<;>first|rfl|cases ht
 show aG w H0 C pV bC aV _ (assignAll V ((assignEach [t] C.env).map (·.2))>>=λ_=>bB .next) _;exact(one t ns).symm▸(ht bC aV _ v V bK r).bind λc8 cQ _ _ _ _ dg _ _=>.pure dg rfl
theorem Inv.Oh{x:Str}{c:Addr}(K:C.Ok)(I:Inv w H0 C ρ st h)(hs:dK c h h')(hn:h'.IsCell c (some V))
 (hi:C.names[i]?=some x) (hk:C.env.kindOf x=some .cell) (hc:C.env.cells.lookup x=some c) (hw:c∈C.wc) (r:a7 ρ h v V):Inv w H0 C ρ {st with loc:=st.loc.set i (some v)} h'/\Ext C ρ h ρ h':=by
 refine gg λG k_=>?_
 obtain⟨_,⟨v0,o0,e0,d0⟩,_,c2⟩:=I.cells (x,c) (mem_of_lookup hc);refine k_ ?_;obtain⟨o1,e1,d1⟩:=id hn;have d:(∀vs n,o0.data≠.seq vs n)/\∀vs,o0.data≠.fields vs:=by rw[d0];exact⟨nofun,nofun⟩
 have tk:=dX.one hs e0 d.1;refine gg λG k_=>?_
 obtain⟨m,⟨o,es,ep,e,dd,q⟩,l⟩:=I.loc;refine k_ ?_;exact I.one hs (.inr hw) e0 d e1 (by rw[d1];nofun) ⟨m,⟨o,es,ep,(hs.2 _ (fN c2)).trans e,dd,q⟩,l.set K tk (λy z v yx hz ⟨o,e,d⟩=>⟨o,(hs.2 _ (λq=>yx (name_of_addr (CG.mp K.cd) (q▸mem_of_lookup hz) (mem_of_lookup hc)))).trans e,d⟩) hi (λ_ _=>rfl) λu e=>⟨V,ao e▸a7.mono tk (a_ _) _ _ r,.inr ⟨hk,c,hc,hn⟩⟩⟩ λp hp=>by
  obtain⟨_,⟨v,o,e,d⟩,_⟩:=I.cells p hp;by_cases q:p.2=c
  ·rw[q];exact⟨_,hn⟩
  ·exact⟨v,o,(hs.2 _ q).trans e,d⟩
theorem fF.cell{x:Str}(K:C.Ok)(hi:C.names[i]?=some x)(hk:C.env.kindOf x=some .cell)(hw:C.wc=C.env.cells.map (·.2))(hc:(C.env.cells.lookup x).isSome=ah):fF w H0 C (.Name x pos) (aX i):=by
 intro ρ st s v V I r;show aG w H0 C i6 ρ st s (standAt pos>>=λ_=>bindName C.env x V) _;obtain⟨c,hc⟩:=cy.mp hc;refine .standAt (aG.wp (λQ E q=>oh q) λQ E p=>?_);obtain⟨_,⟨v0,hv⟩,_⟩:=I.cells (x,c) (mem_of_lookup hc);refine wpAny_storeName_cell K.fn hk hc hv λh' vD hs=>?_
 obtain⟨I',X'⟩:=I.Oh K hs vD hi hk hc (by rw[hw];exact iK (f:=(·.2)) (mem_of_lookup hc)) r;exact p ρ () h' _ I' X' trivial
def qk:Value->Bool
 |.ref a=>(mA.any λe=>e.a==a)||lW.contains a
 |.builtin _=>ah
 |.type _=>ah
 |_=>aj
def m8:PV->Bool
 |.obj V=>qk V
 |_=>aj
noncomputable def uK(P:bL)(c:Addr):Bool:=match(KF pw P).lookup c with
 |some o=>(match o.data with
  |.cls _=>(specialIn (KF pw P) (.ref c) "__call__").isSome
  |_=>aj)
 |none=>aj
theorem xO(P:bL):lW.all (uK P)=ah:=by kernel_rfl
theorem Callee.cls(B:Base w H0)(z:uK w.params a=ah):Callee w H0 (.ref a):=by
 intro A Q E s k q;unfold uK at z;cases ho:(KF pw w.params).lookup a with
 |none=>rw[ho] at z;exact nB z
 |some o=>
  rw[ho] at z;dsimp only at z;cases hd:o.data with
  |cls cd=>
   rw[hd] at z;obtain⟨r,hr⟩:=cy.mp z;unfold keeperOf;refine ag (qy (k _ _ (B.K _ _ ho)) ?_);rw[hd];have X:(KF pw w.params).In s.heap:=λa o e=>k _ _ (B.K a o e)
   exact ag ((looks_specialIn X hr).here (aE (q _)))
  |_=>rw[hd] at z;exact nB z
theorem Callee.of(B:Base w H0)(hv:qk V=ah):Callee w H0 V:=by
 cases V with
 |builtin i=>exact Callee.builtin
 |type i=>exact Callee.type
 |ref a=>
  rcases(iF _ _).mp (show(mA.any (λe=>e.a==a)||lW.contains a)=ah from hv) with hv|hv
  ·obtain⟨e,he,q⟩:=GN.mp hv;exact(beq_iff_eq.mp q)▸Callee.fn B he
  ·exact Callee.cls B (a6.mp (xO w.params) a (fB.mp hv))
 |_=>exact nB hv
def ur(w:World)(H0:Heap)(C:Cx)(ap:PV->List PV->M PV):Prop:=
 ∀ρ st s V vs Vs,Inv w H0 C ρ st s.heap->aR ρ s.heap vs Vs->aG w H0 C cv ρ st s (bU V Vs []) (ap (.obj V) vs)
def qP(ap:PV->List PV->M PV)(v:PV)(m:M (List PV)):M PV:=if m8 v then(do let vs<-m;ap v vs) else M.bad
theorem bj.call{f:Expr}{mf:M PV}{m:M (List PV)}{ap:PV->List PV->M PV}(B:Base w H0)(hb:∀o x p,f≠.Attribute o x p)(hs:es.all notStar=ah)(hf:bj w H0 C f mf)(wj:f_ w H0 C es m)(ha:ur w H0 C ap):
 bj w H0 C (.Call f es [] pos) (do let v<-mf;qP ap v m):=by
 intro ρ st s I;have e:eval (.Call f es [] pos) C.env=(eval f C.env>>=λv=>callWith pos v [] (backTo pos (starEach es C.env)) []):=by
  cases f<;>first|rfl|exact absurd rfl (hb _ _ _)
 simp only[e];refine(hf ρ st s I).bind λbC aV bo b8 v V bK _ r=>?_
 unfold qP;by_cases hc:m8 v=ah
 ·rw[if_pos hc];cases v<;>first|cases hc|skip
  rename_i U;obtain rfl:V=U:=r;exact aG.callWith (s:={s with heap:=bo,toks:=b8}) bK hs (Callee.of B hc) wj λc8 cQ dc ew vs Vs dg dS rs=>ha c8 cQ _ V vs Vs dg rs
 ·rw[if_neg hc];exactλ_ _ p=>p.elim
noncomputable def qM:List (String×Str×String):=[("list","append","list.append"),("list","pop","list.pop"),("str","join","str.join"),("bytes","join","bytes.join"),("bytes","find","bytes.find"),("bytes","decode","bytes.decode")]
def qL(T:String)(x:Str):M PV:=match qM.find? λm=>m.1==T&&m.2.1==x with
 |some m=>pure (.obj (.builtin m.2.2))
 |none=>M.bad
def methP(x:Str):PV->M PV:=λv st=>match v with
 |.str _=>qL "str" x st
 |.bytes _=>qL "bytes" x st
 |.ref i=>match st.hp[i]?with
  |some (.list _)=>qL "list" x st
  |some (.inst c _)=>match fx.find? λm=>m.1==c&&m.2.1==x with
   |some m=>.ok (.obj (.ref m.2.2)) st
   |none=>.bad
  |_=>.bad
 |_=>.bad
theorem j_:Slot "bytes" "find" "bytes.find":=
 .of (owner:="bytes") (n:="find") (by rw[gR,eO];kernel_rfl) (by decide+kernel) (by decide+kernel) (by decide+kernel)
  (by first|exact .inl (by decide+kernel)|exact .inr (by decide+kernel)) (by rw[og];kernel_rfl)
theorem qa:typeOf (.builtin "bytes.find")=pure (.type "method_descriptor"):=by show builtinType _=_;rw[J3];kernel_rfl
theorem oG:entryFor table "bytes.find"=some Builtin.«bytes.find»:=lS (by kernel_rfl)
theorem j':Slot "bytes" "join" "bytes.join":=
 .of (owner:="bytes") (n:="join") (by rw[gR,eO];kernel_rfl) (by decide+kernel) (by decide+kernel) (by decide+kernel)
  (by first|exact .inl (by decide+kernel)|exact .inr (by decide+kernel)) (by rw[og];kernel_rfl)
theorem qb:typeOf (.builtin "bytes.join")=pure (.type "method_descriptor"):=by show builtinType _=_;rw[J3];kernel_rfl
theorem oH:entryFor table "bytes.join"=some Builtin.«bytes.join»:=lS (by kernel_rfl)
abbrev Ö:eS->Heap->PV->Value->Prop:=λρ h b a=>a7 ρ h b a
theorem AU{T:String}{x:Str}{r:R PV}(h:qL T x st=r):r=.bad\/∃id,(T,x,id)∈qM/\r=.ok (.obj (.builtin id)) st:=by
 unfold qL at h;cases hm:qM.find? λm=>m.1==T&&m.2.1==x with
 |none=>rw[hm] at h;exact .inl h.symm
 |some m=>
  rw[hm] at h;refine .inr ⟨m.2.2,?_,h.symm⟩;have h1:=eK hm;have h2:=iG hm;simp only[aI,beq_iff_eq] at h2;simp only[<-h2.1,<-h2.2];exact h1
theorem MW{v:Value}{T:String}{x:Str}{id:String}{pl:Sem Bool}{Q:Value×List Value->aH->Prop}(hm:(T,x,id)∈qM)(hT:s.TypeIs v T)
 (hd:∀a,v=.ref a->∃o,s.heap.get? a=some o/\o.dict=none) (h:Q (.builtin id,[v]) s):wpAny (model pw w) A (getMethod v x pl) Q E s:=by
 simp only[qM,aP,sL,GU,or_false] at hm;rcases hm with⟨rfl,rfl,rfl⟩|⟨rfl,rfl,rfl⟩|⟨rfl,rfl,rfl⟩|⟨rfl,rfl,rfl⟩|⟨rfl,rfl,rfl⟩|⟨rfl,rfl,rfl⟩
 ·exact fX hT tA PySem.slot_list_append PySem.type_list_append hd h
 ·exact fX hT tA PySem.F.slot_list_pop PySem.F.type_list_pop hd h
 ·exact fX hT PySem.F.plainAttrs_str PySem.F.slot_str_join PySem.F.type_str_join hd h
 ·exact fX hT nY j' qb hd h
 ·exact fX hT nY j_ qa hd h
 ·exact fX hT nY Ck FB.type_bytes_decode hd h
theorem yv{vs:Array Value}(e:h.get? a=some {cls:=.type "list",data:=.seq vs n}):∀b,cG a=.ref b->∃o,h.get? b=some o/\o.dict=none:=λb q=>by cases q;exact⟨_,e,rfl⟩
theorem aG.getM{x:Str}{pl:Sem Bool}(B:Base w H0)(I:Inv w H0 C ρ st s.heap)(r:a7 ρ s.heap v V):
 aG w H0 C (λ_ _ b (a:Value×List Value)=>∃F,b=.obj F/\a=(F,[V])/\qk F=ah) ρ st s (getMethod V x pl) (methP x v):=by
 intro Q E p;have bi:∀T,s.TypeIs V T->(∀a,V=.ref a->∃o,s.heap.get? a=some o/\o.dict=none)->methP x v st=qL T x st->wpAny (model pw w) C.A (getMethod V x pl) Q E s:=λT hT hd e=>by
  rw[e] at p;rcases AU rfl with q|⟨id,hm,q⟩
  ·rw[q] at p;exact p.elim
  ·rw[q] at p;exact MW hm hT hd (p ρ _ s.heap s.toks I (.refl ..) ⟨_,rfl,rfl,rfl⟩)
 cases v<;>first|exact p.elim|skip
 ·obtain⟨t,rfl⟩:=r;exact bi "str" (typeIs_str ..) (λ_ e=>nomatch e) rfl
 ·obtain⟨t,rfl⟩:=r;exact bi "bytes" (dw ..) (λ_ e=>nomatch e) rfl
 ·rename_i i;obtain⟨a,d,rfl,hr⟩:=r;cases hi:st.hp[i]?with
  |none=>unfold methP at p;simp only[hi] at p;exact p.elim
  |some o=>
   refine gg λG k_=>?_
   obtain⟨a',d',gz,ro⟩:=I.objs i o hi;rw[hr] at gz;cases gz;refine k_ ?_;cases o with
   |dict l=>unfold methP at p;simp only[hi] at p;exact p.elim
   |cN l=>unfold methP at p;simp only[hi] at p;exact p.elim
   |list l=>
    obtain⟨rfl,vs,n,e,_⟩:=ro;refine bi "list" ⟨_,e,rfl⟩ (yv e) ?_;unfold methP;simp only[hi]
   |inst c fs=>
    delta methP at p;dsimp only at p;simp only[hi] at p;split at p
    ·rename_i m hm;have h1:=eK hm;have h2:=iG hm;simp only[aI,beq_iff_eq] at h2;obtain⟨m1,m2,m3⟩:=m;obtain⟨rfl,rfl⟩:m1=c/\m2=x:=h2;obtain⟨k1,k2,k3,k4⟩:=zD (P:=w.params) h1;have K:=uL (P:=w.params) k3;refine gg λG k_=>?_
     obtain⟨dx,vs,es,n,rfl,e,ed,fe,rs⟩:=ro;refine k_ ?_;refine method_fn (B.X I) (rI e ed) K.ga K.gt k1 k2 ?_ (p ρ _ s.heap s.toks I (.refl ..) ⟨_,rfl,rfl,?_⟩)
     ·delta shadowIn lookIn;dsimp only;rw[H_ fe λz=>k4 (l6 z),rf fe];rfl
     ·have:=a6.mp (show fx.all (λm=>qk (.ref m.2.2))=ah by kernel_rfl) _ h1;exact this
    ·exact p.elim
noncomputable def vf(a b:Pos):Bool:=a.endLine==b.line
theorem bj.R5{o:Expr}{x:Str}{apos:Pos}{mo:M PV}{m:M (List PV)}{ap:PV->List PV->M PV}(B:Base w H0)(hb:g6 o=ah)(hl:vf apos pos=ah)(hs:es.all notStar=ah)(hn:es.length<30)(ho:bj w H0 C o mo)(wj:f_ w H0 C es m)(ha:ur w H0 C ap):
 bj w H0 C (.Call (.Attribute o x apos) es [] pos) (do let v<-mo;let f<-methP x v;let vs<-m;ap f (v::vs)):=by
 intro ρ st s I;have e:eval (.Call (.Attribute o x apos) es [] pos) C.env=(attributeBase o x C.env (eval o C.env)>>=λov=>standAt apos.atName>>=λ_=>methodCall o x apos pos C.env ov (es.length+0) (backTo pos (starEach es C.env)) []):=rfl;simp only[e,y8 hb];refine(ho ρ st s I).bind λbC aV bo b8 v V bK _ r=>.standAt ?_
 have Rl:methodCallForm (es.length+0) (backTo pos (starEach es C.env)) []=ah:=by
  unfold methodCallForm;have z:(backTo pos (starEach es C.env)).all (!·.1)=ah:=by
   clear hn wj e;induction es with
   |nil=>rfl
   |cons e es ih=>
    simp only[dJ,aI] at hs;rw[g_ hs.1];dsimp only[backTo,bH,dJ,JV,vC];exact ih hs.2
  rw[z];simpa using hn
 have ye:methodCallPos ah o C.env apos pos=bB pos:=by unfold methodCallPos;unfold vf at hl;simp[hl]
 delta methodCall calleeOf;rw[Rl];dsimp only[if_true];refine(aG.holding (aG.getM (s:={s with heap:=bo,toks:=b8}) B bK r)).bind λc8 cQ dc ew f F dg dS gm=>?_
 obtain⟨U,rfl,rfl,hU⟩:=gm;show aG w H0 C cv c8 cQ _ (methodCallPos ah o C.env apos pos>>=λp=>Hj p U [V] (backTo pos (starEach es C.env)) []) _;rw[ye];exact aG.callWith (s:={s with heap:=dc,toks:=ew}) dg hs (Callee.of B hU) wj λjg jf h₃ lq vs Vs fD gV rs=>ha jg jf _ U (v::vs) (V::Vs) fD ⟨V,Vs,rfl,a7.ext dg gV _ _ (a7.ext bK dS _ _ r),rs⟩
end
noncomputable abbrev Cx.ia(C:Cx)(A:e_):Cx:={C with A:=A}
section
variable{C:Cx}{rel:eS->Heap->β->α->Prop}
theorem Inv.ia(I:Inv w H0 C ρ st h):Inv w H0 (C.ia A) ρ st h:=⟨I.old,I.frames,I.loc,I.frame,I.apart,I.eN,I.cells,I.len,I.objs,I.nodup,I.fresh,I.l0,I.Cu⟩
theorem Inv.zN(I:Inv w H0 (C.ia A) ρ st h):Inv w H0 C ρ st h:=⟨I.old,I.frames,I.loc,I.frame,I.apart,I.eN,I.cells,I.len,I.objs,I.nodup,I.fresh,I.l0,I.Cu⟩
theorem Ext.zN(X:Ext (C.ia A) ρ h d9 h'):Ext C ρ h d9 h':=⟨X.pre,X.size,X.keep,X.new,X.fix⟩
theorem Ext.ia(X:Ext C ρ h d9 h'):Ext (C.ia A) ρ h d9 h':=⟨X.pre,X.size,X.keep,X.new,X.fix⟩
theorem xf.zN{e:Addr}{n:Int}(F:xf w H0 (C.ia A) h n₀ e n):xf w H0 C h n₀ e n:=F
theorem dI.ia{r:R β}{Q:α->aH->Prop}(p:dI w H0 C rel ρ s r Q E):dI w H0 (C.ia A) rel ρ s r Q E:=by
 cases r with
 |ok b st'=>exactλd9 a h' fJ I X q=>p d9 a h' fJ I.zN X.zN q
 |exc n st'=>exactλd9 e h' fJ I X q=>p d9 e h' fJ I.zN X.zN q
 |bad=>exact p
def wH(c:Addr)(RC:List PV->M PV)(vs:List PV):M PV:=λst=>match RC (.ref st.hp.length::vs) {st with hp:=st.hp++[.inst c []]} with
 |.ok v st'=>match v with
  |.none=>.ok (.ref st.hp.length) st'
  |_=>.bad
 |.exc n st'=>.exc n st'
 |.bad=>.bad
theorem fu.make{c f:Addr}{vs:List PV}{RC:List PV->M PV}(B:Base w H0)(K:C.Ok)(I:Inv w H0 C ρ st s.heap)(hm:(c,("__init__":Str),f)∈fx)(r:aR ρ s.heap vs Vs)
 (hc:∀(A':e_) ρ st s vs Vs,(C.ia A').Ok->A'.depth=C.A.depth+1->A'.units=C.A.units+1->Inv w H0 (C.ia A') ρ st s.heap->aR ρ s.heap vs Vs->fu w H0 (C.ia A') ρ st s (.call (.ref f) ⟨Vs,[]⟩) (RC vs)):
 fu w H0 C ρ st s (.call (.ref c) ⟨Vs,[]⟩) (wH c RC vs):=by
 intro Q E p;obtain⟨k1,k2,k3,k4⟩:=zD (P:=w.params) hm;have Kc:=uL (P:=w.params) k3;obtain⟨h,g,d,tk,os⟩:=s;refine make_core (makes_of (B.X I) Kc.makes) (mx (B.X I) k1) (λself=>bind_fn (B.X I) self k2) (.inl rfl) ?_;have kp:∀b x,h.get? b=some x->((h.push emptyDict).push (instObj c h.objs.size)).get? b=some x:=λb x e=>az _ (az _ e)
 have sz:((h.push emptyDict).push (instObj c h.objs.size)).objs.size=h.objs.size+2:=by rw[a9,a9]
 obtain⟨I',X'⟩:=I.new (a:=h.objs.size+1) (d:=some h.objs.size) (o:=.inst c []) kp ⟨bX _,by simp only[sz];exact aO _⟩ (λx e=>by cases e;exact⟨aC _,by simp only[sz];exact fL (aO _),aL (aO _)⟩)
  ⟨h.objs.size,[],[],_,rfl,by heap_get,az _ (a8 _ rfl),by cases fieldNames c<;>(delta bN;rfl),rfl⟩
 have K':(C.ia (C.A.under (.builtin "type.__call__" ⟨.ref c::Vs,[]⟩))).Ok:=⟨K.fn,K.gl,K.bl,K.st,K.hd,K.nd,K.cd,K.ff⟩;refine codeAny_mono (hc _ (ρ++[(h.objs.size+1,some h.objs.size)]) {st with hp:=st.hp++[.inst c []]} ⟨(h.push emptyDict).push (instObj c h.objs.size),g,d,tk,os⟩ (.ref st.hp.length::vs) (.ref (h.objs.size+1)::Vs) K' rfl rfl I'.ia
  ⟨_,_,rfl,⟨h.objs.size+1,some h.objs.size,rfl,by rw[<-I.len];simp⟩,aR.mono (λb o _ _ e _ _=>⟨o.slots,kp b o e⟩) (fk ..) _ _ r⟩
  (λv s'=>v=.none/\Q (.ref (h.objs.size+1)) s') E ?_) λr s' z=>?_
 ·unfold wH at p;revert p;cases RC (.ref st.hp.length::vs) {st with hp:=st.hp++[.inst c []]} with
  |bad=>exactλp=>p
  |exc n st'=>exactλp d9 e h' fJ bK d8 F=>p d9 e h' fJ bK.zN (X'.trans d8.zN) ((xf.zN F).tU X'.size)
  |ok v st'=>
   intro p d9 V h' fJ bK d8 rv;cases v<;>first|exact p.elim|skip
   refine⟨rv,p d9 _ h' fJ bK.zN (X'.trans d8.zN) ⟨h.objs.size+1,some h.objs.size,rfl,jc d8.pre (by rw[<-I.len];simp)⟩⟩
 ·rcases r with e|(v|_|_|_)<;>first|exact z|exact z.elim
end
noncomputable abbrev sZ:Obj:=excClassObj "SyntaxFault" "SyntaxFault" 189 188 [.ref 176] [.ref 176,.type "Exception",.type "BaseException",.type "object"] ah [] [] aj none none (some (.ref 180)) none (some (.str "SyntaxFault" 418)) (some (.str "SyntaxFault" 426)) (some (.bool ah)) "Exception.__new__"
theorem iS(P:bL):(KF pw P).lookup 189=some sZ:=by kernel_rfl
theorem xZ(P:bL):findIn (KF pw P) (.ref 189) "__init__"=some (some (.ref 166)):=by kernel_rfl
theorem DY(P:bL):findIn (KF pw P) (.ref 189) "__setattr__"=some (some (.builtin "object.__setattr__")):=by kernel_rfl
theorem DZ(P:bL):takerIn (KF pw P) 189 "what"=some none:=by kernel_rfl
theorem D0(P:bL):takerIn (KF pw P) 189 "at"=some none:=by kernel_rfl
theorem DV(P:bL):typeIn (KF pw P) (.ref 166)=some (.type "function"):=by kernel_rfl
theorem DU(P:bL):(findCls (KF pw P) (.type "Exception") (.type "type") "__init__").map (λ|.val v=>v|_=>.none)=some (.builtin "Exception.__init__"):=by kernel_rfl
theorem O'(P:bL):(clsIn (KF pw P) 189).map (·.mro)=some [.ref 189,.ref 176,.type "Exception",.type "BaseException",.type "object"]:=by kernel_rfl
theorem v'(P:bL):(clsIn (KF pw P) 189).any (·.hasDict)=ah:=by kernel_rfl
noncomputable abbrev ys:List Value:=[.ref 176,.type "Exception",.type "BaseException",.type "object"]
theorem WY:(cG 189::ys).contains (.type "Exception")=ah:=by decide+kernel
theorem Ó:(cG 189::ys).contains (.type "AttributeError")=aj:=by decide+kernel
theorem Õ:(cG 189::ys).contains (.type "NameError")=aj:=by decide+kernel
theorem YK:(cG 189::ys).contains (.type "BaseException")=ah:=by decide+kernel
theorem Ô:(cG 189::ys).contains (.ref 189)=ah:=by decide+kernel
noncomputable abbrev jm(t:Addr)(d:Option Addr):Obj:={cls:=.ref 189,dict:=d,data:=.fields #[.ref t,.none,.none,.none,.bool aj,.none]}
section
variable{g:Array sM}{d:Drawn}{t:Nat}{os:iX}
theorem uT{M:Model}{Q:Unit->aH->Prop}(hC:h.get? 189=some sZ)(hq:Q () ⟨h,g,d,t,os⟩):wpAny M A (checkBuiltinCall "Exception.__new__" ⟨.ref 189::rest,[]⟩) Q E ⟨h,g,d,t,os⟩:=by
 have F:=ey;have YA:=F.noStar;have Rh:=WY;rw[checkBuiltinCall,F.newKind,F.newSplit,F.newRow]
 repeat(first|refine dy hC ?_|(refine dC hC ?_;rw[Rh])|refine wpAny_staticBase_exc hC ?_|refine Pz hC ?_|dsimp only[bne_self_eq_false,cJ,if_false]|wp_step)
 exact hq
theorem MI{R:n8->aH->Prop}(hC:h.get? 189=some sZ)(zr:rest.length<=sizeLine)
 (hq:R (.ok (.ret (.ref (h.objs.size+1)))) ⟨(h.push {cls:=.type "tuple",data:=.seq rest.toArray}).push (jm h.objs.size none),g,d,t,os⟩):
 codeAny (model pw w) A (.builtin "Exception.__new__" ⟨.ref 189::rest,[]⟩) R ⟨h,g,d,t,os⟩:=by
 have F:=ey;have Yu:=F.ends;have Rd:=WY;have ZP:=Ó;have ZQ:=Õ;refine codeAny_builtinAt F.entry ?_;unfold Builtin.«BaseException.__new__»;refine G0 ?_;show PySem.wpAt _ _ _ (stack>>=_) _ _ _;refine G0 (PySem.wpAt_stack λp below=>yZ ?_)
 wp_walk
 refine yZ ?_;rw[F.owner]
 repeat(first|with_reducible refine wpAny_madeHere_exc F.canon hC ?_|with_reducible refine dy hC ?_|(with_reducible refine dC hC ?_;first|rw[Rd]|rw[ZP]|rw[ZQ])|wp_step)
 show R _ _;rw[a9];exact hq
theorem sY{M:Model}{e:Addr}{oe:Obj}{Q:Unit->aH->Prop}(hC:h.get? 189=some sZ)(he:h.get? e=some oe)(We:oe.cls=.ref 189)(hq:Q () ⟨h,g,d,t,os⟩):
 wpAny M A (checkBuiltinCall "Exception.__init__" ⟨.ref e::rest,[]⟩) Q E ⟨h,g,d,t,os⟩:=by
 have F:=ey;have Rd:=WY;have Wv:=F.noStar;simp only[checkBuiltinCall,F.initKind,F.initSplit,F.initRow]
 repeat(first|(with_reducible refine dy he ?_;rw[We])|with_reducible refine dy hC ?_|(with_reducible refine dC hC ?_;rw[Rd])|wp_step)
 refine wpAny_onRaise ?_;rw[show∀(a b:String) (n:Nat),Bind.check ⟨.positional,"*","Exception",.self,[⟨"args",.varPos,aj⟩]⟩ a b n (pd (λx=>x.fst) ({pos:=cG e::rest}:Args).kw)=pure () from
  λa b n=>check_star_args _ _ _ _ _ _]
 exact aE hq
end
set_option backward.match.sparseCases true
section
variable{g:Array sM}{d:Drawn}{t:Nat}{os:iX}
theorem H7{P:bL}(X:(KF pw P).In h)(zr:rest.length<=sizeLine)
 (hq:wpAny (model pw w) (A.under (.builtin "type.__call__" ⟨.ref 189::rest,[]⟩)) (call (.ref 166) (.ref (h.objs.size+1)::rest)) (λr s'=>r=.none/\Q (.ref (h.objs.size+1)) s') E
  ⟨(h.push {cls:=.type "tuple",data:=.seq rest.toArray}).push (jm h.objs.size none),g,d,t,os⟩):
 wpAny (model pw w) A (call (.ref 189) rest) Q E ⟨h,g,d,t,os⟩:=by
 have hC:h.get? 189=some sZ:=X _ _ (iS P);have f1:=tc_lookup;have f2:=tc_bind (.ref 189);have hT:(⟨h,g,d,t,os⟩:aH).TypeIs (.ref 189) "type":=⟨_,hC,rfl⟩;have F:=ey;refine my (Ug ?_);show wpAny _ _ (callAny (.ref 189) _) _ _ _
 repeat(any_goals (first|assumption|with_reducible refine dy hC ?_|wp_step))
 refine⟨rfl,?_⟩;refine codeAny_call_builtin_at (Cj _ (by decide+kernel)) entry_typeCall (wpAny_check_type_call_sub hC ?_)
 repeat(first|with_reducible refine dy hC ?_|with_reducible refine Pz hC ?_|wp_step)
 refine codeAny_call_builtin_code (Cj _ F.quiet) (uT hC ?_);refine MI hC zr ?_;show wpAny _ _ _ _ _ _;have kp:∀b o,h.get? b=some o->((h.push {cls:=.type "tuple",data:=.seq rest.toArray}).push (jm h.objs.size none)).get? b=some o:=λb o e=>az _ (az _ e)
 have KC:=kp _ _ hC;have Ie:((h.push {cls:=.type "tuple",data:=.seq rest.toArray}).push (jm h.objs.size none)).get? (h.objs.size+1)=some {cls:=.ref 189,data:=.fields #[.ref h.objs.size,.none,.none,.none,.bool aj,.none]}:=by heap_get
 have Yq:=Ô;unfold isInstance
 repeat(first|with_reducible refine dy Ie ?_|(with_reducible refine dC KC ?_;rw[Yq])|wp_step)
 show wpAny _ _ (isSubtype (.ref 189) (.ref 189)) _ _ _;refine dC KC ?_;rw[Yq]
 repeat wp_step
 have X':(KF pw P).In ((h.push {cls:=.type "tuple",data:=.seq rest.toArray}).push (jm h.objs.size none)):=λa o e=>kp _ _ (X a o e)
 show wpAny _ _ (typeLookup (.ref 189) _) _ _ _;refine(mx X' (xZ P)).here ?_;refine bS (ag ?_);refine(bind_fn X' (.ref (h.objs.size+1)) (DV P)).here ?_;refine ag (iO hq (λr s' hr=>?_) λ_ _ x=>x);obtain⟨rfl,hQ⟩:=hr
 wp_walk
 exact hQ
end
open Builtin.ObjectAttr
section
variable{g:Array sM}{d:Drawn}{t:Nat}{os:iX}
theorem H8{P:bL}{e T:Addr}{v:Value}(X:(KF pw P).In h)(he:h.get? e=some (jm T none))
 (hq:∀h' T',(∀b o,b≠e->h.get? b=some o->h'.get? b=some o)->h'.get? e=some (jm T' none)->h.objs.size<=h'.objs.size->Q .none ⟨h',g,d,t,os⟩):
 wpAny (model pw w) A (call (.builtin "Exception.__init__") [.ref e,v]) Q E ⟨h,g,d,t,os⟩:=by
 have hC:h.get? 189=some sZ:=X _ _ (iS P);have F:=ey;refine my (i3 F.init.plain F.initEntry (sY hC he rfl ?_))
 wp_walk
 refine hq _ h.objs.size (λb o hb e'=>?_) ?_ ?_
 ·rw[cp _ _ (fN hb)];exact az _ e'
 ·rw[cD _ (az _ he) rfl];rfl
 ·rw[(bG _ e _).1,a9];lia
theorem v8{P:bL}{e T:Addr}{od:Option Addr}{es:List cT}{name:Str}{v:Value}{Q:Unit->aH->Prop}(hP:P=w.params)(X:(KF pw P).In h)(he:h.get? e=some (jm T od))(hd:(∃dx,od=some dx/\h.get? dx=some (dictOf es n)/\dx≠e)\/(od=none/\es=[]/\n=0))
 (ht:takerIn (KF pw P) 189 name=some none) (hl:es.any (·.refKey)=aj) (hz:es.length<=1000)
 (hq:∀h' dx,(∀b o,b≠e->some b≠od->h.get? b=some o->h'.get? b=some o)->h'.get? e=some (jm T (some dx))->dx≠e->(od=some dx\/od=none/\h.objs.size<=dx)->
  h'.get? dx=some (dictOf (putL name (bZ w.params name) (.str name (t+1)) v es) (putN name es n))->h.objs.size<=h'.objs.size->Q () ⟨h',g,d,t+2,os⟩):
 wpAny (model pw w) A (setAttr (.ref e) name v) Q E ⟨h,g,d,t,os⟩:=by
 subst hP;have hC:h.get? 189=some sZ:=X _ _ (iS _);have SF:=PySem.F.store_object;have SE:=PySem.F.store_Exception;have Ik:Looks (model pw w) h (typeOf (.ref e)) (.ref 189):=(Looks.ld he).andThen .now;have I:InstAt h e (jm T od) 189 (od.map λ_=>dictOf es n):=⟨he,rfl,rfl,by rcases hd with⟨dx,rfl,z,_⟩|⟨rfl,_⟩<;>first|exact z|trivial⟩;refine set_plain (s:=⟨h,g,d,t,os⟩) X I (DY _) ?_;refine i3 SF.slot.plain SF.entry (@check_slot (model pw w) _ _ _ "object.__setattr__" "object" "__setattr__" (.ref e) _ [] _ SF.kind SF.split ?_ (SF.args (.ref e) (.str name t) v) ?_)
 ·refine Ik.andThen ?_;have:(cG 189::ys).contains (.type "object")=ah:=by decide+kernel
  intro A Q E s k q;exact dC (k _ _ hC) (this▸q)
 rw[osa_eq,refuse_eq];have hm:Looks (model pw w) h (mroOf (.ref 189)) (.ref 189::ys):=λA Q E s k q=>wpAny_mroOf_exc (k _ _ hC) q
 refine ag (ag (Ik.here (ag (hm.here ?_))));dsimp only[UW,UW,SE.passes];refine aE (ag (Ik.here ?_));obtain⟨attr,ha,hr⟩:=aD.mp ht;have L3:Looks (model pw w) h (storeTaker? attr) none:=by
  cases attr with
  |none=>exact .now
  |some a=>
   obtain⟨b,hb,u7⟩:=aS.mp hr;cases b with
   |true=>cases u7
   |false=>exact(looks_takesIn X hb).andThen .now
 refine ag ((mx X ha).here (ag (L3.here ?_)));obtain⟨cd,hc,sH⟩:=Hg (v' w.params);refine ag (aE (ag (ag (oi he (ag ((looks_clsIn X hc).here ?_))))));rw[sH];have rest:∀(bo:Heap) (dx:Addr),(∀b o,b≠e->some b≠od->h.get? b=some o->bo.get? b=some o)->bo.get? e=some (jm T (some dx))->dx≠e->(od=some dx\/od=none/\h.objs.size<=dx)->bo.get? dx=some (dictOf es n)->h.objs.size<=bo.objs.size->
  wpAny (model pw w) A.in1 (storeInDict dx (.str name t) name v) (λfin s'=>match fin with
   |.done f=>(match(Except.ok f:n8) with|.ok (.ret _)=>Q () s'|.ok _=>False|.error e=>E e s')
   |.again c'=>c'.quiet=ah/\codeAny (model pw w) A c' (λr s'=>match r with|.ok (.ret _)=>Q () s'|.ok _=>False|.error e=>E e s') s') (λe s'=>E e s') ⟨bo,g,d,t+1,os⟩:=by
  intro bo dx k1 k2 k3 k4 k5 k6;refine ag (aE (ag ?_));unfold nsSet;refine ag (ag (Px (aE (ag (jw (ag (oi k5 ?_)))))));have c:(!es.toArray.any (·.key.isStr name)&&es.toArray.any (·.refKey))=aj:=by
   rw[<-hM,<-hM];simp[hl]
  dsimp only;rw[CP,c];refine PA k5 ?_;have U:(bo.update dx (Ax name (bZ w.params name) (.str name (t+1)) v)).get? dx=some (dictOf (putL name (bZ w.params name) (.str name (t+1)) v es) (putN name es n)):=by
   rw[cD _ k5 (by rw[sO];rfl),sO]
  have ln:=sd name (bZ w.params name) (.str name (t+1)) v es;refine ag (Py U (Pw (by rw[gO,eY];lia)) ?_);refine aE ?_;have YU:∀b,b≠dx->(bo.update dx (Ax name (bZ w.params name) (.str name (t+1)) v)).get? b=bo.get? b:=λb hb=>cp _ _ (fN hb)
  refine hq _ dx (λb o b1 b2 b3=>?_) ((YU e (fN k3)).trans k2) k3 k4 U (by rw[(bG _ dx _).1];exact k6);have:b≠dx:=λq=>by
   rcases k4 with k4|k4
   ·exact b2 (by simp only[k4,q])
   ·exact absurd (aK b3) (b0.mpr (q▸k4.2))
  exact(YU b this).trans (k1 b o b1 b2 b3)
 rcases hd with⟨dx,rfl,ZT,hd2⟩|⟨rfl,rfl,rfl⟩
 ·exact aE (a:=some dx) (rest h dx (λb o _ _ e=>e) he hd2 (.inl rfl) ZT (aC _))
 ·have wj:e≠h.objs.size:=aL (aK he);have rG:=az emptyDict he;refine ag (wpAny_alloc' ?_);refine ag (wpAny_update' rG ?_);refine aE (a:=some h.objs.size) (rest _ h.objs.size (λb o b1 _ b3=>?_) ?_ wj.symm (.inr ⟨rfl,aC _⟩) ?_ ?_)
  ·exact(Aw _ _ _ _ b1).trans (az _ b3)
  ·exact cD _ rG rfl
  ·exact(Aw _ _ _ _ wj.symm).trans (Heap.get?_push_at rfl rfl)
  ·exact ai (bX _) (bI (((bG _ e _).1).trans (a9 ..)).symm)
end
open Builtin.ObjectAttr
noncomputable abbrev eI:FE:=⟨166,165,c7 (bx pw 13) 0,"__init__","PaperError.__init__",.ref 159,XJ,392,398,96,3,ah⟩
noncomputable abbrev qj:List Stmt:=[
 .Expr (.Call (.Attribute (.Name "Exception" ⟨97,8,97,17⟩) "__init__" ⟨97,8,97,26⟩) [.Name "self" ⟨97,27,97,31⟩,.Name "what" ⟨97,33,97,37⟩] [] ⟨97,8,97,38⟩) ⟨97,8,97,38⟩,
 .Assign [.Attribute (.Name "self" ⟨98,8,98,12⟩) "what" ⟨98,8,98,17⟩] (.Name "what" ⟨98,20,98,24⟩) ⟨98,8,98,24⟩,
 .Assign [.Attribute (.Name "self" ⟨99,8,99,12⟩) "at" ⟨99,8,99,15⟩] (.Name "at" ⟨99,18,99,20⟩) ⟨99,8,99,20⟩]
theorem x4:fBody (c7 (bx pw 13) 0)=qj:=by kernel_rfl
theorem oI:eI∈mA:=by
 have:mA[16]?=some eI:=by kernel_rfl
 exact cm this
theorem gw:(fScope eI.st).names=([("self",.local),("what",.local),("at",.local),("Exception",.globalImplicit)]:List (Str×eg)):=by kernel_rfl
section
variable{g:Array sM}{d:Drawn}{t:Nat}{os:iX}
theorem C6:bootBuiltins "Exception"=some (.type "Exception"):=by decide+kernel
theorem DP(P:bL):nsIn (KF pw P) mainGlobals "Exception"=some none:=by kernel_rfl
theorem Y1(P:bL):nsIn (KF pw P) cStatics "thirdparty.any"=some none:=by kernel_rfl
theorem zm(P:bL):findIn (KF pw P) (.type "type") "__getattribute__"=some (some (.builtin "type.__getattribute__")):=by kernel_rfl
theorem F7(P:bL):subIn (KF pw P) (.type "type") (.type "type")=some ah:=by kernel_rfl
theorem á{M:Model}:Looks M h (opaqueClassAbove (.type "Exception")) none:=J1 (by kernel_rfl)
theorem Gv{M:Model}:Looks M h (typeOf (.type "Exception")) (.type "type"):=J1 (by kernel_rfl)
theorem Ea{P:bL}{pl:Sem Bool}{Q:Value×List Value->aH->Prop}(X:(KF pw P).In h)(hq:Q (.builtin "Exception.__init__",[]) ⟨h,g,d,t+1,os⟩):wpAny (model pw w) A (getMethod (.type "Exception") "__init__" pl) Q E ⟨h,g,d,t,os⟩:=by
 unfold getMethod;refine ag ((Gv.andThen (mx X (zm P)):Looks (model pw w) h (specialOf (.type "Exception") "__getattribute__") _).here ?_);dsimp only;rw[if_pos PySem.W.canon_tga];obtain⟨r,h1,h2⟩:=aS.mp (DU P);cases r with
 |get=>cases h2
 |val v=>
  obtain rfl:v=_:=h2;refine ag (cls_open (c:=.type "Exception") (mc:=.type "type") (hook:=none) X á Gv (zm P) ?_ (F7 P) h1 (aE ?_))
  ·exact looks_hook (mc:=.type "type") X (r:=none) (by rfl)
  ·show wpAny _ _ (handedOut (.builtin "Exception.__init__")) _ _ _;rw[handedOut_of (by decide+kernel)];exact aE (aE hq)
theorem H6{e T:Addr}{vw va:Value}{m:Str->Option Value}{Q:Flow->aH->Prop}{mb mg:Str->Option Value}(X:(KF pw w.params).In h)(hg:h.Ns mainGlobals mg)(hb:h.Ns builtinsNs mb)(u7:mb "Exception"=some (.type "Exception"))
 (he:h.get? e=some (jm T none)) (hK:(KF pw w.params).lookup e=none) (hn:h.Ns L m) (m1:m "self"=some (.ref e)) (m2:m "what"=some vw) (m3:m "at"=some va) (hL:e≠L)
 (hq:∀h' dx T' fJ es n,(∀b o,b≠e->h.get? b=some o->h'.get? b=some o)->h'.get? e=some (jm T' (some dx))->dx≠e->h.objs.size<=dx->h'.get? dx=some (dictOf es n)->bN w.params ["what","at"] [vw,va] es->h.objs.size<=h'.objs.size->Q .next ⟨h',g,d,fJ,os⟩):
 wpAny (model pw w) A (execs qj (callEnv eI.fd L 166)) Q E ⟨h,g,d,t,os⟩:=by
 have kd:∀x,(callEnv eI.fd L 166).kindOf x=(fScope eI.st).names.lookup x:=λ_=>rfl
 have kf:(callEnv eI.fd L 166).scope.kind=.function:=by kernel_rfl
 have k1:(callEnv eI.fd L 166).kindOf "self"=some .local:=by simp only[kd,gw];decide+kernel
 have k2:(callEnv eI.fd L 166).kindOf "what"=some .local:=by simp only[kd,gw];decide+kernel
 have k3:(callEnv eI.fd L 166).kindOf "at"=some .local:=by simp only[kd,gw];decide+kernel
 have k4:(callEnv eI.fd L 166).kindOf "Exception"=some .globalImplicit:=by simp only[kd,gw];decide+kernel
 generalize hE:callEnv eI.fd L 166=env at kd kf k1 k2 k3 k4;have Wm:env.locals=L:=by rw[<-hE];rfl
 have ZW:env.globals=mainGlobals:=by rw[<-hE];rfl
 have ZN:env.builtins=builtinsNs:=by rw[<-hE];rfl
 have ld:∀{h':Heap} {x:Str} {v:Value} {pos:Pos} {tk:Nat} {A:e_} {E:Value->aH->Prop} {Q:Value->aH->Prop},h'.Ns L m->env.kindOf x=some .local->m x=some v->(x==("__debug__":Str))=aj->Q v ⟨h',g,d,tk,os⟩->wpAny (model pw w) A (eval (.Name x pos) env) Q E ⟨h',g,d,tk,os⟩:=
  λhn hk hm hd hq=>jK (gh kf hk (Wm▸hn) hm hq) hd
 refine lT ?_;have s1:∀Q':Flow->aH->Prop,(∀h' T' fJ,(∀b o,b≠e->h.get? b=some o->h'.get? b=some o)->h'.get? e=some (jm T' none)->h.objs.size<=h'.objs.size->Q' .next ⟨h',g,d,fJ,os⟩)->
  wpAny (model pw w) A (exec (.Expr (.Call (.Attribute (.Name "Exception" ⟨97,8,97,17⟩) "__init__" ⟨97,8,97,26⟩) [.Name "self" ⟨97,27,97,31⟩,.Name "what" ⟨97,33,97,37⟩] [] ⟨97,8,97,38⟩) ⟨97,8,97,38⟩) env) Q' E ⟨h,g,d,t,os⟩:=by
  intro Q' Â;refine wpAny_Expr ?_ (by rw[<-hE];rfl) rfl;have ee:eval (.Call (.Attribute (.Name "Exception" ⟨97,8,97,17⟩) "__init__" ⟨97,8,97,26⟩) [.Name "self" ⟨97,27,97,31⟩,.Name "what" ⟨97,33,97,37⟩] [] ⟨97,8,97,38⟩) env=
   (eval (.Name "Exception" ⟨97,8,97,17⟩) env>>=λov=>standAt (Pos.atName ⟨97,8,97,26⟩)>>=λ_=>methodCall (.Name "Exception" ⟨97,8,97,17⟩) "__init__" ⟨97,8,97,26⟩ ⟨97,8,97,38⟩ env ov 2 [(aj,eval (.Name "self" ⟨97,27,97,31⟩) env),(aj,eval (.Name "what" ⟨97,33,97,37⟩) env)] []):=rfl
  rw[ee];refine ag (dk kf k4 (ju (mg:=mg) (mb:=mb) (by rw[ZW];exact hg) (LD X hg (DP _)) (by rw[ZN];exact hb) u7 (ag (c9 ?_))) rfl);delta methodCall calleeOf;rw[show methodCallForm 2 [(aj,eval (.Name "self" ⟨97,27,97,31⟩) env),(aj,eval (.Name "what" ⟨97,33,97,37⟩) env)] []=ah from rfl];dsimp only[if_true];refine ag (bS (Ea X ?_));refine ag (cu (a:=(⟨97,8,97,38⟩:Pos)) rfl ?_);refine Calls.callWith_builtin rfl (Calls.evalArgs_plain (iZ (ld hn k1 m1 rfl (iZ (ld hn k2 m2 rfl (Ci ?_))))));refine H8 X he λh' T' c1 c2 c3=>?_
  exact Â h' T' _ c1 c2 c3
 refine s1 _ λbo Ve ÿ c1 c2 c3=>?_
 have d8:(KF pw w.params).In bo:=λa o z=>c1 a o (λq=>by rw[q,hK] at z;cases z) (X a o z)
 have n₁:bo.Ns L m:=let⟨o,es,ep,z,r⟩:=hn;⟨o,es,ep,c1 _ _ (fN hL) z,r⟩;refine lT (tE (ld n₁ k2 m2 rfl (ld n₁ k1 m1 rfl ?_)));refine v8 (es:=[]) (n:=0) rfl d8 c2 (.inr ⟨rfl,rfl,rfl⟩) (DZ _) rfl (by decide) λdc dx d1 d2 d3 d4 d5 d6=>?_
 have Yh:h.objs.size<=dx:=by
  rcases d4 with q|⟨_,q⟩
  ·cases q
  ·exact ai c3 q
 have kp:∀b o,b≠e->h.get? b=some o->dc.get? b=some o:=λb o b1 b2=>d1 b o b1 (λq=>nomatch q) (c1 b o b1 b2)
 have dS:(KF pw w.params).In dc:=λa o z=>d1 a o (λq=>by rw[q,hK] at z;cases z) (λq=>nomatch q) (d8 a o z)
 have SI:dc.Ns L m:=let⟨o,es,ep,z,r⟩:=hn;⟨o,es,ep,kp _ _ (fN hL) z,r⟩;refine lT (tE (ld SI k3 m3 rfl (ld SI k1 m1 rfl ?_)));refine v8 (P:=w.params) rfl dS d2 (.inl ⟨dx,rfl,d5,d3⟩) (D0 _) rfl (by show 1<=1000;decide) λh₃ MA f1 f2 f3 f4 f5 f6=>?_
 obtain rfl:MA=dx:=by
  rcases f4 with q|⟨q,_⟩
  ·cases q;rfl
  ·cases q
 refine mQ (hq h₃ MA Ve _ _ _ (λb o b1 b2=>f1 b o b1 (λq=>?_) (kp b o b1 b2)) f2 d3 Yh f5 ?_ (ai c3 (ai d6 f6)))
 ·cases q
  exact absurd (aK b2) (b0.mpr Yh)
 ·exact⟨_,_,rfl,_,[],rfl,rfl⟩
end
set_option backward.match.sparseCases false
open Builtin.ObjectAttr
section
variable{C:Cx}{rel:eS->Heap->β->α->Prop}
def qB(w:World)(h:Heap)(h':Heap)(e:Addr)(n:Int):Prop:=
 h.objs.size<=e/\∃T dx v1 vt es k,h'.get? e=some (jm T (some dx))/\h.objs.size<=dx/\dx≠e/\h'.get? dx=some (dictOf es k)/\bN w.params ["what","at"] [v1,.int n vt] es
theorem w_{v:Value}{n:Int}{u:Tok}(B:Base w H0)(I:Inv w H0 C ρ st s.heap)(room:A.depth+1<recursionLimit)
 (hq:∀h' e fJ,(∀b o,s.heap.get? b=some o->h'.get? b=some o)->s.heap.objs.size<=h'.objs.size->qB w s.heap h' e n->Q (.ref e) {s with heap:=h',toks:=fJ}):wpAny (model pw w) A (bU (.ref 189) [v,.int n u]) Q E s:=by
 obtain⟨h,g,d,t,os⟩:=s;have X:=B.X I;have F:=FE.okIn oI;refine H7 X (by simp only[eY];exact cW rfl) ?_;have kp:∀b o,h.get? b=some o->((h.push {cls:=.type "tuple",data:=.seq [v,.int n u].toArray}).push (jm h.objs.size none)).get? b=some o:=λb o e=>az _ (az _ e)
 have Ie:((h.push {cls:=.type "tuple",data:=.seq [v,.int n u].toArray}).push (jm h.objs.size none)).get? (h.objs.size+1)=some (jm h.objs.size none):=by heap_get
 have sz:((h.push {cls:=.type "tuple",data:=.seq [v,.int n u].toArray}).push (jm h.objs.size none)).objs.size=h.objs.size+2:=by rw[a9,a9]
 generalize((h.push {cls:=.type "tuple",data:=.seq [v,.int n u].toArray}).push (jm h.objs.size none))=h1 at kp Ie sz;have X1:(KF pw w.params).In h1:=λa o e=>kp _ _ (X a o e)
 refine gg λG k_=>?_
 obtain⟨oc,Qz,ct,c1,c2,c3⟩:=FE.Di oI w.params;refine k_ ?_;have lim:h1.NoLimit:=(B.lim.keeps I.old).keeps kp;have KO:eI.ps=(["self","what","at"]:List Str):=by kernel_rfl
 have Zg:pg ⟨h1,g,d,t,os⟩ eI.fd ⟨[.ref (h.objs.size+1),v,.int n u],[]⟩ (eI.ps.zip [.ref (h.objs.size+1),v,.int n u]):=by
  have V4:(KF pw w.params).lookup 159=some ⟨.type "tuple",none,.seq #[.int (-1) 391] 0,#[]⟩:=by kernel_rfl
  exact oy (o:=some #[.int (-1) 391]) F.p1 F.p2 F.p3 F.p4 rfl F.nd (by rw[KO];rfl) (λM A E Q q=>eM (X1 _ _ V4) rfl q)
 refine my (codeAny_call_def (o:=Pa eI.st eI.nm eI.qn eI.sX eI.pm (.ref eI.c)) (fd:=eI.fd) (body:=qj) (by show A.depth+1<_;exact room) (X1 _ _ (FE.at_ oI w.params)) rfl lim ⟨eI.c,oc,Qz,ct,rfl,X1 _ _ c1,c2,c3⟩
  (by show FuncBody.stmts (fBody eI.st)=_;rw[show fBody eI.st=qj from x4]) Zg (by show∀x∈(fScope eI.st).names,_;simp only[gw];decide+kernel) (λx hx=>?_) (λh₀ hn hk=>?_) F.co F.ge F.fn)
 ·have hm:x.1∈eI.ps:=(gy (show(x.1,x.2)∈eI.ps.zip _ from hx)).1;rw[KO] at hm;show(fScope eI.st).names.lookup x.1=_;simp only[gw];simp only[aP,GU,or_false] at hm;rcases hm with q|q|q<;>rw[q]<;>decide+kernel
 ·obtain⟨mg,hg⟩:=B.g;obtain⟨mb,hb,u7⟩:=B.b;have hK:(KF pw w.params).lookup (h.objs.size+1)=none:=by
   cases q:(KF pw w.params).lookup (h.objs.size+1) with
   |none=>rfl
   |some o=>exact absurd (aK (X _ _ q)) (b0.mpr (bX _))
  have k2:∀b o,h.get? b=some o->h₀.get? b=some o:=λb o e=>hk _ _ (kp _ _ e)
  have m:=hn;dsimp only[KO] at m;refine H6 (L:=h1.objs.size) (e:=h.objs.size+1) (T:=h.objs.size) (vw:=v) (va:=.int n u) (λa o e=>hk _ _ (X1 a o e)) ((hg.keeps I.old).keeps k2) ((hb.keeps I.old).keeps k2) ((u7 _ (by decide)).trans C6)
   (hk _ _ Ie) hK m (by kernel_rfl) (by kernel_rfl) (by kernel_rfl) (by show h.objs.size+1≠h1.objs.size;lia) λh' dx T' fJ es k q1 q2 q3 q4 q5 q6 q7=>?_
  have Y0:h1.objs.size<h₀.objs.size:=by
   obtain⟨o,_,_,q,_⟩:=hn;exact aK q
  refine⟨rfl,hq h' (h.objs.size+1) fJ (λb o e=>q1 b o (aL (fL (aK e))) (k2 b o e)) (by show h.objs.size<=h'.objs.size;lia) ⟨bX _,T',dx,v,u,es,k,q2,(by show h.objs.size<=dx;lia),q3,q5,q6⟩⟩
theorem qB.Wb{e:Addr}{n:Int}(I:Inv w H0 C ρ st h)(hn:n₀<=h.objs.size)(F:qB w h h' e n):xf w H0 C h' n₀ e n:=by
 refine gg λG k_=>?_
 obtain⟨a,T,dx,v1,vt,es,kk,q1,q2,q3,q4,q5⟩:=F;refine k_ ?_;refine⟨ai hn a,I.fg a,_,_,dx,v1,vt,es,kk,q1,rfl,rfl,rfl,(by show 1<6;decide),ai hn q2,I.fg q2,λhm=>?_,q4,q5,.inl rfl⟩;obtain⟨_,o,e',_⟩:=I.frames.mem hm;exact absurd (aK e') (b0.mpr q2)
theorem vB{x:Sem Value}{Q:Flow->aH->Prop}(hh:A.handled=none)
 (hx:wpAny (model pw w) A x (λv cH=>∃e T dx,v=.ref e/\cH.heap.get? 189=some sZ/\cH.heap.get? e=some (jm T (some dx))/\E (.ref e) cH) E s):
 wpAny (model pw w) A (raiseStmt env (some x) none) Q E s:=by
 have Rd:=YK;unfold raiseStmt;refine ag (iO hx (λv cH bo=>?_) λ_ _ x=>x);refine gg λG k_=>?_
 obtain⟨e,T,dx,rfl,hC,he,hE⟩:=bo;refine k_ ?_;obtain⟨hp,g,d,tk,os⟩:=cH
 repeat(first|with_reducible refine dy he ?_|with_reducible refine dy hC ?_|(with_reducible refine dC hC ?_;dsimp only[Rd])|wp_step)
 exact J7 hh hE
theorem Callee.fault(B:Base w H0):Callee w H0 (.ref 189):=λA Q E s k q=>wpAny_keeperOf_exc (k _ _ (B.K _ _ (iS _))) (q _)
def excOf:List PV->M PF
 |[.str _,.int n]=>λst=>.exc n st
 |_=>M.bad
theorem v9(vs:List PV)(st:St):excOf vs st=.bad\/∃x n,vs=[.str x,.int n]:=by
 cases vs with
 |nil=>exact .inl rfl
 |cons a l=>cases l with
  |nil=>cases a<;>exact .inl rfl
  |cons b l=>cases a with
   |str x=>cases b with
    |int n=>cases l with
     |nil=>exact .inr ⟨_,_,rfl⟩
     |cons=>exact .inl rfl
    |_=>exact .inl rfl
   |_=>exact .inl rfl
def cZ(m:M (List PV)):M PF:=do
 let vs<-m
 excOf vs
theorem rA(P:bL):nsIn (KF pw P) mainGlobals "SyntaxFault"=some (some (.ref 189)):=by kernel_rfl
theorem dr.N1{np Dn:Pos}{m:M (List PV)}(B:Base w H0)(K:C.Ok)(room:C.A.depth+1<recursionLimit)(hx:C.env.kindOf "SyntaxFault"=some .globalImplicit)(hs:es.all notStar=ah)(wj:f_ w H0 C es m):
 dr w H0 C (.Raise (some (.Call (.Name "SyntaxFault" np) es [] Dn)) none pos) (cZ m):=by
 intro ρ st s I Q E p;have e:exec (.Raise (some (.Call (.Name "SyntaxFault" np) es [] Dn)) none pos) C.env=(standAt pos>>=λ_=>raiseStmt C.env (some (do
  let v<-(eval (.Name "SyntaxFault" np) C.env>>=λv=>callWith Dn v [] (backTo Dn (starEach es C.env)) [])
  standAt pos
  pure v)) none):=rfl
 rw[e];refine ag (c9 (vB K.hd (ag (ag ?_))));obtain⟨mg,hg⟩:=B.g;refine dk K.fn hx (jI (mg:=mg) (by rw[K.gl];exact hg.keeps I.old) (mg_of B.K hg (rA _)) ?_) rfl;refine kM hs (Callee.fault B) ?_;unfold cZ at p;dsimp only[M.b6] at p;refine wj Dn ρ st s I _ _ ?_;cases hm:m st with
 |exc n aV=>rw[hm] at p;exact p
 |bad=>rw[hm] at p;exact p
 |ok vs aV=>
  rw[hm] at p;dsimp only at p;rcases v9 vs aV with q|⟨x,n,rfl⟩
  ·rw[q] at p;exact p.elim
  ·intro bC Vs bo b8 bK d8 r;refine⟨bK.old,?_⟩;refine gg λG k_=>?_
   obtain⟨V1,r1,rfl,_,V2,r2,rfl,⟨u,rfl⟩,rfl⟩:=r;refine k_ ?_;refine w_ (s:={s with heap:=bo,toks:=b8}) B bK room λh' e fJ k sz F=>?_
   have F':=F;refine gg λG k_=>?_
   obtain⟨a,T,dx,v1,vt,es,kk,q1,q2,q3,q4,q5⟩:=F;refine k_ ?_;refine ag (c9 (aE ⟨e,T,dx,rfl,k _ _ (bK.old _ _ (B.K _ _ (iS _))),q1,?_⟩));exact p bC e h' fJ (bK.keeps k sz) (d8.trans (Ext.of_keeps k sz)) (F'.Wb bK d8.size)
end
set_option backward.match.sparseCases true
open Builtin.ObjectAttr
theorem DW(P:bL):findIn (KF pw P) (.ref 189) "__getattribute__"=some (some (.builtin "BaseException.__getattribute__")):=by kernel_rfl
theorem DX(P:bL):findIn (KF pw P) (.ref 189) "__getattr__"=some none:=by kernel_rfl
theorem Be(P:bL):findIn (KF pw P) (.ref 189) "at"=some none:=by kernel_rfl
section
variable{C:Cx}{rel:eS->Heap->β->α->Prop}
theorem DO{P:bL}{e:Addr}{oe:Obj}{dx:Addr}{es:List cT}{k:Nat}{v1:Value}{n:Int}{u:Tok}{expr:Bool}(X:(KF pw P).In s.heap)
 (I:InstAt s.heap e oe 189 (some (dictOf es k))) (hf:bN P ["what","at"] [v1,.int n u] es) (hq:Q (.int n u) {s with toks:=s.toks+1}):wpAny (model pw w) A (uj (.ref e) "at" expr) Q E s:=by
 have FB:=PySem.F.attrBase_Exception;obtain⟨h,g,d,t,os⟩:=s;dsimp only at X I hq;have Ik:Looks (model pw w) h (typeOf (.ref e)) (.ref 189):=I.type;have hC:h.get? 189=some sZ:=X _ _ (iS _);refine ag (jw (bS (ag (Ik.at (ag ((mx (M:=model pw w) X (DW _)).at ?_))))));dsimp only;rw[show(onTheHeap (cG 189)&&ic "BaseException.__getattribute__"==ic "object.__getattribute__")=aj from by rw[show(ic "BaseException.__getattribute__"==ic "object.__getattribute__")=aj from by decide+kernel,JU],if_neg (by decide)];refine ag ((looks_hook (M:=model pw w) (mc:=.ref 189) X (K:=KF pw P) (r:=none) (by exact DX P)).at (ag (kJ (bS ?_))));delta callGetattribute;dsimp only;rw[show(expr&&onTheHeap (ic "BaseException.__getattribute__"))=aj from by cases expr<;>rfl,if_neg (by decide)];unfold boundAndCalled;dsimp only[FB.ga.bind];refine ag (aE ?_);have sub:Looks (model pw w) h (isInstance (.ref e) (.type "BaseException")) ah:=Ik.andThen λA Q E s k q=>dC (k _ _ hC) (YK▸q)
 refine my (i3 FB.ga.plain PySem.F.entry_bexc_ga (@check_slot (model pw w) _ _ _ "BaseException.__getattribute__" "BaseException" "__getattribute__" (.ref e) _ [] _ (by decide+kernel) (by decide+kernel) sub (PySem.F.args_bexc_ga _ _) ?_));have fo:findObj (KF pw P) 189 (some (dictOf es k)) "at"=some (.value (.int n u)):=by
  obtain⟨cd,hc,sH⟩:=Hg (v' P);obtain⟨en,e1,e2⟩:=D3 (j:=1) hf (by decide+kernel) rfl rfl;unfold findObj;rw[hc,cM,Be,cM];dsimp only[cM,cM];have:l8 cd (some (dictOf es k)) "at"=some (some (.int n u)):=by
   unfold l8;rw[if_pos sH];unfold lookIn;dsimp only;rw[e1,<-e2]
  rw[this];rfl
 refine ag (aE (ag (aE (ag (Ik.at (ag ((looks_find (M:=model pw w) X I fo).at ?_)))))));refine aE ?_;exact aE hq
end
open Builtin.ObjectAttr
section
variable{C:Cx}{rel:eS->Heap->β->α->Prop}
def B5(b:M PF)(x:Str)(i:Nat):M PF:=λst=>match b st with
 |.ok f st'=>.ok f st'
 |.exc n st'=>.ok (.ret (.tup [.str x,.int n])) {st' with loc:=st'.loc.set i none}
 |.bad=>.bad
theorem Inv.forget{x:Str}{m:Str->Option Value}{u:Option Value}(K:C.Ok)(I:Inv w H0 C ρ st h)(hm:h.Ns C.env.locals m/\qA C ρ h m st.loc)(hs:dK C.env.locals h h')(hn:h'.Ns C.env.locals (λy=>if y=x then u else m y))
 (hi:C.names[i]?=some x):Inv w H0 C ρ {st with loc:=st.loc.set i none} h'/\Ext C ρ h ρ h':=
 I.locs K hm.2 hs hn hi nofun
noncomputable abbrev JH(n x:Str)(p1 p2 p3 p4 p5:Pos)(k1 k2:Nat):List Stmt:=[.Return (some (.Tuple [.Constant (.str x) k1 p1,.Attribute (.Name n p2) "at" p3] k2 p4)) p5]
noncomputable def Ai(a b:Value):Obj:={cls:=.type "tuple",data:=.seq [a,b].toArray}
theorem B6{p1 p2 p3 p4 p5:Pos}{n x:Str}{k1 k2 tk:Nat}{A:e_}{e dx:Addr}{oe:Obj}{es:List cT}{kk:Nat}{v1:Value}{m:Int}{vt:Tok}{mm:Str->Option Value}{Q:Flow->aH->Prop}{E:Value->aH->Prop}(K:C.Ok)(hk:C.env.kindOf n=some .local)(hd:(n==("__debug__":Str))=aj)(X:(KF pw w.params).In h)
 (hn:h.Ns C.env.locals mm) (hm:mm n=some (.ref e)) (inst:InstAt h e oe 189 (some (dictOf es kk))) (at_:h.get? dx=some (dictOf es kk)) (Uv:oe.dict=some dx) (o:bN w.params ["what","at"] [v1,.int m vt] es) (q:∀t k,Q (.ret (.ref h.objs.size)) {s with heap:=h.push (Ai (.str x t) (.int m vt)),toks:=k}):
 wpAny (model pw w) A (execs (JH n x p1 p2 p3 p4 p5 k1 k2) C.env) Q E {s with heap:=h,toks:=tk}:=by
 refine lT ?_;dsimp only[Pu];refine ag (c9 (ag ?_));have e1:eval (.Tuple [.Constant (.str x) k1 p1,.Attribute (.Name n p2) "at" p3] k2 p4) C.env=(standAt p4>>=λ_=>spliced [(aj,eval (.Constant (.str x) k1 p1) C.env),(aj,eval (.Attribute (.Name n p2) "at" p3) C.env)]>>=λl=>sQ l):=rfl;rw[e1];refine ag (c9 (ag (iZ (jw (iZ ?_)))));dsimp only[LG];refine ag (jK (gh (v:=.ref e) K.fn hk hn hm (ag (c9 (ag (bS ?_))))) hd);refine DO (dx:=dx) X inst o ?_;refine ag (aE (aE (Ci ?_)));refine UX ?_ (by simp only[eY];exact cW rfl);exact aE (q _ _)
theorem Gq{A:e_}{ye:Pos}{n x:Str}{tk:Nat}{m:Int}{t1 t2:Tok}{u0:PV}{Q:Value->aH->Prop}{E:Value->aH->Prop}(K:C.Ok)(hi:C.names[i]?=some n)(hk:C.env.kindOf n=some .local)(I:Inv w H0 C ρ {st with loc:=st.loc.set i (some u0)} h)
 (fin:∀a h' k,Inv w H0 C ρ {st with loc:=st.loc.set i none} h'->Ext C ρ h ρ h'->a7 ρ h' (.tup [.str x,.int m]) (.ref a)->Q (.ref a) {s with heap:=h',toks:=k}):
 wpAny (model pw w) A (bindName C.env n .none>>=λ_=>unbindBehindTheSuite C.env n ye) (λ_ yK=>Q (.ref h.objs.size) yK) E {s with heap:=h.push (Ai (.str x t1) (.int m t2)),toks:=tk}:=by
 refine gg λG k_=>?_
 have Ht:=I.push (Ai (.str x t1) (.int m t2));have Hv:Ext C ρ h ρ (h.push (Ai (.str x t1) (.int m t2))):=Ext.push _;obtain⟨Sa,SJ,WT⟩:=Ht.loc;refine k_ ?_;refine ag (oh (fT hk SJ (λRz XA Tu=>?_) (by rw[K.fn];rfl)));delta unbindBehindTheSuite;dsimp only;refine wpAny_onRaise (wpAny_unbindName_local (v:=.none) hk XA (if_pos rfl) (by rw[K.fn];rfl) λNc u SK Tv=>?_);have eq:(λy=>if y=n then u else(λy=>if y=n then some bT else Sa y) y)=λy=>if y=n then u else Sa y:=by
  funext y
  by_cases q:y=n
  ·rw[if_pos q,if_pos q]
  ·rw[if_neg q,if_neg q];exact if_neg q
 simp only[eq] at SK;obtain⟨Hu,L5⟩:=Ht.forget K ⟨SJ,WT⟩ (Tu.trans Tv) SK hi;rw[gN] at Hu;refine fin _ Nc _ Hu (Hv.trans L5) ⟨h.objs.size,_,_,_,rfl,((Tu.trans Tv).2 _ (cO I.oN)).trans (a8 _ rfl),rfl,rfl,?_⟩;exact⟨_,_,rfl,⟨_,rfl⟩,_,_,rfl,⟨_,rfl⟩,rfl⟩
theorem dr.OG{np p1 p2 p3 p4 p5 ye:Pos}{n:Str}{x:Str}{k1 k2:Nat}{mb:M PF}(B:Base w H0)(K:C.Ok)(Uw:C.fV=C.env)(hx:C.env.kindOf "SyntaxFault"=some .globalImplicit)(hi:C.names[i]?=some n)(hk:C.env.kindOf n=some .local)(hd:(n==("__debug__":Str))=aj)(hb:i4 w H0 C body mb):
 dr w H0 C (.Try body [.ExceptHandler (some (.Name "SyntaxFault" np)) (some n) [.Return (some (.Tuple [.Constant (.str x) k1 p1,.Attribute (.Name n p2) "at" p3] k2 p4)) p5] ye] [] [] pos) (B5 mb x i):=by
 intro ρ st s I Q E p;have e0:exec (.Try body [.ExceptHandler (some (.Name "SyntaxFault" np)) (some n) [.Return (some (.Tuple [.Constant (.str x) k1 p1,.Attribute (.Name n p2) "at" p3] k2 p4)) p5] ye] [] [] pos) C.env=
  (standAt pos>>=λ_=>tryStmt aj (execs body C.env) [.ExceptHandler (some (.Name "SyntaxFault" np)) (some n) [.Return (some (.Tuple [.Constant (.str x) k1 p1,.Attribute (.Name n p2) "at" p3] k2 p4)) p5] ye] (execs [] C.env) [] C.env):=rfl
 rw[e0];refine ag (c9 (wpAny_tryStmt_except (hb ρ st s I _ _ ?_)));unfold B5 at p;revert p;cases hm:mb st with
 |bad=>exactλp=>p
 |ok f st'=>
  intro p d9 f' h' fJ dg dS gm;have z:=p d9 f' h' fJ dg dS gm;cases f'<;>first|exact mQ z|exact z
 |exc m st'=>
  intro p d9 e h' fJ dg dS U5;refine vA (s:={s with heap:=h',toks:=fJ}) K dg dS rfl U5 λh₃ fD gV U6=>?_
  refine lP (s:={s with heap:=h₃,toks:=fJ}) (fl:=none) fD gV rfl U6 λkT hW i5 PK=>?_
  obtain⟨mg,hg⟩:=B.g;have X:=B.X hW;have hC:kT.get? 189=some sZ:=X _ _ (iS _);have PM:=PK;obtain⟨q0,q1,oe,vs,dx,v1,vt,es,kk,q2,q3,_⟩:=PM;refine wpAny_handleBy_cons (codeAny_handlers_test (dk K.fn hx (jI (mg:=mg) (by simp only[K.gl];exact hg.keeps hW.old) (mg_of B.K hg (rA _)) ?_) rfl)) (by intro q;cases q);refine wpAny_excMatches_sub_self hC q2 q3 (by decide+kernel) (codeAny_handlers_suite_as ?_);refine lP (C:=C.ia (C.A.mark (some (.ref e)))) (s:={s with heap:=kT,toks:=fJ}) (fl:=none) hW.ia i5.ia rfl PK λwm mW ou U7=>?_
  refine gg λG k_=>?_
  obtain⟨mm,hn,l⟩:=mW.loc;refine k_ ?_;refine fT (env:=C.env) hk hn (λu_ KL Et=>?_) (by rw[K.fn];rfl);obtain⟨vK,vN⟩:=mW.zN.oX (v:=.obj (.ref e)) K l Et KL hi hk rfl;obtain⟨r0,r1,YP,vs',MA,Ċ,Č,QV,YI,r2,r3,r4,r5,r6,r7,r8,r9,è,é,_⟩:=U7;have ne1:e≠C.env.locals:=λq=>(mW.zN.fO r2 r5).1 (eV.mpr (.inl q))
  have ne2:MA≠C.env.locals:=λq=>r9 (by show MA∈(C.fV::C.outer).filterMap (·.frame);rw[Uw,cR,mW.frame,Uw,q];exact .head _)
  have Uo:u_.get? e=some YP:=(Et.2 e ne1).trans r2;have at2:u_.get? MA=some (dictOf QV YI):=(Et.2 MA ne2).trans è;have inst:InstAt u_ e YP 189 (some (dictOf QV YI)):=⟨Uo,r3,by unfold notCls;rw[r5],by rw[r4];exact at2⟩;refine B6 (s:=s) K hk hd (B.X vK) KL (if_pos rfl) inst at2 r4 é λt k=>?_
  exact Gq (s:=s) (Q:=λv s=>Q (.ret v) s) K hi hk vK λa Nc k Hu L5 r=>p d9 (.ret (.ref a)) Nc _ Hu (ou.zN.trans (vN.trans L5)) ⟨_,rfl,r⟩
end
set_option backward.match.sparseCases false
set_option genCtorIdx false in
inductive It where
 |list (i k:Nat)|bytes (b:List UInt8) (k:Nat)|range (a left c:Int)
noncomputable def cg(a:Int):Bool:=decide (-(2^31)<a/\a<2^31)
def j4:PV->M It:=λv st=>match v with
 |.bytes b=>.ok (.bytes b 0) st
 |.ref i=>match st.hp[i]?with
  |some (.list _)=>.ok (.list i 0) st
  |_=>.bad
 |_=>.bad
noncomputable def cY(st:St):It->Option (Option (PV×It))
 |.list i k=>match st.hp[i]?with
  |some (.list l)=>match l[k]?with
   |some v=>some (some (v,.list i (k+1)))
   |none=>some none
  |_=>none
 |.bytes b k=>match b[k]?with
  |some c=>some (some (.int (c.toNat:Int),.bytes b (k+1)))
  |none=>some none
 |.range a left c=>if 0<left then some (some (.int a,.range (a+c) (left-1) c)) else some none
def ir(ρ:eS)(h:Heap)(I:Addr):It->Prop
 |.list i k=>∃a d,ρ[i]?=some (a,d)/\h.IsListIter I a k
 |.bytes b k=>∃t,JZ h I b.toArray t k
 |.range a left c=>IsRangeIter h I a left c
def PS(ρ:eS)(h:Heap)(n₀:Nat)(it:It)(v:Value):Prop:=∃I,v=.ref I/\n₀<=I/\ir ρ h I it
section
variable{C:Cx}{rel:eS->Heap->β->α->Prop}
theorem ir.fields{I:Addr}{it:It}(hh:ir ρ h I it):∃o vs,h.get? I=some o/\o.data=.fields vs:=by
 cases it with
 |list=>obtain⟨_,_,_,o,e,_,d⟩:=hh;exact⟨o,_,e,d⟩
 |bytes=>obtain⟨_,o,e,_,d⟩:=hh;exact⟨o,_,e,d⟩
 |range=>exact⟨_,_,hh,rfl⟩
theorem ir.XO{I:Addr}(p:ρ<+:d9):∀{it:It},ir ρ h I it->ir d9 h I it
 |.list ..,⟨a,d,e,r⟩=>⟨a,d,jc p e,r⟩
 |.bytes ..,r=>r
 |.range ..,r=>r
theorem Inv.BU(I:Inv w H0 C ρ st h)(X:Ext C cC h₀ ρ h){o:Obj}{vs:Array Value}(e:h.get? a=some o)(d:o.data=.fields vs)(na:h₀.get? a=none)(hn:H0.get? a=none)(k:∀b o,b≠a->h.get? b=some o->h'.get? b=some o)(sz:h.objs.size<=h'.objs.size):Inv w H0 C ρ st h'/\Ext C cC h₀ ρ h':=by
 refine⟨I.F3 (λb x e' q=>k b x (λz=>?_) e') sz,⟨X.pre,ai X.size sz,λb x e' q=>?_,X.new,λb x us e' d'=>k b x (λy=>by rw[y,na] at e';cases e') (X.fix b x us e' d')⟩⟩
 ·subst z;rw[e] at e';cases e';rcases q with q|q|q
  ·exact(I.fO e d).1 q
  ·rw[hn] at q;cases q
  ·exact q _ d
 ·obtain⟨sl,z⟩:=X.keep b x e' q;exact⟨sl,k b _ (λy=>by rw[y,na] at e';cases e') z⟩
theorem mn{it l:Addr}{Q:Option Value->aH->Prop}(hh:A.handled=none)(hit:s.heap.IsListIter it l i)(hl:s.heap.IsList l items)(hx:items[i]?=none)
 (hQ:∀h',qw it s.heap h'->s.heap.objs.size<=h'.objs.size->Q none {s with heap:=h'}):wpAny (model pw w) A (pyNext (.ref it)) Q E s:=by
 refine gg λG k_=>?_
 obtain⟨o,ho,hc,hd⟩:=id hit;refine k_ ?_;refine gg λG k_=>?_
 obtain⟨ol,Wr,_,nl,Wh⟩:=hl;refine k_ ?_;unfold pyNext;refine ag (kJ (g8 (name:=b_ "__next__") hit.typeIs LH (iL LH hit.typeIs entry_listiter_next ?_ (args_listiter_next _))));show wpAny _ _ (field (.ref it) 0>>=_) _ _ s;refine ag (dG ho hd (x:=.ref l) rfl ?_);show wpAny _ _ (if(cG l==bT)=ah then _ else _) _ _ s;dsimp only[if_neg (show¬((cG l==bT)=ah) from fj)];show wpAny _ _ (field (.ref it) 1>>=_) _ _ s;refine ag (dG ho hd (x:=.int i 0) rfl ?_);show wpAny _ _ (seqItems? (.ref l)>>=_) _ _ s;refine ag (eM Wr Wh ?_);simp only[gU,hx];refine ag (gj (ag (ij ho hd (by simp) ?_)));show wpAny _ _ (newExc (.type "StopIteration") []>>=_) _ _ _;refine ag ?_;simp only[newExc,newTuple];refine ag (b5 ?_ (by size_fits));refine ag (m:=firstArgMember _ _) (cu (a:=bT) (by first|rfl|(simp only[firstArgMember];rfl)) ?_);refine b5 ?_ (by size_fits);dsimp only[raiseNew];refine ag (qh ?_);rw[show A.in1.handled=none from hh];refine ag (aE (om ?_));refine ag (eH (T:="StopIteration") (b:=ah) ⟨_,a8 _ rfl,rfl⟩ n_ ?_);exact aE (hQ _ (((bG ..).extBut.push _).push _) (by rw[a9,a9,(bG ..).1];exact aF _ 2))
theorem rS{it:Addr}{b:Array UInt8}{t:Tok}{Q:Option Value->aH->Prop}(hh:A.handled=none)(hit:JZ s.heap it b t i)(hx:b[i]?=none)
 (hQ:∀h',qw it s.heap h'->s.heap.objs.size<=h'.objs.size->Q none {s with heap:=h'}):wpAny (model pw w) A (pyNext (.ref it)) Q E s:=by
 refine gg λG k_=>?_
 obtain⟨o,ho,hc,hd⟩:=id hit;refine k_ ?_;unfold pyNext;refine ag (kJ (g8 (name:=b_ "__next__") (J0 hit) O3 (iL O3 (J0 hit) KBw.entry_next ?_ (KBw.args_next _))));show wpAny _ _ (field (.ref it) 0>>=_) _ _ s;refine ag (dG ho hd (x:=.bytes b t) rfl ?_);show wpAny _ _ (if(xn b t==bT)=ah then _ else _) _ _ s;dsimp only[if_neg (show¬((xn b t==bT)=ah) from fj)];show wpAny _ _ (field (.ref it) 1>>=_) _ _ s;refine ag (dG ho hd (x:=.int i 0) rfl ?_);refine ag (cu (a:=b) rfl ?_);simp only[gU,hx];refine ag (gj (ag (ij ho hd (by simp) ?_)));show wpAny _ _ (newExc (.type "StopIteration") []>>=_) _ _ _;refine ag ?_;simp only[newExc,newTuple];refine ag (b5 ?_ (by size_fits));refine ag (m:=firstArgMember _ _) (cu (a:=bT) (by first|rfl|(simp only[firstArgMember];rfl)) ?_);refine b5 ?_ (by size_fits);dsimp only[raiseNew];refine ag (qh ?_);rw[show A.in1.handled=none from hh];refine ag (aE (om ?_));refine ag (eH (T:="StopIteration") (b:=ah) ⟨_,a8 _ rfl,rfl⟩ n_ ?_);exact aE (hQ _ (((bG ..).extBut.push _).push _) (by rw[a9,a9,(bG ..).1];exact aF _ 2))
theorem rT{it:Addr}{x left step:Int}{Q:Option Value->aH->Prop}(hh:A.handled=none)(hit:IsRangeIter s.heap it x left step)(Ro:left<=0)
 (hQ:∀h',qw it s.heap h'->s.heap.objs.size<=h'.objs.size->Q none {s with heap:=h'}):wpAny (model pw w) A (pyNext (.ref it)) Q E s:=by
 have hT:s.TypeIs (.ref it) "range_iterator":=⟨_,hit,rfl⟩;unfold pyNext;refine ag (kJ (g8 (name:=b_ "__next__") hT mV (iL mV hT PySem.F.entry_range_iterator_next ?_ (PySem.F.args_range_iterator_next_1 _))));show wpAny _ _ (field (.ref it) 0>>=_) _ _ s;refine ag (dG hit rfl (x:=rawInt x) rfl ?_);show wpAny _ _ (field (.ref it) 1>>=_) _ _ s;refine ag (dG hit rfl (x:=rawInt left) rfl ?_);show wpAny _ _ (field (.ref it) 2>>=_) _ _ s;refine ag (dG hit rfl (x:=rawInt step) rfl ?_);show wpAny _ _ (if left<=0 then _ else _) _ _ s;rw[if_pos Ro];refine ag (gj ?_);refine ag ?_;show wpAny _ _ (newExc (.type "StopIteration") []>>=_) _ _ _;refine ag ?_;simp only[newExc,newTuple];refine ag (b5 ?_ (by size_fits));refine ag (m:=firstArgMember _ _) (cu (a:=bT) (by first|rfl|(simp only[firstArgMember];rfl)) ?_);refine b5 ?_ (by size_fits);dsimp only[raiseNew];refine ag (qh ?_);rw[show A.in1.handled=none from hh];refine ag (aE (om ?_));refine ag (eH (T:="StopIteration") (b:=ah) ⟨_,a8 _ rfl,rfl⟩ n_ ?_);exact aE (hQ _ (((UT it s.heap).push _).push _) (by rw[a9,a9];exact aF _ 2))
theorem Al{it:It}{Q:Option Value->aH->Prop}{E:Value->aH->Prop}(hh:A.handled=none)(I:Inv w H0 C ρ st s.heap)(X:Ext C cC h₀ ρ s.heap)(na:h₀.get? a=none)(h0:H0.get? a=none)(R:ir ρ s.heap a it)
 (hQ:match cY st it with
  |some (some (v,it'))=>∀h' U tk,Inv w H0 C ρ st h'->Ext C cC h₀ ρ h'->a7 ρ h' v U->ir ρ h' a it'->Q (some U) {s with heap:=h',toks:=tk}
  |some none=>∀h' tk,Inv w H0 C ρ st h'->Ext C cC h₀ ρ h'->Q none {s with heap:=h',toks:=tk}
  |none=>False):wpAny (model pw w) A (pyNext (.ref a)) Q E s:=by
 refine gg λG k_=>?_
 obtain⟨o,vs,e,d⟩:=R.fields;refine k_ ?_;cases it with
 |list i k=>
  refine gg λG k_=>?_
  unfold cY at hQ;dsimp only at hQ;refine k_ ?_;cases hi:st.hp[i]?with
  |none=>rw[hi] at hQ;exact hQ.elim
  |some oo=>
   rw[hi] at hQ;cases oo with
   |dict=>exact hQ.elim
   |cN=>exact hQ.elim
   |inst=>exact hQ.elim
   |list l=>
    dsimp only at hQ;refine gg λG k_=>?_
    obtain⟨b,dd,hr,hit⟩:=R;refine k_ ?_;refine gg λG k_=>?_
    obtain⟨b',Ă,gz,rfl,us,n,el,rl⟩:=I.objs i _ hi;refine k_ ?_;rw[hr] at gz;cases gz;have EA:s.heap.IsList b us:=⟨_,el,rfl,n,rfl⟩;have ba:b≠a:=λq=>by simp only[q,e] at el;cases el;cases d
    cases hk:l[k]?with
    |some v=>
     rw[hk] at hQ;refine gg λG k_=>?_
     obtain⟨U,hU,rU⟩:=rl.get hk;refine k_ ?_;refine CR hit EA (by simpa using hU) λh' El hs=>?_
     obtain⟨I',X'⟩:=I.BU X e d na h0 (λb o q z=>(hs.2 b q).trans z) (bI hs.1.symm);refine hQ h' U s.toks I' X' (a7.mono (λc o us n z c1 c2=>⟨o.slots,(hs.2 c (λq=>?_)).trans z⟩) (a_ _) v U rU) ⟨b,none,hr,El⟩;simp only[q,e] at z;cases z;rw[d] at c2;cases c2
    |none=>
     rw[hk] at hQ;refine mn hh hit EA (by have:=rl.length;simp at hk⊢;rw[<-cz,this];exact hk) λh' hs sz=>?_
     obtain⟨I',X'⟩:=I.BU X e d na h0 (λb o q z=>hs b o q z) sz;exact hQ h' s.toks I' X'
 |bytes b k=>
  unfold cY at hQ;dsimp only at hQ;obtain⟨t,hit⟩:=R;cases hk:b[k]?with
  |some c=>
   rw[hk] at hQ;refine KBw.next_item hit (by simpa using hk) λh' El hs=>?_
   obtain⟨I',X'⟩:=I.BU X e d na h0 (λb o q z=>(hs.2 b q).trans z) (bI hs.1.symm);exact hQ h' _ _ I' X' ⟨_,rfl⟩ ⟨t,El⟩
  |none=>
   rw[hk] at hQ;refine rS hh hit (by simpa using hk) λh' hs sz=>?_
   obtain⟨I',X'⟩:=I.BU X e d na h0 (λb o q z=>hs b o q z) sz;exact hQ h' s.toks I' X'
 |range x left c=>
  refine gg λG k_=>?_
  unfold cY at hQ;dsimp only at hQ;refine k_ ?_;by_cases hl:0<left
  ·rw[if_pos hl] at hQ;refine wpAny_pyNext_range_item R hl λh' El hs=>?_
   obtain⟨I',X'⟩:=I.BU X e d na h0 (λb o q z=>(hs.2 b q).trans z) (bI hs.1.symm);exact hQ h' _ _ I' X' ⟨_,rfl⟩ El
  ·rw[if_neg hl] at hQ;refine rT hh R (by lia) λh' hs sz=>?_
   obtain⟨I',X'⟩:=I.BU X e d na h0 (λb o q z=>hs b o q z) sz;exact hQ h' s.toks I' X'
end
def WK(it:It):M (Option (PV×It)):=λst=>match cY st it with
 |some r=>.ok r st
 |none=>.bad
def iC:Nat->It->(PV->M Unit)->M PF->M PF
 |0,_,_,_=>M.bad
 |k+1,it,t,b=>do
  let r<-WK it
  match r with
  |none=>pure .next
  |some (v,it')=>do
   t v
   let f<-b
   match f with
   |.next=>iC k it' t b
   |.cont=>iC k it' t b
   |.brk=>pure .next
   |.ret v=>pure (.ret v)
noncomputable def dR:Nat:=100000
theorem rg(k:Nat)(it:It)(t:PV->M Unit)(b:M PF)(st:St):iC (k+1) it t b st=(match cY st it with
 |none=>.bad
 |some none=>.ok .next st
 |some (some (v,it'))=>match t v st with
  |.ok _ aV=>(match b aV with
   |.ok f cQ=>(match f with
    |.next=>iC k it' t b cQ
    |.cont=>iC k it' t b cQ
    |.brk=>.ok .next cQ
    |.ret v=>.ok (.ret v) cQ)
   |.exc n cQ=>.exc n cQ
   |.bad=>.bad)
  |.exc n aV=>.exc n aV
  |.bad=>.bad):=by
 have e:iC (k+1) it t b=(WK it>>=λr=>match r with
  |none=>pure .next
  |some (v,it')=>t v>>=λ_=>b>>=λf=>match f with
   |.next=>iC k it' t b
   |.cont=>iC k it' t b
   |.brk=>pure .next
   |.ret v=>pure (.ret v)):=rfl
 rw[e,M.b6];unfold WK;cases cY st it with
 |none=>rfl
 |some r=>
  cases r with
  |none=>rfl
  |some r=>
   obtain⟨v,it'⟩:=r;dsimp only[M.b6];cases t v st with
   |bad=>rfl
   |exc=>rfl
   |ok _ aV=>
    dsimp only[M.b6];cases b aV with
    |bad=>rfl
    |exc=>rfl
    |ok f cQ=>cases f<;>rfl
noncomputable def UL(a b c:Int):Int:=bu a b c
section
variable{C:Cx}{rel:eS->Heap->β->α->Prop}
abbrev Nj(n₀:Nat):eS->Heap->It->Value->Prop:=λρ h it V=>PS ρ h n₀ it V
abbrev mz(w:World)(H0:Heap)(C:Cx)(e:Expr)(m:M It):Prop:=∀ρ st s,Inv w H0 C ρ st s.heap->∀(Q:Value->aH->Prop) (E:Value->aH->Prop),dI w H0 C (Nj s.heap.objs.size) ρ s (m st) Q E->wpAny (model pw w) C.A (eval e C.env) (λx cH=>wpAny (model pw w) C.A (pyIter x) Q E cH) E s
noncomputable def jW:Expr->Bool
 |.Set ..=>aj
 |_=>ah
theorem oK{x:Value}(h:jW e=ah):foldedSetIterable e env x=pure x:=by
 cases e<;>first|rfl|cases h
theorem aG.iter(I:Inv w H0 C ρ st s.heap)(r:a7 ρ s.heap v V):aG w H0 C (Nj s.heap.objs.size) ρ st s (pyIter V) (j4 v):=by
 intro Q E p;cases v<;>first|exact p.elim|skip
 ·obtain⟨t,rfl⟩:=r;rename_i b;exact KBw.pyIter_bytes (p ρ _ _ s.toks (I.push _) (Ext.push _) ⟨_,rfl,aC _,t,_,a8 _ rfl,rfl,rfl⟩)
 ·rename_i i;obtain⟨a,d,rfl,hr⟩:=r;unfold j4 at p;dsimp only at p;cases hi:st.hp[i]?with
  |none=>rw[hi] at p;exact p.elim
  |some o=>
   rw[hi] at p;cases o with
   |dict=>exact p.elim
   |cN=>exact p.elim
   |inst=>exact p.elim
   |list l=>
    refine gg λG k_=>?_
    obtain⟨a',d',gz,rfl,us,n,el,rl⟩:=I.objs i _ hi;refine k_ ?_;rw[hr] at gz;cases gz;exact O7 ⟨_,el,rfl,n,rfl⟩ (p ρ _ _ s.toks (I.push _) (Ext.push _) ⟨_,rfl,aC _,a,none,hr,_,a8 _ rfl,rfl,rfl⟩)
theorem mz.of{m:M PV}(h:bj w H0 C e m):mz w H0 C e (do let v<-m;j4 v):=by
 intro ρ st s I Q E p;dsimp only[M.b6] at p;refine h ρ st s I _ _ ?_;cases hm:m st with
 |bad=>rw[hm] at p;exact p
 |exc=>rw[hm] at p;exact p
 |ok v aV=>
  rw[hm] at p;dsimp only at p;intro bC V bo b8 bK d8 r;refine aG.iter (s:={s with heap:=bo,toks:=b8}) bK r Q E ?_;revert p;cases j4 v aV with
  |bad=>exactλp=>p
  |exc=>exactλp d9 e h' fJ I' X' F=>p d9 e h' fJ I' (d8.trans X') (F.tU d8.size)
  |ok it cQ=>
   intro p d9 a h' fJ I' X' R;obtain⟨z,q1,q2,q3⟩:=R;exact p d9 a h' fJ I' (d8.trans X') ⟨z,q1,ai d8.size q2,q3⟩
theorem ir.keep{I:Addr}{it:It}(r:ir ρ h I it)(X:Ext C ρ h d9 h'):ir d9 h' I it:=by
 cases it with
 |list=>obtain⟨a,d,e,o,g,c,z⟩:=r;exact⟨a,d,jc X.pre e,o,X.fix _ _ _ g z,c,z⟩
 |bytes=>obtain⟨t,o,g,c,z⟩:=r;exact⟨t,o,X.fix _ _ _ g z,c,z⟩
 |range=>exact X.fix _ _ _ r rfl
noncomputable def jU:Expr->Bool
 |.Name ..=>ah
 |_=>aj
theorem pI{t:Expr}{it v:Value}(h:jU t=ah):letOwnedTupleGo t it v=pure ():=by
 cases t<;>first|rfl|cases h
inductive FW(w:World)(H0:Heap)(C:Cx)(cC:eS)(s₀:aH)(a:Addr)(g:PV->M Unit)(b:M PF)(Q:Flow->aH->Prop)(E:Value->aH->Prop):Nat->aH->Prop
 |mk (ρ:eS) (st:St) (h:Heap) (tk n:Nat) (it:It) (I:Inv w H0 C ρ st h) (X:Ext C cC s₀.heap ρ h) (R:ir ρ h a it) (p:dI w H0 C pV cC s₀ (iC n it g b st) Q E):FW w H0 C cC s₀ a g b Q E n {s₀ with heap:=h,toks:=tk}
theorem dr.D9{t:Expr}{mi:M It}{g:PV->M Unit}{b:M PF}(K:C.Ok)(hn:jU t=ah)(hs:jW e=ah)(hi:mz w H0 C e mi)(ht:fF w H0 C t g)(hb:i4 w H0 C body b):
 dr w H0 C (.For t e body [] pos) (do let it<-mi;iC dR it g b):=by
 intro cC je s₀ oq Q E lY;dsimp only[M.b6] at lY;refine wpAny_For (hi cC je s₀ oq _ _ ?_) (λx=>oK hs);cases hm:mi je with
 |bad=>rw[hm] at lY;exact lY
 |exc n aV=>rw[hm] at lY;exact lY
 |ok j5 aV=>
  rw[hm] at lY;clear hm hi hs;intro bC V bo b8 bK d8 sR;obtain⟨a,rfl,ge,sR⟩:=sR;have fr:=oq.fg ge;have ge:=yY ge;refine(codeAny_forLoop (FW w H0 C cC s₀ a g b Q E) (λn s hI=>?_) dR (.mk bC aV bo b8 dR j5 bK d8 sR lY) (λv=>pI hn));clear bK d8 sR lY oq hn;cases hI with
  |mk ρ st h tk n it I X R p=>
  cases n with
  |zero=>exact p.elim
  |succ n=>
   rw[rg] at p;refine Al (s:={s₀ with heap:=h,toks:=tk}) K.hd I X ge fr R ?_;clear I X R ge fr;cases hx:cY st it with
   |none=>rw[hx] at p;exact p
   |some r=>
    rw[hx] at p;clear hx;cases r with
    |none=>exactλh' fJ I' X'=>mQ (p ρ .next h' fJ I' X' rfl)
    |some r=>
     obtain⟨v,it'⟩:=r;dsimp only at p⊢;intro dc U ew dg dS rU CU;refine ht ρ st {s₀ with heap:=dc,toks:=ew} v U dg rU _ _ ?_;clear rU dg;cases hg:g v st with
     |bad=>rw[hg] at p;exact p
     |exc m cQ=>rw[hg] at p;exact dI.err (s:={s₀ with heap:=dc,toks:=ew}) (r:=s₀.toks) K dS s₀ rfl p
     |ok u cQ=>
      rw[hg] at p;dsimp only at p;clear hg ht;intro jg _ h₃ lq fD gV _;have AG:=CU.keep gV;have gV:=dS.trans gV;clear dS CU;refine hb jg cQ _ fD _ _ ?_;clear fD;cases u7:b cQ with
      |bad=>rw[u7] at p;exact p
      |exc m jf=>rw[u7] at p;exact dI.err (s:={s₀ with heap:=h₃,toks:=lq}) (r:=s₀.toks) K gV s₀ rfl p
      |ok f jf=>
       rw[u7] at p;clear u7;intro mw f' kT kb hW i5 BV;have AH:=AG.keep i5;have X:=gV.trans i5;clear AG gV i5;cases f with
       |next=>obtain rfl:f'=.next:=BV;exact⟨n,aO _,.mk mw jf kT kb n it' hW X AH p⟩
       |cont=>obtain rfl:f'=.cont:=BV;exact⟨n,aO _,.mk mw jf kT kb n it' hW X AH p⟩
       |brk=>obtain rfl:f'=.brk:=BV;exact p mw .next kT kb hW X rfl
       |ret v=>obtain⟨V,rfl,BV⟩:=BV;exact p mw (.ret V) kT kb hW X ⟨V,rfl,BV⟩
end
noncomputable def qG:List PV->Option (List Int)
 |[]=>some []
 |.int a::l=>(qG l).map (a::·)
 |_=>none
theorem vQ:∀{ns:List Int},qG l=some ns->l=ns.map .int:=by
 induction l with
 |nil=>intro ns e;cases e;rfl
 |cons p l ih=>
  intro ns e;cases p with
  |int i=>
   obtain⟨ć,e',e2⟩:=aS.mp (show(qG l).map (i::·)=some ns from e);simp only[<-e2,ih e'];rfl
  |_=>exact nS e
def FH:List Int->M It
 |[n]=>λst=>if cg n then .ok (.range 0 (bu 0 n 1) 1) st else .bad
 |[a,b]=>λst=>if cg a&&cg b then .ok (.range a (bu a b 1) 1) st else .bad
 |[a,b,c]=>λst=>if cg a&&cg b&&decide (c=2) then .ok (.range a (bu a b 2) 2) st else .bad
 |_=>M.bad
def g9(vs:List PV):M It:=match qG vs with
 |some ns=>FH ns
 |none=>M.bad
theorem vl(ns:List Int)(st:St):FH ns st=.bad\/(∃n,ns=[n]/\cg n=ah)\/(∃a b,ns=[a,b]/\cg a=ah/\cg b=ah)\/∃a b,ns=[a,b,2]/\cg a=ah/\cg b=ah:=by
 match ns with
 |[]=>exact .inl rfl
 |[n]=>
  by_cases q:cg n=ah
  ·exact .inr (.inl ⟨n,rfl,q⟩)
  ·exact .inl (if_neg q)
 |[a,b]=>
  by_cases q:(cg a&&cg b)=ah
  ·exact .inr (.inr (.inl ⟨a,b,rfl,by simpa using q⟩))
  ·exact .inl (if_neg q)
 |[a,b,c]=>
  by_cases q:(cg a&&cg b&&decide (c=2))=ah
  ·have q':=q;simp only[aI,decide_eq_true_eq] at q';obtain⟨⟨q1,q2⟩,rfl⟩:=q';exact .inr (.inr (.inr ⟨a,b,rfl,q1,q2⟩))
  ·exact .inl (if_neg q)
 |_::_::_::_::_=>exact .inl rfl
theorem tg(vs:List PV)(st:St):g9 vs st=.bad\/(∃n,vs=[.int n]/\cg n=ah)\/(∃a b,vs=[.int a,.int b]/\cg a=ah/\cg b=ah)\/∃a b,vs=[.int a,.int b,.int 2]/\cg a=ah/\cg b=ah:=by
 unfold g9;cases h:qG vs with
 |none=>exact .inl rfl
 |some ns=>
  rw[vQ h];rcases vl ns st with q|⟨n,rfl,q⟩|⟨a,b,rfl,q⟩|⟨a,b,rfl,q⟩
  ·exact .inl q
  ·exact .inr (.inl ⟨n,rfl,q⟩)
  ·exact .inr (.inr (.inl ⟨a,b,rfl,q⟩))
  ·exact .inr (.inr (.inr ⟨a,b,rfl,q⟩))
theorem mJ{a:Int}:cg a=ah↔-(2^31)<a/\a<2^31:=by unfold cg;exact decide_eq_true_iff
theorem nJ{x:Int}(h:-(2^31)<=x)(h':x<2^34):Pr x=ah:=
 fQ.mpr ⟨decide_eq_true (gS (by decide) h),decide_eq_true (kC h' (by decide))⟩
theorem oV{a b c:Int}(ha:cg a=ah)(hb:cg b=ah)(hc:c=1\/c=2):jH a b c=ah:=by
 rw[mJ] at ha hb;have c0:0<c/\c<3:=by
  cases hc with
  |inl h=>rw[h];decide
  |inr h=>rw[h];decide
 have sz:0<=bu a b c/\bu a b c<2^33:=by
  unfold bu;rw[if_pos c0.1];split
  ·rename_i q;have hx:0<=b-a-1:=Lu.mpr (Int.le_sub_right_of_add_le (Pn 1 a▸q));have h1:=Int.ediv_le_self c hx;have h2:=Int.ediv_nonneg hx (iY c0.1);generalize(b-a-1)/c=y at h1 h2;exact⟨Int.le_add_one h2,by clear hx h2 q c0 hc;omega⟩
  ·decide
 have up {x:Int} (h:x<2^31):x<2^34:=kC h (by decide);have dn {x:Int} (h:0<=x):-(2^31)<=x:=gS (by decide) h;unfold jH;rw[if_pos c0.1,nJ (iY ha.1) (up ha.2),nJ (iY hb.1) (up hb.2),nJ (dn (iY c0.1)) (kC c0.2 (by decide)),nJ (dn sz.1) (kC sz.2 (by decide)),
  nJ (gS (iY hb.1) (Int.le_add_of_nonneg_right (show 0<=c-1 from Lu.mpr c0.1))) (ji (Int.add_lt_add hb.2 (ji (Int.sub_lt_self c (by decide)) (iY c0.2))) (by decide)),xb]
 rfl
section
variable{C:Cx}{rel:eS->Heap->β->α->Prop}
theorem x9(P:bL):nsIn (KF pw P) mainGlobals "range"=some none:=by kernel_rfl
theorem mz.range{np:Pos}{m:M (List PV)}(B:Base w H0)(K:C.Ok)(hx:C.env.kindOf "range"=some .globalImplicit)(hs:es.all notStar=ah)(wj:f_ w H0 C es m):
 mz w H0 C (.Call (.Name "range" np) es [] pos) (do let vs<-m;g9 vs):=by
 intro ρ st s I Q E p;have e:eval (.Call (.Name "range" np) es [] pos) C.env=(eval (.Name "range" np) C.env>>=λv=>callWith pos v [] (backTo pos (starEach es C.env)) []):=rfl;rw[e];refine ag ?_;refine gg λG k_=>?_
 obtain⟨mg,hg⟩:=B.g;obtain⟨mb,hb,u7⟩:=B.b;refine k_ ?_;refine dk K.fn hx (ju (mg:=mg) (mb:=mb) (by rw[K.gl];exact hg.keeps I.old) (LD B.K hg (x9 _)) (by rw[K.bl];exact hb.keeps I.old) ((u7 _ (by decide)).trans boot_range) ?_) rfl;refine kM (H0:=H0) hs Callee.type ?_;dsimp only[M.b6] at p;refine wj pos ρ st s I _ _ ?_;cases hm:m st with
 |exc n aV=>rw[hm] at p;exact p
 |bad=>rw[hm] at p;exact p
 |ok vs aV=>
  rw[hm] at p;dsimp only at p;intro bC Vs bo b8 bK d8 r;refine⟨bK.old,?_⟩;have go:∀(a b c:Int) (t u v:Tok) (tk:Nat),jH a b c=ah->g9 vs aV=.ok (.range a (bu a b c) c) aV->
   wpAny (model pw w) C.A (pyIter (.ref bo.objs.size)) Q E
    {s with heap:=bo.push {cls:=.type "range",data:=.fields #[.int a t,.int b u,.int c v]},toks:=tk}:=by
   intro a b c t u v tk Å hr;rw[hr] at p;refine wpAny_pyIter_range (s:={s with heap:=bo.push {cls:=.type "range",data:=.fields #[.int a t,.int b u,.int c v]},toks:=tk}) (t:=t) (u:=u) (v:=v) (a8 _ rfl) Å ?_;have dg:=(bK.push {cls:=.type "range",data:=.fields #[.int a t,.int b u,.int c v]});have dS:=d8.trans (Ext.push {cls:=.type "range",data:=.fields #[.int a t,.int b u,.int c v]});exact p bC _ _ tk (dg.push _) (dS.trans (Ext.push _)) ⟨_,rfl,dS.size,a8 _ rfl⟩
  rcases tg vs aV with q|⟨n,rfl,q⟩|⟨a,b,rfl,q1,q2⟩|⟨a,b,rfl,q1,q2⟩
  ·rw[q] at p;exact p.elim
  ·obtain⟨V1,r1,rfl,⟨t,rfl⟩,rfl⟩:=r;refine call_range_1 (s:={s with heap:=bo,toks:=b8}) ?_;exact go 0 n 1 _ _ _ _ (oV rfl q (.inl rfl)) (by show(if cg n=ah then _ else _)=_;rw[if_pos q])
  ·obtain⟨V1,r1,rfl,⟨t,rfl⟩,V2,r2,rfl,⟨u,rfl⟩,rfl⟩:=r;refine call_range_2 (s:={s with heap:=bo,toks:=b8}) ?_;exact go a b 1 _ _ _ _ (oV q1 q2 (.inl rfl)) (by show(if(cg a&&cg b)=ah then _ else _)=_;rw[if_pos (by rw[q1,q2];rfl)])
  ·obtain⟨V1,r1,rfl,⟨t,rfl⟩,V2,r2,rfl,⟨u,rfl⟩,V3,r3,rfl,⟨v,rfl⟩,rfl⟩:=r;have b1:=mJ.mp q1;have b2:=mJ.mp q2;refine call_range_3 (s:={s with heap:=bo,toks:=b8}) (by decide) ?_ (.inl (ue (by lia)));exact go a b 2 _ _ _ _ (oV q1 q2 (.inr rfl)) (by show(if(cg a&&cg b&&decide ((2:Int)=2))=ah then _ else _)=_;rw[if_pos (by rw[q1,q2];rfl)])
end
noncomputable def xN(env:Env):List (Str×eg)->List (Str×Addr)->List (Str×Addr)
 |[],acc=>acc
 |(n,k)::r,acc=>if k==.free then xN env r ((n,(env.cells.lookup n).getD 0)::acc) else xN env r acc
theorem uJ(env:Env)(f:Str×eg->List (Str×Addr)->Sem (ForInStep (List (Str×Addr))))(hf:∀n k c,f (n,k) c=if(k==i_)=ah then(do let a<-cellOf env n;pure (dj ((n,a)::c))) else pure (dj c))(l:List (Str×eg)):
 ∀(acc:List (Str×Addr)),(∀x∈l,x.2=.free->(env.cells.lookup x.1).isSome=ah)->(forIn l acc f:Sem _)=pure (xN env l acc):=by
 induction l with
 |nil=>intro _ _;rfl
 |cons x r ih=>
  intro acc h;have ih:=λacc=>ih acc λx hx=>h x (.tail _ hx)
  have h:=h x (.head _);rw[sD,hf];show _=pure (if _ then _ else _);by_cases q:(x.2==i_)=ah
  ·rw[if_pos q,if_pos q];obtain⟨c,hc⟩:=cy.mp (h (beq_iff_eq.mp q));delta cellOf;simp only[hc,pure_bind,Cg];exact ih _
  ·rw[if_neg q,if_neg q];exact ih _
theorem l_(h:∀x∈scope.names,x.2=.free->(env.cells.lookup x.1).isSome=ah):closureFor scope env=pure (xN env scope.names []):=by
 unfold closureFor;dsimp only;rw[uJ env _ (λn k c=>by cases q:k==i_<;>simp) scope.names [] h];rfl
theorem zb(env:Env){y:Str}(l:List (Str×eg)):∀(acc:List (Str×Addr)),y∉l.map (·.1)->(xN env l acc).lookup y=acc.lookup y:=by
 induction l with
 |nil=>intro _ _;rfl
 |cons x r ih=>
  intro acc h;have ih:=λacc=>ih acc λz=>h (.tail _ z)
  show(if _ then _ else _:List (Str×Addr)).lookup y=_;split
  ·rw[ih,b7,beq_eq_false_iff_ne.mpr (show y≠x.1 fromλe=>h (e▸.head _))]
  ·exact ih _
theorem qR(env:Env)(l:List (Str×eg))(acc:List (Str×Addr))(y:Str)(c:Addr)(hn:(l.map (·.1)).Nodup)(h:l.lookup y=some .free/\env.cells.lookup y=some c\/acc.lookup y=some c/\y∉l.map (·.1)):(xN env l acc).lookup y=some c:=by
 cases h with
 |inr h=>exact(zb env l acc h.2).trans h.1
 |inl h=>
  obtain⟨h,hc⟩:=h;induction l generalizing acc with
  |nil=>cases h
  |cons x r ih=>
   have ih:=λacc=>ih acc (bF.mp hn).2
   rw[b7] at h;show(if _ then _ else _:List (Str×Addr)).lookup y=_;cases q:y==x.1 with
   |true=>
    rw[q] at h;rw[ao h];exact(zb env r _ (beq_iff_eq.mp q▸(bF.mp hn).1)).trans (by rw[b7,q,<-beq_iff_eq.mp q,hc];rfl)
   |false=>
    rw[q] at h;split
    ·exact ih _ h
    ·exact ih _ h
theorem HL(env:Env)(l:List (Str×eg)):∀(acc:List (Str×Addr)) (p:Str×Addr),(∀x∈l,x.2=.free->(env.cells.lookup x.1).isSome=ah)->p∈xN env l acc->p∈acc\/∃q∈env.cells,q.2=p.2:=by
 induction l with
 |nil=>intro _ _ _ h;exact .inl h
 |cons x r ih=>
  intro acc p hs h;have ih:=λacc=>ih acc p λx hx=>hs x (.tail _ hx)
  have hs:=hs x (.head _);change p∈if _ then _ else _ at h
  split at h
  ·rename_i hk;obtain⟨c,hc⟩:=cy.mp (hs (beq_iff_eq.mp hk));refine(ih _ h).elim (λq=>?_) .inr;cases q with
   |head=>exact .inr ⟨(x.1,c),mem_of_lookup hc,by rw[hc];rfl⟩
   |tail _ q=>exact .inl q
  ·exact ih _ h
theorem FunFrames.same{base:Heap}{l:List Env}:(∀a∈l.filterMap (·.frame),h'.get? a=h.get? a)->h.FunFrames base l->h'.FunFrames base l:=by
 induction l with
 |nil=>intro _ _;trivial
 |cons env l ih=>
  intro k ⟨a,⟨F,o,b,c,d,e⟩,r⟩;rw[cR,b] at k;exact⟨a,⟨F,o,b,c,(k F (.head _)).trans d,e⟩,ih (λx hx=>k x (.tail _ hx)) r⟩
section
variable{C:Cx}{rel:eS->Heap->β->α->Prop}
theorem Inv.Qh{C':Cx}{st' aV:St}{bo mC:Heap}(I:Inv w H0 C ρ st h)(k:∀b o,h.get? b=some o->bo.get? b=some o)(sz:h.objs.size<=bo.objs.size)(bK:Inv w H0 C' ρ aV bo)(hn:∀b∈own C' ρ,b∈addrs ρ\/h.objs.size<=b)(hL:h.objs.size<=C'.env.locals)
 (Uw:C'.fV=C.fV) (ho:C'.outer=C.outer) (I':Inv w H0 C' d9 st' h') (X:Ext C' ρ bo d9 h') (s':dK C'.env.locals h' mC):Inv w H0 C d9 ⟨st.loc,st'.hp⟩ mC/\Ext C ρ h d9 mC:=by
 have kp:∀b o,h.get? b=some o->b∉addrs ρ->∃sl,mC.get? b=some {o with slots:=sl}:=λb o e q=>by
  obtain⟨sl,z⟩:=X.keep b o (k b o e) λhm=>by
   rcases hn b hm with z|z
   ·exact q z
   ·exact absurd (aK e) (b0.mpr z)
  exact⟨sl,(s'.2 b (λy=>absurd (aK e) (b0.mpr (y▸hL)))).trans z⟩
 have nw:∀a∈addrs d9,a∈addrs ρ\/h.objs.size<=a:=λa ha=>(X.new a ha).imp id (ai sz)
 have ap:∀b o,h.get? b=some o->b∉addrs ρ->b∉addrs d9:=λb o e q hm=>(nw b hm).elim q λz=>absurd (aK e) (b0.mpr z)
 have tk:dX h' mC:=λa o vs n e c d=>by
  by_cases q:a=C'.env.locals
  ·subst q;obtain⟨o',es,ep,e',d'⟩:=I'.pv;rw[e] at e';cases e';rw[d] at d';cases d'
  ·exact⟨o.slots,(s'.2 a q).trans e⟩
 have ne:∀b∈addrs d9,b≠C'.env.locals:=λb hb q=>I'.apart (q▸hb)
 refine⟨⟨λb o e=>(s'.2 b (λq=>by simp only[q,I'.l0] at e;cases e)).trans (I'.old b o e),?_,?_,I.frame,?_,?_,λp hp=>?_,I'.len,λj o e=>?_,I'.nodup,λa ha=>⟨(I'.fresh a ha).1,s'.1▸(I'.fresh a ha).2⟩,I.l0,I.Cu⟩,⟨X.pre,ai sz (s'.1▸X.size),λb o e q=>kp b o e λz=>q (eV.mpr (.inr (.inr z))),nw,λb o vs e d=>(s'.2 b (λy=>absurd (aK e) (b0.mpr (y▸hL)))).trans (X.fix b o vs (k b o e) d)⟩⟩
 ·have z:=I'.frames;simp only[Uw,ho] at z;refine FunFrames.same (λa ha=>s'.2 a λq=>?_) z;obtain⟨_,o,e,_⟩:=I.frames.mem ha;exact absurd (aK e) (b0.mpr (q▸hL))
 ·obtain⟨m,⟨o,es,ep,e,d,q⟩,l⟩:=I.loc;obtain⟨sl,e'⟩:=kp _ o e I.apart;refine⟨m,⟨_,es,ep,e',d,q⟩,λi v e=>?_⟩;refine gg λG k_=>?_
  obtain⟨x,V,a,b,c⟩:=l i v e;refine k_ ?_;refine⟨x,V,a,a7.mono tk (a_ _) v V (a7.ext bK X v V (a7.mono (λa o _ _ e _ _=>⟨o.slots,k a o e⟩) (a_ _) v V b)),?_⟩;have ck:∀{c:Addr} {v:Option Value},c∉addrs ρ->h.IsCell c v->mC.IsCell c v:=λq ⟨o,e,d⟩=>by
   obtain⟨sl,e'⟩:=kp _ o e q;exact⟨_,e',d⟩
  rcases c with c|⟨c1,c,c2,c3⟩|⟨c1,c,c2,c3⟩
  ·exact .inl c
  ·exact .inr (.inl ⟨c1,c,c2,ck (I.cells (x,c) (mem_of_lookup c2)).2.2.1 c3⟩)
  ·exact .inr (.inr ⟨c1,c,c2,ck (I.cells (x,c) (mem_of_lookup c2)).2.2.1 c3⟩)
 ·obtain⟨o,_,_,e,_⟩:=I.pv;exact ap _ o e I.apart
 ·intro L hL;obtain⟨_,o,e,_⟩:=I.frames.mem hL;exact ap _ o e (I.eN L hL)
 ·obtain⟨a,⟨v,o,e,d⟩,b,c⟩:=I.cells p hp;obtain⟨sl,e'⟩:=kp _ o e b;exact⟨a,⟨v,_,e',d⟩,ap _ o e b,c⟩
 ·obtain⟨a,d,e,r⟩:=I'.objs j o e;exact⟨a,d,e,jy.mono tk (a_ _) (s'.2 a (ne a (eG.mpr ⟨j,a,d,e,.inl rfl⟩))) (λx hx=>s'.2 x (ne x (eG.mpr ⟨j,a,d,e,.inr hx⟩))) o r⟩
def gC:PV->PV->M PV:=λv x st=>match v with
 |.ref i=>match st.hp[i]?with
  |some (.list l)=>if sz l.length then .ok .none {st with hp:=st.hp.set i (.list (l++[x]))} else .bad
  |_=>.bad
 |_=>.bad
theorem aG.append{x:PV}{X:Value}(I:Inv w H0 C ρ st s.heap)(r:a7 ρ s.heap v V)(rx:a7 ρ s.heap x X):aG w H0 C cv ρ st s (bU (.builtin "list.append") [V,X]) (gC v x):=by
 intro Q E p;cases v<;>first|exact p.elim|skip
 rename_i i;obtain⟨a,d,rfl,hr⟩:=r;unfold gC at p;dsimp only at p;cases hi:st.hp[i]?with
 |none=>rw[hi] at p;exact p.elim
 |some o=>
  rw[hi] at p;cases o with
  |dict=>exact p.elim
  |cN=>exact p.elim
  |inst=>exact p.elim
  |list l=>
   dsimp only at p;by_cases q:sz l.length=ah
   ·rw[if_pos q] at p;refine gg λG k_=>?_
    obtain⟨a',d',gz,rfl,us,n,el,rl⟩:=I.objs i _ hi;refine k_ ?_;rw[hr] at gz;cases gz;refine TZ (hsz:=by rw[<-cz,rl.length];exact dQ q) el λh' hs Rw=>?_
    obtain⟨I',X'⟩:=I.put (o':=.list (l++[x])) hr (.inl rfl) (λb hb=>hs.2 b hb) hs.1 ⟨_,Rw,by simp⟩ λm1 m2=>⟨rfl,_,_,Rw,by simpa using(m2 _ _ rl).append (aR.one (m1 _ _ rx))⟩
    exact p ρ .none h' s.toks I' X' rfl
   ·rw[if_neg q] at p;exact p.elim
end
def Cx.comp(C:Cx)(scope:Scope)(x:Str)(fv:List Str)(L:Addr):Cx:=⟨C.A,compEnvC scope (xN C.env scope.names []) L C.env,C.outer,x::fv,C.fV,[]⟩
def xP(scope:Scope)(x:Str)(fv:List Str):Bool:=
 decide (scope.kind=.function)&&decide (scope.names.map (·.1)).Nodup&&(scope.names.all λp=>p.2!=.cell)&&decide (scope.names.lookup x=some .local)&&decide (x::fv).Nodup&&(fv.all λy=>decide (scope.names.lookup y=some .free))&&decide ((scope.names.filter λp=>p.2==.free).length<=1)
structure ik(scope:Scope)(x:Str)(fv:List Str):Prop where
 fn:scope.kind=.function
 sn:(scope.names.map (·.1)).Nodup
 nc:∀p∈scope.names,p.2≠.cell
 lx:scope.names.lookup x=some .local
 nd:(x::fv).Nodup
 fr:∀y∈fv,scope.names.lookup y=some .free
 one:(scope.names.filter λp=>p.2==.free).length<=1
theorem ik.of{x:Str}(h:xP scope x fv=ah):ik scope x fv:=by
 unfold xP at h;simp only[aI,decide_eq_true_eq,a6,bne_iff_ne,ne_eq] at h;refine gg λG k_=>?_
 obtain⟨⟨⟨⟨⟨⟨a,b⟩,c⟩,d⟩,e⟩,f⟩,g⟩:=h;refine k_ ?_;exact⟨a,b,c,d,e,f,g⟩
theorem fI(y:Str){names:List (Str×eg)}:
 (names.map λ(n,k)=>if(k==i_&&env.scope.kind==.function&&env.kindOf n==some .cell) then(n,CL) else(n,k)).lookup y=(names.lookup y).map λk=>if(k==i_&&env.scope.kind==.function&&env.kindOf y==some .cell) then CL else k:=by
 induction names with
 |nil=>rfl
 |cons x r ih=>
  rw[bH,b7 (as:=r)];cases q:y==x.1 with
  |true=>
   dsimp only;rw[<-beq_iff_eq.mp q,fp];split
   ·rw[b7,beq_self_eq_true]
   ·rw[b7,beq_self_eq_true]
  |false=>
   dsimp only;rw[<-ih];split
   ·rw[b7,q]
   ·rw[b7,q]
theorem HK(env:Env)(l:List (Str×eg)):∀(acc:List (Str×Addr)),(xN env l acc).length=acc.length+(l.filter λp=>p.2==.free).length:=by
 induction l with
 |nil=>intro _;rfl
 |cons x r ih=>
  intro acc;show(if _ then _ else _:List (Str×Addr)).length=_;rw[jY];split
  ·exact(ih _).trans (Nat.succ_add _ _)
  ·exact ih _
noncomputable def md(ix:List Nat)(loc:List (Option PV)):List (Option PV):=none::ix.map λi=>(loc[i]?).join
section
variable{C:Cx}{rel:eS->Heap->β->α->Prop}
theorem Inv.RE{x:Str}(K:C.Ok)(F:ik scope x fv)(hf:∀y∈scope.names,y.2=.free->C.env.kindOf y.1=some .cell/\(C.env.cells.lookup y.1).isSome=ah)(Ig:ix.map (λi=>C.names[i]?)=fv.map some)(I:Inv w H0 C ρ st h)
 (hn:h'.Ns h.objs.size λ_=>none) (hs:dK h.objs.size (h.push {cls:=.type "dict",data:=.dict #[]}) h'):
 (C.comp scope x fv h.objs.size).Ok/\Inv w H0 (C.comp scope x fv h.objs.size) ρ ⟨md ix st.loc,st.hp⟩ h'/\(∀b o,h.get? b=some o->h'.get? b=some o)/\h.objs.size<=h'.objs.size:=by
 have kp:∀b o,h.get? b=some o->h'.get? b=some o:=λb o e=>(hs.2 b (aL (aK e))).trans (az _ e)
 have p_:h'.objs.size=h.objs.size+1:=by rw[hs.1,a9]
 have I':=I.keeps kp (by simp only[p_];exact bX _);have mf:∀y∈scope.names,y.2=.free->(C.env.cells.lookup y.1).isSome=ah:=λy hy q=>(hf y hy q).2
 refine⟨⟨F.fn,K.gl,K.bl,K.st,K.hd,F.nd,?_,K.ff⟩,⟨I'.old,I'.frames,⟨_,hn,λj v e=>?_⟩,I.frame,λhm=>absurd (I.fresh _ hm).2 (dM _),I.eN,λp hp=>?_,I.len,I'.objs,I.nodup,I'.fresh,I.fg (aC _),λ_ hc=>nomatch hc⟩,kp,by simp only[p_];exact bX _⟩
 ·show((xN C.env scope.names []).map (·.2)).Nodup;have:=HK C.env scope.names [];have one:=F.one;generalize xN C.env scope.names []=l at this
  match l with
  |[]=>exact i8
  |[a]=>simp
  |a::b::l=>simp at this;lia
 ·cases j with
  |zero=>cases e
  |succ j=>
   have e:(ix.map λi=>(st.loc[i]?).join)[j]?=some (some v):=e;rw[cE] at e;cases hi:ix[j]?with
   |none=>rw[hi] at e;cases e
   |some i=>
    rw[hi] at e;have e:st.loc[i]?=some (some v):=by
     simp only[fp,iH] at e;cases q:st.loc[i]?with
     |none=>rw[q] at e;cases e
     |some u=>rw[q] at e;rw[show u=some v from e]
    have hy:C.names[i]?=some ((fv[j]?).getD default)/\fv[j]?=some ((fv[j]?).getD default):=by
     have z:=congrArg (λl=>l[j]?) Ig;simp only[cE,hi,fp] at z;cases q:fv[j]?with
     |none=>rw[q] at z;cases z
     |some y=>rw[q] at z;simp only[fp,iH] at z;exact⟨z,rfl⟩
    obtain⟨m,_,l⟩:=I'.loc;refine gg λG k_=>?_
    obtain⟨y,V,a,b,c⟩:=l i v e;refine k_ ?_;rw[hy.1] at a;obtain rfl:(fv[j]?).getD default=y:=ao a;have WC:=F.fr _ (cm hy.2);have WB:=hf _ (mem_of_lookup WC) rfl;refine⟨_,V,hy.2,b,?_⟩;have kd:(C.comp scope x fv h.objs.size).env.kindOf ((fv[j]?).getD default)=some .cell:=by
     show(relabel scope C.env).names.lookup _=_;unfold relabel;simp only[fI,WC];simp[K.fn,WB.1]
    rcases c with⟨c1,_⟩|⟨c1,c,c2,c3⟩|⟨c1,_⟩
    ·rw[WB.1] at c1;cases c1
    ·exact .inr (.inl ⟨kd,c,qR C.env scope.names [] _ c F.sn (.inl ⟨WC,c2⟩),c3⟩)
    ·rw[WB.1] at c1;cases c1
 ·rcases HL C.env scope.names [] p mf hp with q|⟨q,hq,e⟩
  ·cases q
  ·obtain⟨a,⟨v,b⟩,c,d⟩:=I'.cells q hq;rw[<-e];refine gg λG k_=>?_
   obtain⟨_,⟨_,o,e0,_⟩,_⟩:=I.cells q hq;refine k_ ?_;exact⟨a,⟨v,b⟩,c,aL (aK e0)⟩
theorem JR{it:It}(R:ir ρ s.heap a it)(q:Q (.ref a) s):wpAny (model pw w) A (pyIter (.ref a)) Q E s:=by
 cases it with
 |list i k=>obtain⟨b,d,_,hit⟩:=R;exact wpAny_pyIter_listiter hit q
 |bytes b k=>obtain⟨t,hit⟩:=R;exact KBw.pyIter_self hit q
 |range x l c=>exact wpAny_pyIter_rangeiter R q
end
theorem R.ok.inj{a b:α}{s t:St}(h:R.ok a s=R.ok b t):a=b/\s=t:=by cases h;exact⟨rfl,rfl⟩
def vU(k:It->St->R Unit)(it:It)(j:Nat)(mt:M Bool)(me:M PV)(st:St):R Unit:=match cY st it with
 |none=>.bad
 |some none=>.ok () st
 |some (some (v,it'))=>match mt {st with loc:=st.loc.set 0 (some v)} with
  |.ok ah aV=>(match me aV with
   |.ok y cQ=>(match gC (.ref j) y cQ with
    |.ok _ jf=>k it' jf
    |_=>.bad)
   |_=>.bad)
  |.ok aj aV=>k it' aV
  |_=>.bad
def iR:Nat->It->Nat->M Bool->M PV->St->R Unit
 |0,_,_,_,_,_=>.bad
 |k+1,it,j,mt,me,st=>vU (λit' st'=>iR k it' j mt me st') it j mt me st
def fy(ix:List Nat)(mi:M It)(mt:M Bool)(me:M PV):M PV:=λst=>match mi st with
 |.ok it aV=>(match iR dR it aV.hp.length mt me ⟨md ix aV.loc,aV.hp++[.list []]⟩ with
  |.ok _ cQ=>.ok (.ref aV.hp.length) ⟨aV.loc,cQ.hp⟩
  |_=>.bad)
 |.exc n aV=>.exc n aV
 |.bad=>.bad
section
variable{C:Cx}{rel:eS->Heap->β->α->Prop}
noncomputable abbrev tests(ifs:List Expr)(env:Env):Sem Bool:=forIn ifs ah λc r=>if r=ah then do let ok<-isTrue c env (eval c env);pure (dj ok) else pure (dj r)
theorem B1:c_ w H0 C iA (tests [] C.env) (pure ah):=λ_ _ _ I=>by
 show aG w H0 C iA _ _ _ (forIn [] ah _) _;simp only[tp];exact .pure I rfl
theorem B4{c:Expr}{m:M Bool}(h:d7 w H0 C c m):c_ w H0 C iA (tests [c] C.env) m:=λρ st s I=>by
 have e:tests [c] C.env=(isTrue c C.env (eval c C.env)>>=λok=>pure ok):=by
  show forIn [c] ah _=_;rw[sD];simp only[if_true,bind_assoc,pure_bind,tp]
 simp only[e,bind_pure];exact h ρ st s I
inductive CN(it:It)(j:Nat)(mt:M Bool)(me:M PV)(n:Nat)(st stF:St):Option (Option (PV×It))->Prop
 |done (h:st=stF):CN it j mt me n st stF (some none)
 |skip (v:PV) (it':It) (s1:St) (h1:mt {st with loc:=st.loc.set 0 (some v)}=.ok aj s1) (h:iR n it' j mt me s1=.ok () stF):CN it j mt me n st stF (some (some (v,it')))
 |item (v:PV) (it':It) (s1 s2 s3:St) (y u:PV) (h1:mt {st with loc:=st.loc.set 0 (some v)}=.ok ah s1) (h2:me s1=.ok y s2) (h3:gC (.ref j) y s2=.ok u s3) (h:iR n it' j mt me s3=.ok () stF):CN it j mt me n st stF (some (some (v,it')))
theorem uN{k:Nat}{it:It}{mt:M Bool}{me:M PV}:iR (k+1) it j mt me st=vU (λit' st'=>iR k it' j mt me st') it j mt me st:=rfl
theorem A0{it:It}{mt:M Bool}{me:M PV}{stF:St}(hc:iR (n+1) it j mt me st=.ok () stF):CN it j mt me n st stF (cY st it):=by
 rw[uN] at hc;delta vU at hc;cases hx:cY st it with
 |none=>simp only[hx] at hc;nomatch hc
 |some r=>
  rw[hx] at hc;cases r with
  |none=>exact .done (R.ok.inj hc).2
  |some r=>
   obtain⟨v,it'⟩:=r;dsimp only at hc;cases Rq:mt {st with loc:=st.loc.set 0 (some v)} with
   |bad=>simp only[Rq] at hc;nomatch hc
   |exc=>simp only[Rq] at hc;nomatch hc
   |ok b s1=>
    rw[Rq] at hc;cases b with
    |false=>exact .skip v it' s1 Rq hc
    |true=>
     dsimp only at hc;cases UB:me s1 with
     |bad=>simp only[UB] at hc;nomatch hc
     |exc=>simp only[UB] at hc;nomatch hc
     |ok y s2=>
      rw[UB] at hc;dsimp only at hc;cases KG:gC (.ref j) y s2 with
      |bad=>simp only[KG] at hc;nomatch hc
      |exc=>simp only[KG] at hc;nomatch hc
      |ok z s3=>rw[KG] at hc;exact .item v it' s1 s2 s3 y z Rq UB KG hc
def PZ(w:World)(A:e_)(env:Env)(target elt:Expr)(ifs:List Expr)(acc:Value)(R:n8->aH->Prop)(I:Nat->aH->Prop)(it:Value)(n:Nat)(s:aH):Prop:=
 wpAny (model pw w) A (pyNext it) (λr cH=>match r with
  |none=>R (.ok .next) cH
  |some v=>wpAny (model pw w) A (assign target env v) (λ_ Ge=>
   wpAny (model pw w) A (tests ifs env) (λok yK=>
    if ok=ah then wpAny (model pw w) A (eval elt env) (λx Oo=>
     wpAny (model pw w) A (call (.builtin "list.append") [acc,x]) (λ_ Oq=>∃m,m<n/\I m Oq) (notedBy (model pw w) A env λe s'=>R (.error e) s') Oo) (notedBy (model pw w) A env λe s'=>R (.error e) s') yK
    else∃m,m<n/\I m yK) (notedBy (model pw w) A env λe s'=>R (.error e) s') Ge) (notedBy (model pw w) A env λe s'=>R (.error e) s') cH) (notedBy (model pw w) A env λe s'=>R (.error e) s') s
inductive CI(w:World)(H0:Heap)(C:Cx)(c8:eS)(h₃:Heap)(a:Addr)(j:Nat)(mt:M Bool)(me:M PV)(stF:St)(s₀:aH):Nat->aH->Prop
 |mk (ρ:eS) (st:St) (h:Heap) (tk:Nat) (it:It) (n:Nat) (I:Inv w H0 C ρ st h) (X:Ext C c8 h₃ ρ h) (R:ir ρ h a it) (hc:iR n it j mt me st=.ok () stF):CI w H0 C c8 h₃ a j mt me stF s₀ n {s₀ with heap:=h,toks:=tk}
theorem A2{x:Str}{px:Pos}{ifs:List Expr}{mt:M Bool}{me:M PV}{a D:Nat}{dD:Option Addr}{s₀:aH}{c8:eS}{h₃:Heap}{stF:St}{R:n8->aH->Prop}(K:C.Ok)(hx:C.names[0]?=some x)(hk:C.env.kindOf x=some .local)(na:h₃.get? a=none)(M3:H0.get? a=none)(rD:c8[j]?=some (D,dD))
 (ht:c_ w H0 C iA (tests ifs C.env) mt) (he:bj w H0 C elt me) (fin:∀ρ h' tk,Inv w H0 C ρ stF h'->Ext C c8 h₃ ρ h'->R (.ok .next) {s₀ with heap:=h',toks:=tk}) (n:Nat) (s:aH) (hI:CI w H0 C c8 h₃ a j mt me stF s₀ n s):
 PZ w C.A C.env (.Name x px) elt ifs (.ref D) R (CI w H0 C c8 h₃ a j mt me stF s₀) (.ref a) n s:=by
 cases hI with
 |mk ρ st h tk it n I X R hc=>
 cases n with
 |zero=>nomatch hc
 |succ n=>
 refine Al (s:={s₀ with heap:=h,toks:=tk}) K.hd I X na M3 R ?_;have cn:=A0 hc;generalize cY st it=r at cn⊢;cases cn with
 |done e=>rw[e] at I;exactλh' fJ I' X'=>fin ρ h' fJ (e▸I') X'
 |skip v it' s1 h1 vD=>
  intro kT U kb hW i5 rU AH;refine fF.name (i:=0) K hx hk ρ st {s₀ with heap:=kT,toks:=kb} v U hW rU _ _ ?_;intro sA _ wm sh mW ou _;refine ht sA _ {s₀ with heap:=wm,toks:=sh} mW _ _ ?_;simp only[h1];intro Am XB u_ w7 vK vN XQ;obtain rfl:XB=aj:=XQ;exact⟨n,aO _,.mk Am s1 u_ w7 it' n vK (i5.trans (ou.trans vN)) ((AH.keep ou).keep vN) vD⟩
 |item v it' s1 s2 s3 y u h1 h2 h3 vD=>
  intro kT U kb hW i5 rU AH;refine fF.name (i:=0) K hx hk ρ st {s₀ with heap:=kT,toks:=kb} v U hW rU _ _ ?_;intro sA _ wm sh mW ou _;refine ht sA _ {s₀ with heap:=wm,toks:=sh} mW _ _ ?_;simp only[h1];intro Am XB u_ w7 vK vN XQ;obtain rfl:XB=ah:=XQ;refine he Am _ {s₀ with heap:=u_,toks:=w7} vK _ _ ?_;simp only[h2];intro Y4 Y WE TB Ht Hv rY;have XX:=i5.trans (ou.trans (vN.trans Hv));refine aG.append (s:={s₀ with heap:=WE,toks:=TB}) (v:=.ref j) Ht ⟨D,dD,rfl,jc XX.pre rD⟩ rY _ _ ?_;simp only[h3];exactλTR _ Rz TC U9 P6 _=>⟨n,aO _,.mk TR s3 Rz TC it' n U9 (XX.trans P6) (((AH.keep ou).keep vN).keep (Hv.trans P6)) vD⟩
theorem Inv.hide(I:Inv w H0 C ρ st h){oa:Obj}{va:Array Value}(ea:h.get? a=some oa)(da:oa.data=.fields va)(M3:H0.get? a=none):Inv w H0 C ρ st (hideAll h [a]):=
 I.F3 (λb o e q=>Hh [a] e (by
  rw[au];intro z;rw[z,ea] at e;rw[<-ao e,z] at q;rcases q with q|q|q
  ·exact(I.fO ea da).1 q
  ·rw[M3] at q;nomatch q
  ·exact q _ da)) (bI (ig ..).symm)
theorem Ext.hide(X:Ext C cC h₀ ρ h)(ge:h₀.objs.size<=a):Ext C cC h₀ ρ (hideAll h [a]):=by
 have na:∀b o o',h₀.get? b=some o'->h.get? b=some o->(hideAll h [a]).get? b=some o:=λb o o' e0 e=>Hh [a] e (by
  rw[au];exactλz=>absurd (aK e0) (b0.mpr (z▸ge)))
 refine⟨X.pre,by simp only[ig];exact X.size,λb o e q=>?_,X.new,λb o vs e d=>na b o _ e (X.fix b o vs e d)⟩;obtain⟨sl,z⟩:=X.keep b o e q;exact⟨sl,na b _ _ e z⟩
theorem Bl(kp:∀b o,h.get? b=some o->h'.get? b=some o)(b:Addr)(o:Obj)(e:(hideAll h [a]).get? b=some o):(hideAll h' [a]).get? b=some o:=Hh [a] (kp b o (of_hideAll [a] e)) λz=>by
 rw[au.mp z,hideAll_none [a] (au.mpr rfl)] at e;exact nS e
abbrev CQ(w:World)(H0:Heap)(C:Cx)(cC:eS)(s₀:aH)(aV stF:St)(Q:Value->aH->Prop)(E:Value->aH->Prop)(use:Option (Value->Sem Unit)):Prop:=∀d9 D L h' fJ,s₀.heap.objs.size<=L->(∃m,h'.Ns L m)->(∀mC,dK L h' mC->Inv w H0 C d9 ⟨aV.loc,stF.hp⟩ mC/\Ext C cC s₀.heap d9 mC)->(∀mC,a7 d9 mC (.ref aV.hp.length) (.ref D))->C.env.locals≠L->
 compPost (model pw w) C.A E use Q (.ref D) L (.ok .next) {s₀ with heap:=h',toks:=fJ}
theorem A1{iter:Expr}{x:Str}{px:Pos}{ifs:List Expr}{mt:M Bool}{me:M PV}(K:C.Ok)(F:ik scope x fv)
 (hf:∀y∈scope.names,y.2=.free->C.env.kindOf y.1=some .cell/\(C.env.cells.lookup y.1).isSome=ah) (Ig:ix.map (λi=>C.names[i]?)=fv.map some)
 (ht:∀L,(C.comp scope x fv L).Ok->c_ w H0 (C.comp scope x fv L) iA (tests ifs (C.comp scope x fv L).env) mt) (he:∀L,(C.comp scope x fv L).Ok->bj w H0 (C.comp scope x fv L) elt me)
 {use:Option (Value->Sem Unit)} {cC bC:eS} {aV stF:St} {s₀:aH} {Q:Value->aH->Prop} {E:Value->aH->Prop} {bo:Heap} {b8:Nat} {j5:It} {a:Addr} (M3:H0.get? a=none) (ge:s₀.heap.objs.size<=a) (bK:Inv w H0 C bC aV bo) (d8:Ext C cC s₀.heap bC bo) (sR:ir bC bo a j5)
 (hN:iR dR j5 aV.hp.length mt me ⟨md ix aV.loc,aV.hp++[.list []]⟩=.ok () stF) (p:CQ w H0 C cC s₀ aV stF Q E use):
 wpAny (model pw w) C.A (ie []) (λacc s=>wpAny (model pw w) C.A (newFunctionEnv scope C.env.globals (xN C.env scope.names []) [] C.env.qual none .none (some C.env)) (λQt s=>codeAny (model pw w) C.A (.compStart (.ListComp elt [⟨.Name x px,iter,ifs,0⟩] scope pos) 0 (.ref a) acc {Qt with scope:=relabel scope C.env}) (compPost (model pw w) C.A E use Q acc Qt.locals) s) E s) E {s₀ with heap:=bo,toks:=b8}:=by
 refine aG.newList (s:={s₀ with heap:=bo,toks:=b8}) (l:=[]) bK rfl _ _ ?_;intro c8 acc dc ew dg dS gm;obtain⟨D,dD,rfl,rD⟩:=gm;refine Hl F.nc (λy hy=>nomatch hy) (λh₃ Rv nj=>?_) F.fn;refine gg λG k_=>?_
 obtain⟨K',fD,kp,p_⟩:=Inv.RE (x:=x) (fv:=fv) K F hf Ig dg Rv nj;refine k_ ?_;have CU:=sR.keep dS;have AG:ir c8 h₃ a j5:=CU.keep (Ext.of_keeps (C:=C) kp p_);refine gg λG k_=>?_
 obtain⟨oa,va,ea,da⟩:=AG.fields;refine k_ ?_;refine gg λG k_=>?_
 obtain⟨Ĉ,ċ,Zy,Zr⟩:=CU.fields;refine k_ ?_;have hp:=A2 (w:=w) (R:=compPost (model pw w) C.A E use Q (.ref D) dc.objs.size) (px:=px) (s₀:=s₀) (h₃:=hideAll h₃ [a]) K' (x:=x) rfl (by
  show(relabel scope C.env).names.lookup x=_;unfold relabel;simp only[fI,F.lx];rfl) (hideAll_none [a] (au.mpr rfl)) M3 rD (ht dc.objs.size K') (he dc.objs.size K') (stF:=stF) λρ h' fJ I' X'=>by
  obtain⟨m,Z8,_⟩:=I'.loc;exact p ρ D dc.objs.size h' fJ (ai d8.size dS.size) ⟨m,Z8⟩ (λmC Pm=>by
   obtain⟨mW,ou⟩:=Inv.Qh (dg.hide Zy Zr M3) (Bl kp) (by simp only[ig,ig];exact p_) (fD.hide ea da M3) (λb hb=>by
    rcases eV.mp hb with rfl|q|q
    ·exact .inr (by rw[ig];exact aC _)
    ·nomatch q
    ·exact .inl q) (by rw[ig];exact aC _) rfl rfl I' X' Pm
   exact⟨mW,((d8.trans dS).hide ge).trans ou⟩) (λmC=>⟨D,dD,rfl,jc X'.pre rD⟩) (aL dg.oN)
 have loop:codeAny (model pw w) C.A (.compLoop (.ListComp elt [⟨.Name x px,iter,ifs,0⟩] scope pos) 0 (.ref a) (.ref D) (C.comp scope x fv dc.objs.size).env) (compPost (model pw w) C.A E use Q (.ref D) dc.objs.size) {s₀ with heap:=h₃,toks:=ew+0}:=
  codeAny_compLoop_tests _ hp dR (.mk c8 _ h₃ (ew+0) j5 dR fD (Ext.of_keeps (λb o e=>of_hideAll [a] e) (bI (ig ..))) AG hN)
 exact codeAny_compStart_list loop (JR (s:={s₀ with heap:=h₃,toks:=ew+0}) AG loop)
theorem tJ{iter:Expr}{x:Str}{px:Pos}{ifs:List Expr}{pos:Pos}{mi:M It}{mt:M Bool}{me:M PV}(K:C.Ok)(F:ik scope x fv)
 (hf:∀y∈scope.names,y.2=.free->C.env.kindOf y.1=some .cell/\(C.env.cells.lookup y.1).isSome=ah) (Ig:ix.map (λi=>C.names[i]?)=fv.map some) (hs:jW iter=ah) (hi:mz w H0 C iter mi)
 (ht:∀L,(C.comp scope x fv L).Ok->c_ w H0 (C.comp scope x fv L) iA (tests ifs (C.comp scope x fv L).env) mt) (he:∀L,(C.comp scope x fv L).Ok->bj w H0 (C.comp scope x fv L) elt me)
 {use:Option (Value->Sem Unit)} {cC:eS} {je:St} {s₀:aH} {Q:Value->aH->Prop} {E:Value->aH->Prop} {pp:Pos} (oq:Inv w H0 C cC je s₀.heap)
 (p:match mi je with
  |.ok it aV=>(match iR dR it aV.hp.length mt me ⟨md ix aV.loc,aV.hp++[.list []]⟩ with
   |.ok _ stF=>∀d9 D L h' fJ,s₀.heap.objs.size<=L->(∃m,h'.Ns L m)->(∀mC,dK L h' mC->Inv w H0 C d9 ⟨aV.loc,stF.hp⟩ mC/\Ext C cC s₀.heap d9 mC)->(∀mC,a7 d9 mC (.ref aV.hp.length) (.ref D))->C.env.locals≠L->
    compPost (model pw w) C.A E use Q (.ref D) L (.ok .next) {s₀ with heap:=h',toks:=fJ}
   |_=>False)
  |.exc n aV=>dI w H0 C (Nj s₀.heap.objs.size) cC s₀ (.exc n aV) (λ_ _=>True) E
  |.bad=>False):
 wpAny (model pw w) C.A (comprehension (.ListComp elt [⟨.Name x px,iter,ifs,0⟩] scope pos) scope C.env pp (ie []) aj (eval iter C.env) use) Q E s₀:=by
 have Rg:closureFor scope C.env=pure (xN C.env scope.names []):=l_ λy hy q=>(hf y hy q).2
 refine AB rfl (λx=>oK hs) Rg F.fn (λy hy q=>by have:=jo F.sn hy;rw[q] at this;exact this) ?_;refine hi cC je s₀ oq _ _ ?_;revert p;cases hm:mi je with
 |bad=>exactλp=>p
 |exc n aV=>exactλp=>p
 |ok j5 aV=>
  dsimp only;cases hN:iR dR j5 aV.hp.length mt me ⟨md ix aV.loc,aV.hp++[.list []]⟩ with
  |bad=>exactλp=>p.elim
  |exc=>exactλp=>p.elim
  |ok u stF=>
   intro p bC V bo b8 bK d8 sR;obtain⟨a,rfl,ge,sR⟩:=sR;exact A1 K F hf Ig ht he (oq.fg ge) ge bK d8 sR hN p
theorem bj.EM{iter:Expr}{x:Str}{px:Pos}{ifs:List Expr}{mi:M It}{mt:M Bool}{me:M PV}(K:C.Ok)(F:ik scope x fv)
 (hf:∀y∈scope.names,y.2=.free->C.env.kindOf y.1=some .cell/\(C.env.cells.lookup y.1).isSome=ah) (Ig:ix.map (λi=>C.names[i]?)=fv.map some) (hs:jW iter=ah) (hi:mz w H0 C iter mi)
 (ht:∀L,(C.comp scope x fv L).Ok->c_ w H0 (C.comp scope x fv L) iA (tests ifs (C.comp scope x fv L).env) mt) (he:∀L,(C.comp scope x fv L).Ok->bj w H0 (C.comp scope x fv L) elt me):
 bj w H0 C (.ListComp elt [⟨.Name x px,iter,ifs,0⟩] scope pos) (fy ix mi mt me):=by
 intro cC je s₀ oq Q E p;simp only[eval_ListComp];refine tJ K F hf Ig hs hi ht he oq ?_;unfold fy at p;cases hm:mi je with
 |bad=>rw[hm] at p;exact p
 |exc n aV=>rw[hm] at p;exact p
 |ok j5 aV=>
  rw[hm] at p;dsimp only at p⊢;cases hN:iR dR j5 aV.hp.length mt me ⟨md ix aV.loc,aV.hp++[.list []]⟩ with
  |bad=>rw[hN] at p;exact p
  |exc=>rw[hN] at p;exact p
  |ok u stF=>
   rw[hN] at p;intro d9 D L h' fJ _ hn hI hr _;obtain⟨m,hm⟩:=hn;exact⟨m,hm,λmC Pm=>p d9 (.ref D) mC fJ (hI mC Pm).1 (hI mC Pm).2 (hr mC)⟩
theorem Ns.unique{m m':Str->Option Value}(x:h.Ns a m)(y:h.Ns a m'):m=m':=by
 refine gg λG k_=>?_
 obtain⟨o,es,ep,e,d,_,f⟩:=x;obtain⟨o',QV,Yl,e',d',_,f'⟩:=y;rw[e] at e';cases e';rw[d] at d';cases d';refine k_ ?_
 funext z
 simp only[<-f z,<-f' z]
theorem dr.xF{iter:Expr}{x y:Str}{px py:Pos}{ifs:List Expr}{B0:Pos}{mi:M It}{mt:M Bool}{me:M PV}(K:C.Ok)(F:ik scope x fv)
 (hf:∀y∈scope.names,y.2=.free->C.env.kindOf y.1=some .cell/\(C.env.cells.lookup y.1).isSome=ah) (Ig:ix.map (λi=>C.names[i]?)=fv.map some) (hs:jW iter=ah) (hi:mz w H0 C iter mi)
 (ht:∀L,(C.comp scope x fv L).Ok->c_ w H0 (C.comp scope x fv L) iA (tests ifs (C.comp scope x fv L).env) mt) (he:∀L,(C.comp scope x fv L).Ok->bj w H0 (C.comp scope x fv L) elt me)
 (ZZ:C.names[i]?=some y) (Yy:C.env.kindOf y=some .local) (UC:swapsWith (.ListComp elt [⟨.Name x px,iter,ifs,0⟩] scope pos) (some (.Name y py)) B0.line C.env=pure ah):
 dr w H0 C (.Assign [.Name y py] (.ListComp elt [⟨.Name x px,iter,ifs,0⟩] scope pos) B0) (do let v<-fy ix mi mt me;aX i v;pure .next):=by
 intro cC je s₀ oq Q E p;rw[exec_Assign_Name_used _ _ _ _ UC];refine ag (c9 (ag ?_));show wpAny _ _ (do let _<-comprehension (.ListComp elt [⟨.Name x px,iter,ifs,0⟩] scope pos) scope C.env _ (ie []) aj (eval iter C.env) (some (n9 (.Name y py) C.env))) _ _ _;refine ag (iO (tJ (Q:=λ_ s'=>Q .next s') K F hf Ig hs hi ht he oq ?_) (λ_ s' hq=>aE (aE hq)) λ_ _ e=>e);dsimp only[M.b6] at p;unfold fy at p;cases hm:mi je with
 |bad=>rw[hm] at p;exact p
 |exc n aV=>rw[hm] at p;exact p
 |ok j5 aV=>
  rw[hm] at p;dsimp only at p⊢;cases hN:iR dR j5 aV.hp.length mt me ⟨md ix aV.loc,aV.hp++[.list []]⟩ with
  |bad=>rw[hN] at p;exact p
  |exc=>rw[hN] at p;exact p
  |ok u stF=>
   rw[hN] at p;intro d9 D L h' fJ hL hn hI hr j3;refine gg λG k_=>?_
   obtain⟨mL,Z9⟩:=hn;obtain⟨I',X'⟩:=hI h' (T_ ..);obtain⟨m,Rr,l'⟩:=I'.loc;refine k_ ?_;show wpAny _ _ (n9 (.Name y py) C.env (.ref D)) _ _ _;refine O5 (fT Yy Rr (λbo KJ fS=>?_) (by rw[K.fn];rfl));refine⟨mL,Z9.sameBut fS (fN j3),λdc gE=>?_⟩;refine gg λG k_=>?_
   obtain⟨o,es,ep,eo,od,_⟩:=id Rr;refine k_ ?_;refine gg λG k_=>?_
   obtain⟨ã,Yn,Ym,QR,YO,_⟩:=KJ.sameBut gE j3;refine k_ ?_;have um:(dc.update C.env.locals λ_=>o).get? C.env.locals=some o:=cD _ QR (by
    have:=(Heap.get?_some_iff.mp eo).2;exact this)
   have so:∀b,b≠C.env.locals->(dc.update C.env.locals λ_=>o).get? b=dc.get? b:=λb q=>cp _ _ (fN q)
   have Lb:(dc.update C.env.locals λ_=>o).objs.size=dc.objs.size:=(bG ..).1;obtain⟨fD,gV⟩:=hI (dc.update C.env.locals λ_=>o) ⟨by simp only[Lb,gE.1,fS.1],λb q=>by
    by_cases z:b=C.env.locals
    ·simp only[z,um,eo]
    ·simp only[so b z,gE.2 b q,fS.2 b z]⟩
   obtain⟨Ø,Xz,WS⟩:=fD.loc;have nm:(dc.update C.env.locals λ_=>o).Ns C.env.locals m:=by
    refine gg λG k_=>?_
    obtain⟨o',QV,Yl,e',r'⟩:=Rr;refine k_ ?_;rw[eo] at e';cases e';exact⟨o,QV,Yl,um,r'⟩
   obtain rfl:=Ns.unique nm Xz;obtain⟨hW,i5⟩:=fD.oX (i:=i) (x:=y) (h':=dc) (v:=.ref aV.hp.length) (V:=.ref D) K WS ⟨Lb.symm,λb q=>(so b q).symm⟩ (KJ.sameBut gE j3) ZZ Yy (hr _);exact p d9 .next dc _ hW (gV.trans i5) rfl
end
set_option backward.match.sparseCases true
section
variable{C:Cx}{rel:eS->Heap->β->α->Prop}
def xM(ma mb mc:M PV)(f g:PV->PV->M PV):M PV:=do
 let a<-ma
 let b<-mb
 let c<-f a b
 let t<-dz c
 if t then(do let d<-mc;g b d) else pure c
theorem aG.Ta{keep:List Value}{f:Unit->Sem α}{m:M β}(x:aG w H0 C rel ρ st s (f ()) m):aG w H0 C rel ρ st s (release vs keep>>=f) m:=.skip (λ_ _ q=>AE q) x
theorem bj.chain{l x y:Expr}{o p:CmpOp}{ma mb mc:M PV}{f g:PV->PV->M PV}(ha:bj w H0 C l ma)(hb:bj w H0 C x mb)(hc:bj w H0 C y mc)(hf:ki w H0 C (compareOp o) f)(hg:ki w H0 C (compareOp p) g)(hm:behindInMarks p y=aj):
 bj w H0 C (.Compare l [o,p] [x,y] pos) (xM ma mb mc f g):=by
 intro ρ st s I;have e:eval (.Compare l [o,p] [x,y] pos) C.env=(eval l C.env>>=λa=>compareChain pos a [o,p] [eval x C.env,markedBehindIn p y (eval y C.env)]):=rfl;rw[e,g7 hm];refine(ha ρ st s I).bind λbC aV bo b8 a A bK d8 ra=>?_
 show aG w H0 C cv bC aV _ (holding [A] (eval x C.env)>>=λrv=>standAt pos>>=λ_=>holding [A,rv] (compareOp o A rv)>>=λc=>release [A,rv] [c]>>=λ_=>holding [c,rv] (truthy c)>>=λt=>if t then compareChain pos rv [p] [eval y C.env] else pure c) _;refine(aG.holding (hb bC aV {s with heap:=bo,toks:=b8} bK)).bind λc8 cQ dc ew b Bv dg dS rb=>.standAt ?_
 refine(aG.holding (hf c8 cQ {s with heap:=dc,toks:=ew} a b A Bv dg (a7.ext bK dS _ _ ra) rb)).bind λjg jf h₃ lq c Cv fD gV rc=>.Ta ?_
 refine(aG.holding (aG.truthy (s:={s with heap:=h₃,toks:=lq}) fD rc)).bind λmw wZ kT kb t t' hW i5 rt=>?_
 cases rt
 cases t
 ·exact .pure hW (a7.ext fD i5 _ _ rc)
 ·show aG w H0 C cv mw wZ _ (holding [Bv] (eval y C.env)>>=λrv=>standAt pos>>=λ_=>operate [Bv,rv] (compareOp p Bv rv)) _;refine(aG.holding (hc mw wZ {s with heap:=kT,toks:=kb} hW)).bind λsA F5 wm sh d D mW ou rd=>.standAt (.operate ?_)
  exact hg sA F5 {s with heap:=wm,toks:=sh} b d Bv D mW (a7.ext hW ou _ _ (a7.ext fD i5 _ _ (a7.ext dg gV _ _ rb))) rd
theorem d7.chain{l x y:Expr}{o p:CmpOp}{ma mb mc:M PV}{f g:PV->PV->M PV}(ha:bj w H0 C l ma)(hb:bj w H0 C x mb)(hc:bj w H0 C y mc)(hf:ki w H0 C (compareOp o) f)(hg:ki w H0 C (compareOp p) g)(hm:behindInMarks p y=aj):
 d7 w H0 C (.Compare l [o,p] [x,y] pos) (do
  let a<-ma
  let b<-mb
  let c<-f a b
  let t<-dz c
  if t then(do let d<-mc;let e<-g b d;dz e) else pure aj):=by
 intro ρ st s I;have e:isTrue (.Compare l [o,p] [x,y] pos) C.env (eval (.Compare l [o,p] [x,y] pos) C.env)=(eval l C.env>>=λa=>testChain pos a [o,p] [eval x C.env,markedBehindIn p y (eval y C.env)]):=rfl;simp only[e,g7 hm];refine(ha ρ st s I).bind λbC aV bo b8 a A bK d8 ra=>?_
 show aG w H0 C iA bC aV _ (holding [A] (eval x C.env)>>=λrv=>standAt pos>>=λ_=>holding [A,rv] (compareOp o A rv)>>=λc=>release [A,rv] [c]>>=λ_=>holding [c,rv] (truthy c)>>=λt=>if t then testChain pos rv [p] [eval y C.env] else pure aj) _;refine(aG.holding (hb bC aV {s with heap:=bo,toks:=b8} bK)).bind λc8 cQ dc ew b Bv dg dS rb=>.standAt ?_
 refine(aG.holding (hf c8 cQ {s with heap:=dc,toks:=ew} a b A Bv dg (a7.ext bK dS _ _ ra) rb)).bind λjg jf h₃ lq c Cv fD gV rc=>.Ta ?_
 refine(aG.holding (aG.truthy (s:={s with heap:=h₃,toks:=lq}) fD rc)).bind λmw wZ kT kb t t' hW i5 rt=>?_
 cases rt
 cases t
 ·exact .pure hW rfl
 ·show aG w H0 C iA mw wZ _ (holding [Bv] (eval y C.env)>>=λrv=>standAt pos>>=λ_=>operate [Bv,rv] (compareOp p Bv rv)>>=λc=>holding [c] (truthy c)) _;refine(aG.holding (hc mw wZ {s with heap:=kT,toks:=kb} hW)).bind λsA F5 wm sh d D mW ou rd=>.standAt ?_
  refine(aG.operate (hg sA F5 {s with heap:=wm,toks:=sh} b d Bv D mW (a7.ext hW ou _ _ (a7.ext fD i5 _ _ (a7.ext dg gV _ _ rb))) rd)).bind λAm YZ u_ w7 u U vK vN ru=>.holding ?_
  exact aG.truthy (s:={s with heap:=u_,toks:=w7}) vK ru
abbrev pR(w:World)(H0:Heap)(C:Cx)(op:n5)(es:List Expr)(m:M PV):Prop:=∀pos,c_ w H0 C cv (boolOp pos op (evalEach es C.env)) m
theorem pR.one{op:n5}{m:M PV}(h:bj w H0 C e m):pR w H0 C op [e] m:=λ_=>h
theorem pR.cons{op:n5}{e':Expr}{m k:M PV}(h:bj w H0 C e m)(ht:pR w H0 C op (e'::es) k):pR w H0 C op (e::e'::es) (do
 let v<-m
 let b<-dz v
 if b==(op==.And) then k else pure v):=by
 intro pos ρ st s I;have e0:boolOp pos op (evalEach (e::e'::es) C.env)=(eval e C.env>>=λv=>standAt pos>>=λ_=>holding [v] (truthy v)>>=λtb=>if tb==(op==.And) then boolOp pos op (evalEach (e'::es) C.env) else pure v):=by
  show(eval e C.env>>=λv=>standAt pos>>=λ_=>holding [v] (truthy v)>>=_)=_
  congr 1;funext v;congr 1;funext _;congr 1;funext tb
  cases op<;>cases tb<;>rfl
 simp only[e0];refine(h ρ st s I).bind λbC aV bo b8 v V bK d8 r=>.standAt ?_
 refine(aG.holding (aG.truthy (s:={s with heap:=bo,toks:=b8}) bK r)).bind λc8 cQ dc ew b b' dg dS rb=>?_
 cases rb
 by_cases q:(b==(op==O0))=ah
 ·rw[if_pos q,if_pos q];exact ht pos _ _ _ dg
 ·rw[if_neg q,if_neg q];exact .pure dg (a7.ext bK dS _ _ r)
theorem bj.boolOp{op:n5}{m:M PV}(h:pR w H0 C op es m):bj w H0 C (.BoolOp op es pos) m:=h pos
theorem bj.not{x:Expr}{m:M PV}(h:bj w H0 C x m):bj w H0 C (.UnaryOp .Not x pos) (do let v<-m;let b<-dz v;pure (.bool (!b))):=by
 intro ρ st s I;show aG w H0 C cv ρ st s (eval x C.env>>=λv=>standAt pos>>=λ_=>holding [v] (unaryOp .Not v)) _;refine(h ρ st s I).bind λbC aV bo b8 v V bK _ r=>.standAt (.holding ?_)
 cases v<;>first|exactλ_ _ p=>p.elim|skip
 obtain rfl:V=_:=r;intro Q E p;refine not_value (ky ?_);exact p bC _ bo b8 bK (.refl ..) rfl
theorem HX{M:Model}{Q:Flow->aH->Prop}(e:Expr)(pos:Pos)(V:Value)(q:Q .next s)(go:wpAny M A (do standAt pos;let _<-runValue (.builtin "proto.let_go" {});pure .next) Q E s):wpAny M A (dropValue e pos V) Q E s:=by
 have hs:wpAny M A (dropValue (.Tuple [] 0 pos) pos V) Q E s:=by
  cases V with
  |ref=>exact go
  |_=>exact aE q
 cases e with
 |Name=>exact aE q
 |_=>exact Ln (t':=dropValue (.Tuple [] 0 pos) pos V) (by kernel_rfl) hs
theorem dr.expr{m:M PV}(h:bj w H0 C e m)(hi:interactive C.env=aj)(hs:swapsWith e none pos.line C.env=bB aj):dr w H0 C (.Expr e pos) (do let _<-m;pure .next):=by
 intro ρ st s I;simp only[exec_Expr _ e pos hi hs];refine .standAt ((h ρ st s I).bind λbC aV bo b8 v V bK _ r=>?_);intro Q E p;have q:=p bC .next bo b8 bK (.refl ..) rfl
 exact HX e pos V q (ag (c9 (ag (UY (gQ PySem.entry_let_go (show wpAny _ _ (PySem.ret bT) _ _ _ from aE (aE q)))))))
end
set_option backward.match.sparseCases false
def gI(n:Nat):PV->M (List PV):=λv st=>match v with
 |.tup l=>if l.length=n then .ok l st else .bad
 |_=>.bad
def fP:List (PV->M Unit)->List PV->M Unit
 |g::gs,v::vs=>do g v;fP gs vs
 |_,_=>pure ()
section
variable{C:Cx}{rel:eS->Heap->β->α->Prop}
theorem vi{it t:Addr}{Q:Option Value->aH->Prop}(hh:A.handled=none)(hit:IsTupIter s.heap it t i)(ht:IsTup s.heap t items)(hx:items[i]?=none)
 (hQ:∀h',qw it s.heap h'->s.heap.objs.size<=h'.objs.size->Q none {s with heap:=h'}):wpAny (model pw w) A (pyNext (.ref it)) Q E s:=by
 refine gg λG k_=>?_
 obtain⟨o,ho,hc,hd⟩:=id hit;refine k_ ?_;refine gg λG k_=>?_
 obtain⟨ol,Wr,_,nl,Wh⟩:=ht;refine k_ ?_;unfold pyNext;refine ag (kJ (g8 (name:=b_ "__next__") hit.typeIs JY (iL JY hit.typeIs entry_tupleiter_next ?_ (args_tupleiter_next _))));show wpAny _ _ (field (.ref it) 0>>=_) _ _ s;refine ag (dG ho hd (x:=.ref t) rfl ?_);show wpAny _ _ (if(cG t==bT)=ah then _ else _) _ _ s;dsimp only[if_neg (show¬((cG t==bT)=ah) from fj)];show wpAny _ _ (field (.ref it) 1>>=_) _ _ s;refine ag (dG ho hd (x:=.int i 0) rfl ?_);show wpAny _ _ (seqItems? (.ref t)>>=_) _ _ s;refine ag (eM Wr Wh ?_);simp only[gU,hx];refine ag (gj (ag (ij ho hd (by simp) ?_)));show wpAny _ _ (newExc (.type "StopIteration") []>>=_) _ _ _;refine ag ?_;simp only[newExc,newTuple];refine ag (b5 ?_ (by size_fits));refine ag (m:=firstArgMember _ _) (cu (a:=bT) (by first|rfl|(simp only[firstArgMember];rfl)) ?_);refine b5 ?_ (by size_fits);dsimp only[raiseNew];refine ag (qh ?_);rw[show A.in1.handled=none from hh];refine ag (aE (om ?_));refine ag (eH (T:="StopIteration") (b:=ah) ⟨_,a8 _ rfl,rfl⟩ n_ ?_);exact aE (hQ _ (((bG ..).extBut.push _).push _) (by rw[a9,a9,(bG ..).1];exact aF _ 2))
theorem yN{t:Addr}{Q:List Value->aH->Prop}(hh:A.handled=none)(ht:IsTup s.heap t items)
 (hQ:∀h',(∀b o,s.heap.get? b=some o->h'.get? b=some o)->s.heap.objs.size<=h'.objs.size->Q items.toList {s with heap:=h'}):wpAny (model pw w) A (unpackItems (.ref t) items.size none) Q E s:=by
 have pX:t≠s.heap.objs.size:=by obtain⟨o,ho,_⟩:=ht;exact aL (aK ho)
 unfold unpackItems;refine ag ?_;unfold notIterableAtAll;refine ag (Uk ht.typeIs slot_tuple_iter.lookup ?_);refine aE ?_;dsimp only[cJ,if_false];refine ag (bS (iter_tuple ht ?_));refine ag (bS (draw_tuple pX items.size 0 _ _ ⟨_,a8 _ rfl,rfl,rfl⟩ (ht.push _) (by lia) λbo yc fS=>?_));have Ee:GW items.size (UO 0 items.toList)=items.toList:=by
  rw[l4];exact fm (by simp)
 rw[Ee,if_neg (by simp)];have zt:IsTup bo t items:=(ht.push _).extBut fS.extBut pX;refine ag (bS (vi hh yc zt (by simp) λdc Rk sz=>?_));dsimp only[Option.isSome_none,cJ,if_false];refine aE (hQ dc (λb o e=>Rk b o (aL (aK e)) (fS.extBut b o (aL (aK e)) (az _ e))) ?_);have z:s.heap.objs.size+1<=bo.objs.size:=by simp only[fS.1,a9];exact aC _
 exact ai (bX _) (ai z sz)
theorem aG.unpack(K:C.Ok)(I:Inv w H0 C ρ st s.heap)(r:a7 ρ s.heap v V):aG w H0 C ub ρ st s (unpackItems V n none) (gI n v):=by
 intro Q E p;cases v<;>first|exact p.elim|skip
 rename_i l;refine gg λG k_=>?_
 obtain⟨a,o,vs,k,rfl,e,c,d,rs⟩:=r;refine k_ ?_;unfold gI at p;dsimp only at p;by_cases q:l.length=n
 ·rw[if_pos q] at p;have hn:n=vs.size:=by rw[<-q,<-rs.length];simp
  subst hn;refine yN K.hd ⟨o,e,c,k,d⟩ λh' kp sz=>?_
  have I':=I.keeps kp sz;exact p ρ _ h' s.toks I' (Ext.of_keeps kp sz) (aR.mono (λb x _ _ z _ _=>⟨x.slots,kp b x z⟩) (a_ _) _ _ rs)
 ·rw[if_neg q] at p;exact p.elim
def qi(w:World)(H0:Heap)(C:Cx)(f:Value->Sem Unit)(g:PV->M Unit):Prop:=∀ρ st s v V,Inv w H0 C ρ st s.heap->a7 ρ s.heap v V->aG w H0 C i6 ρ st s (f V) (g v)
inductive gb(w:World)(H0:Heap)(C:Cx):List (Value->Sem Unit)->List (PV->M Unit)->Prop
 |nil:gb w H0 C [] []
 |cons {f g fs gs}:qi w H0 C f g->gb w H0 C fs gs->gb w H0 C (f::fs) (g::gs)
theorem aG.stores{fs:List (Value->Sem Unit)}{gs:List (PV->M Unit)}(hs:gb w H0 C fs gs):∀{ρ:eS} {st:St} {s:aH} {vs:List PV} {Vs:List Value},Inv w H0 C ρ st s.heap->aR ρ s.heap vs Vs->aG w H0 C i6 ρ st s (assignInOrder fs Vs) (fP gs vs):=by
 induction hs with
 |nil=>intro ρ st s vs Vs I r;exact aG.pure (a:=()) (b:=()) I trivial
 |cons hf _ ih=>
  intro ρ st s vs Vs I r;cases vs with
  |nil=>obtain rfl:Vs=[]:=r;exact aG.pure (a:=()) (b:=()) I trivial
  |cons v vs=>
   obtain⟨V,Vr,rfl,r1,r2⟩:=r;refine aG.bind (rel:=i6) (.holding (hf ρ st s v V I r1)) λbC aV bo b8 _ _ bK d8 _=>?_
   exact ih (s:={s with heap:=bo,toks:=b8}) bK (aR.ext I d8 _ _ r2)
theorem fF.tuple{k:Nat}{gs:List (PV->M Unit)}(K:C.Ok)(hn:(assignEach es C.env).length=n)(Wx:(assignEach es C.env).findIdx? (·.1)=none)(hs:gb w H0 C ((assignEach es C.env).map (·.2)) gs):
 fF w H0 C (.Tuple es k pos) (λv=>do let l<-gI n v;fP gs l):=by
 intro ρ st s v V I r;have e:n9 (.Tuple es k pos) C.env V=(standAt pos>>=λ_=>holding [V] (unpackItems V n none)>>=λl=>assignInOrder ((assignEach es C.env).map (·.2)) l):=by
  show(standAt pos>>=λ_=>unpack V (assignEach es C.env))=_;unfold unpack;rw[hn,Wx]
 simp only[e];refine .standAt (aG.bind (rel:=ub) (.holding (.unpack K I r)) λbC aV bo b8 l L bK d8 rl=>?_);exact aG.stores (s:={s with heap:=bo,toks:=b8}) hs bK rl
theorem dr.xG{k:Nat}{vu:Pos}{m:M PV}{names:List Str}{gs:List (PV->M Unit)}(K:C.Ok)(h:bj w H0 C e m)(UC:swapsWith e (some (.Tuple es k vu)) pos.line C.env=bB aj)(hw:swappedStores [.Tuple es k vu] e C.env=bB (some names))
 (hs:gb w H0 C (names.reverse.map λn=>bindName C.env n) gs):
 dr w H0 C (.Assign [.Tuple es k vu] e pos) (do let v<-m;let l<-gI names.length v;fP gs l.reverse;pure .next):=by
 intro ρ st s I;have eq:exec (.Assign [.Tuple es k vu] e pos) C.env=(standAt pos>>=λ_=>swapsWith e (some (.Tuple es k vu)) pos.line C.env>>=λb=>if b then(do
  evalThenUse e C.env λv=>assignAll v ((assignEach [.Tuple es k vu] C.env).map (·.2))
  pure .next) else eval e C.env>>=λv=>swappedStores [.Tuple es k vu] e C.env>>=λo=>assignStores C.env v o ((assignEach [.Tuple es k vu] C.env).map (·.2))):=rfl
 rw[eq,UC,hw];refine .standAt ?_;show aG w H0 C pV ρ st s (eval e C.env>>=λv=>assignStores C.env v (some names) ((assignEach [.Tuple es k vu] C.env).map (·.2))) _;refine(h ρ st s I).bind λbC aV bo b8 v V bK _ r=>?_
 show aG w H0 C pV bC aV _ (rule "assign.swapped-stores">>=λ_=>unpackItems V names.length none>>=λitems=>assignInOrder (names.reverse.map λn=>bindName C.env n) items.reverse>>=λ_=>pure .next) _;refine .skip (λ_ _ q=>gj q) ?_;refine aG.bind (rel:=ub) (aG.unpack (s:={s with heap:=bo,toks:=b8}) K bK r) λc8 cQ dc ew l L dg dS rl=>?_
 have rr:aR c8 dc l.reverse L.reverse:=by
  clear hs hw UC;induction l generalizing L with
  |nil=>obtain rfl:L=[]:=rl;rfl
  |cons a l ih=>
   obtain⟨A,Lr,rfl,r1,r2⟩:=rl;simp only[CH,CH];exact(ih Lr r2).append (aR.one r1)
 exact aG.bind (rel:=i6) (aG.stores (s:={s with heap:=dc,toks:=ew}) hs dg rr) λjg jf _ _ _ _ fD _ _=>.pure fD rfl
end
def ifloordiv:PV->PV->M PV
 |.int a,.int b=>if b=0 then M.bad else if cg b&&decide (b.natAbs<1073741824) then pure (.int (a.fdiv b)) else M.bad
 |_,_=>M.bad
noncomputable def idx(k:Int)(n:Nat):Option Nat:=if sz n then(if 0<=k then(if k.toNat<n then some k.toNat else none) else if-(n:Int)<=k then some (k+n).toNat else none) else none
theorem kU{k:Int}(h:idx k n=some j):n<=16777216/\j<n/\((0<=k/\j=k.toNat)\/(k<0/\-(n:Int)<=k/\j=(k+n).toNat)):=by
 obtain⟨q,h⟩:=iN h;refine⟨of_decide_eq_true q,?_⟩;by_cases c:0<=k
 ·rw[if_pos c] at h;obtain⟨d,h⟩:=iN h;exact(ao h)▸⟨d,.inl ⟨c,rfl⟩⟩
 ·rw[if_neg c] at h;obtain⟨d,h⟩:=iN h;have h:=ao h;have c:=jj.mp c;exact⟨h▸(pM (Int.add_left_neg n▸Int.add_le_add_right d n)).mpr (show k+(n:Int)<n from by have:=Int.add_lt_add_right c n;rwa[Int.zero_add] at this),.inr ⟨c,d,h.symm⟩⟩
noncomputable def Li:PO->Option (List PV)
 |.list l=>some l
 |_=>none
noncomputable def Lh:PO->Option (List (Str×PV))
 |.dict l=>some l
 |_=>none
noncomputable def Gy:PO->Option (List (List UInt8×PV))
 |.cN l=>some l
 |_=>none
theorem GC{v:PO}{x:List PV}(h:Li v=some x):v=.list x:=by cases v<;>first|exact nS h|exact congrArg _ (ao h)
theorem GB{v:PO}{x:List (Str×PV)}(h:Lh v=some x):v=.dict x:=by cases v<;>first|exact nS h|exact congrArg _ (ao h)
theorem B8{v:PO}{x:List (List UInt8×PV)}(h:Gy v=some x):v=.cN x:=by cases v<;>first|exact nS h|exact congrArg _ (ao h)
def listAt(hp:List PO)(i:Nat):Option (List PV):=(hp[i]?).bind Li
def dictAt(hp:List PO)(i:Nat):Option (List (Str×PV)):=(hp[i]?).bind Lh
def jN(hp:List PO)(i:Nat):Option (List (List UInt8×PV)):=(hp[i]?).bind Gy
theorem uE{o:Option α}{f:α->Option β}{x:β}{y:β->α}(hf:∀v,f v=some x->v=y x)(h:o.bind f=some x):o=some (y x):=by
 obtain⟨a,h1,h2⟩:=aD.mp h;simp only[h1,hf a h2]
theorem fH(h:listAt hp i=some l):hp[i]?=some (.list l):=uE (λ_=>GC) h
theorem pA{l:List (Str×PV)}(h:dictAt hp i=some l):hp[i]?=some (.dict l):=uE (λ_=>GB) h
theorem m5{l:List (List UInt8×PV)}(h:jN hp i=some l):hp[i]?=some (.cN l):=uE (λ_=>B8) h
theorem gZ(h:hp[i]?=some (.list l)):listAt hp i=some l:=by unfold listAt;rw[h];rfl
theorem tK{l:List (Str×PV)}(h:hp[i]?=some (.dict l)):dictAt hp i=some l:=by unfold dictAt;rw[h];rfl
theorem qI{l:List (List UInt8×PV)}(h:hp[i]?=some (.cN l)):jN hp i=some l:=by unfold jN;rw[h];rfl
def wD:PV->PV->M PV:=λa b st=>match a,b with
 |.ref i,.ref j=>(listAt st.hp i).elim .bad λl=>(listAt st.hp j).elim .bad λk=>if sz (l.length+k.length) then oO (l++k) st else .bad
 |.tup l,.tup k=>if sz (l.length+k.length) then .ok (.tup (l++k)) st else .bad
 |.bytes x,.bytes y=>Mh (.bytes x) (.bytes y) st
 |.int x,.int y=>RF (·+·) (.int x) (.int y) st
 |_,_=>.bad
section
variable{C:Cx}{rel:eS->Heap->β->α->Prop}
theorem dF{Q:α->aH->Prop}:dI w H0 C rel ρ s (.bad:R β) Q E->False:=id
theorem Im{P:R β->Prop}(hb:P .bad->False){c:Prop}[Decidable c]{a:R β}(p:P (if c then a else .bad)):c/\P a:=by
 by_cases q:c
 ·rw[if_pos q] at p;exact⟨q,p⟩
 ·rw[if_neg q] at p;exact(hb p).elim
theorem te{P:R β->Prop}(hb:P .bad->False){o:Option α}{f:α->R β}(p:P (o.elim .bad f)):∃a,o=some a/\P (f a):=by
 cases o with
 |none=>exact(hb p).elim
 |some a=>exact⟨a,rfl,p⟩
theorem lJ{vs:Array Value}(I:Inv w H0 C ρ st s.heap)(r:aR ρ s.heap l vs.toList)(q:sz l.length=ah)(p:dI w H0 C cv ρ s (oO l st) Q E):Q (.ref s.heap.objs.size) {s with heap:=s.heap.push {cls:=.type "list",data:=.seq vs}}:=by
 unfold oO at p;rw[if_pos q] at p;obtain⟨I',X'⟩:=I.new (a:=s.heap.objs.size) (d:=none) (o:=.list l) (h':=s.heap.push {cls:=.type "list",data:=.seq vs}) (λ_ _ e=>az _ e) ⟨aC _,jk (aO _) (a9 ..).symm⟩ (λ_ e=>nomatch e)
  ⟨rfl,vs,_,a8 _ rfl,aR.mono (λb o _ _ e _ _=>⟨o.slots,az _ e⟩) (fk ..) _ _ r⟩
 exact p _ _ _ s.toks I' X' ⟨s.heap.objs.size,none,rfl,by rw[<-I.len];simp⟩
theorem aR.size{vs:Array Value}(r:aR ρ h l vs.toList):vs.size=l.length:=r.length
theorem Inv.nE(I:Inv w H0 C ρ st h){o:PO}(hi:st.hp[i]?=some o)(hr:ρ[i]?=some (a,d)):jy w ρ h a d o:=by
 refine gg λG k_=>?_
 obtain⟨a',d',gz,r⟩:=I.objs i _ hi;obtain⟨rfl,rfl⟩:=i9 (ao (hr.symm.trans gz));refine k_ ?_;exact r
theorem yy:ki w H0 C (binaryOp .FloorDiv) ifloordiv:=by
 intro ρ st s x y X Y I a b;cases x with
 |int i=>
  cases y with
  |int j=>
   obtain⟨t,rfl⟩:=a;obtain⟨u,rfl⟩:=b;unfold ifloordiv;dsimp only;by_cases q:j=0
   ·rw[if_pos q];exactλ_ _ p=>p.elim
   ·rw[if_neg q];by_cases z:(cg j&&decide (j.natAbs<1073741824))=ah
    ·rw[if_pos z];exact .give I λQ E q'=>floordiv_int q (q' _ _ ⟨_,rfl⟩) (.inl (ue (of_decide_eq_true (fQ.mp z).2)))
    ·rw[if_neg z];exactλ_ _ p=>p.elim
  |_=>exactλ_ _ p=>p.elim
 |_=>exactλ_ _ p=>p.elim
theorem Aj{ta:Addr}{oa:Obj}{va:Array Value}(ea:s.heap.get? ta=some oa)(ca:oa.cls=.type "tuple")(da:oa.data=.seq va n):∃dd sl,s.heap.get? ta=some ⟨.type "tuple",dd,.seq va n,sl⟩:=by
 refine gg λG k_=>?_
 obtain⟨cls,dd,data,sl⟩:=oa;obtain rfl:cls=_:=ca;obtain rfl:data=_:=da;refine k_ ?_;exact⟨dd,sl,ea⟩
theorem Hx{k:List PV}{X:Value}(I:Inv w H0 C ρ st s.heap)(a:a7 ρ s.heap (.tup l) X)(b:a7 ρ s.heap (.tup k) Y):aG w H0 C cv ρ st s (binaryOp .Add X Y) (wD (.tup l) (.tup k)):=by
 intro Q E p;obtain⟨q,p⟩:=Im (P:=λr=>dI w H0 C cv ρ s r Q E) dF p;refine gg λG k_=>?_
 obtain⟨ta,oa,va,na,rfl,ea,ca,da,ra⟩:=a;refine k_ ?_;refine gg λG k_=>?_
 obtain⟨tb,ob,vb,nb,rfl,eb,cb,db,rb⟩:=b;refine k_ ?_;obtain⟨dd,sl,ho⟩:=Aj ea ca da;obtain⟨V8,XT,Nb⟩:=Aj eb cb db;have fin:aR ρ s.heap (l++k) (va++vb).toList:=by simp only[yS];exact ra.append rb
 by_cases hv:va=#[]
 ·refine sP ⟨_,ho,rfl⟩ ⟨_,Nb,rfl⟩ uk Az jJ jv (jl _ _) (tuple_addW0 ta tb va vb na nb dd V8 sl XT (by simp[hv])) ⟨ho,Nb,?_⟩;rw[hv,Array.empty_append] at fin;exact p ρ _ s.heap s.toks I (.refl ..) ⟨tb,_,_,_,rfl,Nb,rfl,rfl,fin⟩
 ·by_cases hw:vb=#[]
  ·refine sP ⟨_,ho,rfl⟩ ⟨_,Nb,rfl⟩ uk Az jJ jv (jl _ _) (tuple_addW1 ta tb va vb na nb dd V8 sl XT (by simpa using hv) (by simp[hw])) ⟨ho,Nb,?_⟩;rw[hw,Array.append_empty] at fin;exact p ρ _ s.heap s.toks I (.refl ..) ⟨ta,_,_,_,rfl,ho,rfl,rfl,fin⟩
  ·refine sP ⟨_,ho,rfl⟩ ⟨_,Nb,rfl⟩ uk Az jJ jv (jl _ _)
    (tuple_addW2 ta tb va vb na nb dd V8 sl XT (by simpa using hv) (by simpa using hw) (by simp only[ra.size,rb.size];exact dQ q)) ⟨ho,Nb,?_⟩
   exact p ρ _ _ s.toks (I.push _) (Ext.push _) ⟨s.heap.objs.size,_,_,_,rfl,a8 _ rfl,rfl,rfl,aR.mono (λb o _ _ e _ _=>⟨o.slots,az _ e⟩) (a_ _) _ _ fin⟩
theorem add_list{X:Value}(I:Inv w H0 C ρ st s.heap)(a:a7 ρ s.heap (.ref i) X)(b:a7 ρ s.heap (.ref j) Y):aG w H0 C cv ρ st s (binaryOp .Add X Y) (wD (.ref i) (.ref j)):=by
 intro Q E p;obtain⟨l,hi,p⟩:=te (P:=λr=>dI w H0 C cv ρ s r Q E) dF p;obtain⟨k,hj,p⟩:=te (P:=λr=>dI w H0 C cv ρ s r Q E) dF p;obtain⟨q,p⟩:=Im (P:=λr=>dI w H0 C cv ρ s r Q E) dF p;obtain⟨ta,da,rfl,ra⟩:=a;obtain⟨tb,db,rfl,rb⟩:=b;refine gg λG k_=>?_
 obtain⟨_,us,n,el,rl⟩:=I.nE (fH hi) ra;refine k_ ?_;refine gg λG k_=>?_
 obtain⟨_,vs,n2,Yj,K5⟩:=I.nE (fH hj) rb;refine k_ ?_;refine sP ⟨_,el,rfl⟩ ⟨_,Yj,rfl⟩ noFill_list_add seq_list_add PySem.F.slot_list_add PySem.F.entry_list_add (PySem.F.args_list_add_2 _ _) (list_addW ta tb us vs n n2 none none #[] #[] (by rw[rl.size,K5.size];exact dQ q)) ⟨el,Yj,?_⟩;exact lJ I (by simp only[yS];exact rl.append K5) (by rw[av];exact q) p
theorem NJ:ki w H0 C (binaryOp .Add) wD:=by
 intro ρ st s x y X Y I a b;cases x with
 |int=>
  cases y with
  |int=>exact SP ρ st s _ _ X Y I a b
  |_=>exactλ_ _ p=>p.elim
 |bytes=>
  cases y with
  |bytes=>exact NI ρ st s _ _ X Y I a b
  |_=>exactλ_ _ p=>p.elim
 |tup=>
  cases y with
  |tup=>exact Hx I a b
  |_=>exactλ_ _ p=>p.elim
 |ref=>
  cases y with
  |ref=>exact add_list I a b
  |_=>exactλ_ _ p=>p.elim
 |_=>exactλ_ _ p=>p.elim
end
noncomputable def gK{K:Type}[DecidableEq K](l:List (K×PV))(k:K):Option PV:=(l.find? λkv=>kv.1=k).map (·.2)
noncomputable def cV{K:Type}[DecidableEq K](l:List (K×PV))(k:K)(v:PV):List (K×PV):=if l.any (λkv=>kv.1=k) then l.map (λkv=>if kv.1=k then(kv.1,v) else kv) else l++[(k,v)]
noncomputable def cut(l:List α)(lo hi:Option Int):List α:=(l.drop (lo.elim 0 (clipAt l.length))).take (hi.elim l.length (clipAt l.length)-lo.elim 0 (clipAt l.length))
def wy(st:St):PV->PV->Option PV:=λv k=>match v,k with
 |.tup l,.int k=>(idx k l.length).bind λj=>l[j]?
 |.bytes b,.int k=>if 0<=k then(idx k b.length).map λj=>.int (b.getD j 0).toNat else none
 |.ref i,.int k=>(listAt st.hp i).bind λl=>(idx k l.length).bind λj=>l[j]?
 |.ref i,.str x=>(dictAt st.hp i).bind λl=>gK l x
 |.ref i,.bytes b=>(jN st.hp i).bind λl=>gK l b
 |_,_=>none
def km:PV->PV->M PV:=λv k st=>(wy st v k).elim .bad λx=>.ok x st
theorem lO{k x:PV}(h:wy st v k=some x):km v k st=.ok x st:=by unfold km;rw[h];rfl
def gc:PV->PV->PV->M Unit:=λv k x st=>match v,k with
 |.ref i,.str n=>(dictAt st.hp i).elim .bad λl=>if sz l.length then .ok () {st with hp:=st.hp.set i (.dict (cV l n x))} else .bad
 |.ref i,.bytes b=>(jN st.hp i).elim .bad λl=>if sz l.length then .ok () {st with hp:=st.hp.set i (.cN (cV l b x))} else .bad
 |.ref i,.int k=>(listAt st.hp i).elim .bad λl=>if 0<=k then(idx k l.length).elim .bad λj=>.ok () {st with hp:=st.hp.set i (.list (l.set j x))} else .bad
 |_,_=>.bad
noncomputable def k7:PV->Option (Option Int)
 |.none=>some none
 |.int i=>some (some i)
 |_=>none
def mI:PV->PV->PV->M PV:=λv lo hi st=>match k7 lo,k7 hi with
 |some lo,some hi=>match v with
  |.bytes b=>if sz b.length then .ok (.bytes (cut b lo hi)) st else .bad
  |.ref i=>(listAt st.hp i).elim .bad λl=>if sz l.length then oO (cut l lo hi) st else .bad
  |_=>.bad
 |_,_=>.bad
theorem zc(l:List α)(lo hi:Option Int):(cut l lo hi).length<=l.length:=
 ai (yV _ _) (by rw[cB];exact dU _ _)
theorem Up(f:α->β)(l:List α)(lo hi:Option Int):(cut l lo hi).map f=cut (l.map f) lo hi:=by
 unfold cut;simp[Lw,Lv]
section
variable{C:Cx}{rel:eS->Heap->β->α->Prop}
theorem wM{K:Type}[DecidableEq K]{k:K}:∀{l:List (K×PV)} {kvs:List (K×Value)} {p:PV},kvs.map (·.1)=l.map (·.1)->aR ρ h (l.map (·.2)) (kvs.map (·.2))->gK l k=some p->∃V,valueAt kvs k=some V/\a7 ρ h p V:=by
 intro l;induction l with
 |nil=>exactλ_ _ e=>nS e
 |cons a l ih=>
  intro kvs p e r q;cases kvs with
  |nil=>nomatch e
  |cons b kvs=>
   obtain⟨e1,e2⟩:=cF (show b.1::kvs.map (·.1)=a.1::l.map (·.1) from e);refine gg λG k_=>?_
   obtain⟨V',r',e',x,y⟩:=r;refine k_ ?_;obtain⟨e3,e4⟩:=cF (show b.2::kvs.map (·.2)=V'::r' from e');rw[<-e3] at x;simp only[<-e4] at y;unfold gK at q ih;unfold valueAt at ih⊢;dsimp only[sC] at q⊢;rw[e1];by_cases c:decide (a.1=k)=ah
   ·rw[c] at q⊢;exact⟨b.2,rfl,ao q▸x⟩
   ·simp only[GL] at c;rw[c] at q⊢;exact ih e2 y q
theorem aR.cut(r:aR ρ h l vs)(lo hi:Option Int):aR ρ h (Mine.cut l lo hi) (Mine.cut vs lo hi):=by
 have drop:∀(n:Nat) {l:List PV} {vs:List Value},aR ρ h l vs->aR ρ h (l.drop n) (vs.drop n):=λn=>by
  induction n with
  |zero=>intro l vs r;exact r
  |succ n ih=>
   intro l vs r;cases l with
   |nil=>obtain rfl:vs=[]:=r;exact rfl
   |cons p l=>obtain⟨V,u,rfl,_,r2⟩:=r;exact ih r2
 have take:∀(n:Nat) {l:List PV} {vs:List Value},aR ρ h l vs->aR ρ h (l.take n) (vs.take n):=λn=>by
  induction n with
  |zero=>intro l vs r;simp only[JX,JX];exact rfl
  |succ n ih=>
   intro l vs r;cases l with
   |nil=>obtain rfl:vs=[]:=r;exact rfl
   |cons p l=>obtain⟨V,u,rfl,r1,r2⟩:=r;exact⟨V,_,rfl,r1,ih r2⟩
 unfold Mine.cut;exact r.length.symm▸take _ (drop _ r)
theorem nk{k:Int}(h:idx k n=some j):-(2^63)<=k/\k<2^63:=by
 obtain⟨z1,z2,z3⟩:=kU h;cases z3 with
 |inl h=>exact⟨gS (by decide) h.1,by rw[<-Int.toNat_of_nonneg h.1,<-h.2];exact ji (dq.mpr z2) (gS (fY.mpr z1) (by decide))⟩
 |inr h=>exact⟨gS (gS (by decide:-(2^63)<=-((16777216:Nat):Int)) (Ls (fY.mpr z1))) h.2.1,kC h.1 (by decide)⟩
theorem Oe{k:Int}(h:idx k n=some j):seqIndex? k n=some j:=by
 obtain⟨z1,z2,z3⟩:=kU h;cases z3 with
 |inl z=>
  unfold seqIndex?;rw[if_neg (kD.mpr z.1),if_pos (by simp only[aI];exact⟨decide_eq_true z.1,decide_eq_true ((pM z.1).mp (z.2▸z2))⟩),z.2]
 |inr z=>rw[seqIndex_neg z.1 z.2.1,z.2.2]
theorem yl{bs:List UInt8}{k:Int}{X:Value}(a:a7 ρ s.heap (.bytes bs) X)(b:a7 ρ s.heap (.int k) Y)(e:wy st (.bytes bs) (.int k)=some v)(fin:∀{V:Value} {tk:Nat},a7 ρ s.heap v V->Q V {s with toks:=tk}):uh (model pw w) A E X Y Q s:=by
 refine gg λG k_=>?_
 obtain⟨h0,e⟩:=iN e;obtain⟨j,hj,rfl⟩:=aS.mp e;obtain⟨t,rfl⟩:=a;obtain⟨u,rfl⟩:=b;obtain⟨z1,z2,z3⟩:=kU hj;have hk:j=k.toNat:=z3.elim (·.2) λz=>absurd h0 (jj.mpr z.1)
 rw[hk] at fin z2;refine k_ ?_;exact⟨"bytes",_,l7.lookup,dw _ _ _,getItem_bytes (ai z1 (by decide)) h0 ((pM h0).mp z2) (fin ⟨_,rfl⟩)⟩
theorem item_tup{k:Int}{X:Value}(a:a7 ρ s.heap (.tup l) X)(b:a7 ρ s.heap (.int k) Y)(e:wy st (.tup l) (.int k)=some v)(fin:∀{V:Value} {tk:Nat},a7 ρ s.heap v V->Q V {s with toks:=tk}):uh (model pw w) A E X Y Q s:=by
 refine gg λG k_=>?_
 obtain⟨j,hj,hl⟩:=aD.mp e;obtain⟨ta,oa,va,na,rfl,ea,ca,da,ra⟩:=a;obtain⟨u,rfl⟩:=b;obtain⟨V,hV,rV⟩:=ra.get hl;have sx:=Oe hj;rw[<-ra.size] at sx;refine k_ ?_;exact⟨"tuple",_,slot_tuple_getitem.lookup,⟨oa,ea,ca⟩,getItem_tuple ⟨oa,ea,ca,na,da⟩ (nk hj).1 (nk hj).2 sx (by rw[<-ej];exact hV) (fin (tk:=s.toks) rV)⟩
theorem item_list{k:Int}{X:Value}(I:Inv w H0 C ρ st s.heap)(a:a7 ρ s.heap (.ref i) X)(b:a7 ρ s.heap (.int k) Y)(e:wy st (.ref i) (.int k)=some v)(fin:∀{V:Value} {tk:Nat},a7 ρ s.heap v V->Q V {s with toks:=tk}):uh (model pw w) A E X Y Q s:=by
 obtain⟨l,hi,e⟩:=aD.mp e;obtain⟨j,hj,hl⟩:=aD.mp e;obtain⟨a,d,rfl,hr⟩:=a;obtain⟨u,rfl⟩:=b;refine gg λG k_=>?_
 obtain⟨_,us,n,el,rl⟩:=I.nE (fH hi) hr;refine k_ ?_;have EA:s.heap.IsList a us:=⟨_,el,rfl,n,rfl⟩;obtain⟨V,hV,rV⟩:=rl.get hl;rw[ej] at hV;have sz:=rl.size;refine⟨"list",_,slot_list_getitem.lookup,EA.typeIs,?_⟩;obtain⟨z1,z2,⟨z4,z5⟩|⟨z4,z5,z6⟩⟩:=kU hj
 ·exact wpAny_getItem_list EA z4 (nk hj).2 (by rw[<-z5];exact hV) (fin (tk:=s.toks) rV)
 ·exact wpAny_getItem_list_neg EA z4 (by rw[sz];exact z5) (nk hj).1 (by rw[sz,<-z6];exact hV) (fin (tk:=s.toks) rV)
theorem IA{x y:PV}{X:Value}(I:Inv w H0 C ρ st s.heap)(a:a7 ρ s.heap x X)(b:a7 ρ s.heap y Y)(p:dI w H0 C cv ρ s (km x y st) Q E):uh (model pw w) C.A E X Y Q s:=by
 obtain⟨v,e,p⟩:=te (P:=λr=>dI w H0 C cv ρ s r Q E) dF p;have fin:∀{V:Value} {tk:Nat},a7 ρ s.heap v V->Q V {s with toks:=tk}:=λ{V tk} r=>p ρ V s.heap tk I (.refl ..) r
 clear p;cases x with
 |bytes=>
  cases y with
  |int=>exact yl a b e fin
  |_=>exact nS e
 |tup=>
  cases y with
  |int=>exact item_tup a b e fin
  |_=>exact nS e
 |ref i=>
  cases y with
  |int=>exact item_list I a b e fin
  |str x=>
   obtain⟨l,hi,hv⟩:=aD.mp e;obtain⟨a,d,rfl,hr⟩:=a;obtain⟨u,rfl⟩:=b;obtain⟨_,kvs,⟨hd,_⟩,hk,rl⟩:=I.nE (pA hi) hr;obtain⟨V,hV,rV⟩:=wM hk rl hv;exact⟨"dict",_,slot_dict_getitem.lookup,hd.typeIs,uq (LI ..) hd.mapOf hV (fin rV)⟩
  |bytes x=>
   obtain⟨l,hi,hv⟩:=aD.mp e;obtain⟨a,d,rfl,hr⟩:=a;obtain⟨u,rfl⟩:=b;obtain⟨_,kvs,⟨hd,_⟩,hk,rl⟩:=I.nE (m5 hi) hr;obtain⟨V,hV,rV⟩:=wM hk rl hv;exact⟨"dict",_,slot_dict_getitem.lookup,hd.typeIs,uq (k:=x) (by simp[bytesKind,isBytes]) hd.mapOf hV (fin rV)⟩
  |_=>exact nS e
 |_=>exact nS e
end
noncomputable def nC:Expr->Bool
 |.Slice ..=>aj
 |_=>ah
theorem lp{slice:Expr}{o i:Value}(h:nC slice=ah):subscripted slice aj o i=operate [o,i] (getItem o i):=by
 cases slice<;>first|rfl|exact nB h
theorem nM{l u:Option Expr}{p:Pos}{o i:Value}:subscripted (.Slice l u none p) aj o i=operate [i,o] (getItem o i):=rfl
section
variable{C:Cx}{rel:eS->Heap->β->α->Prop}
theorem bj.sub{k:Expr}{m n:M PV}(hs:nC k=ah)(ha:bj w H0 C e m)(hb:bj w H0 C k n):bj w H0 C (.Subscript e k pos) (do let v<-m;let i<-n;km v i):=by
 intro ρ st s I;simp only[arm_eval_Subscript];refine aG.two (b:=λX=>holding [X] (eval k C.env)) (f:=λX Y=>standAt pos>>=λ_=>subscriptTail e k X Y) I ha (λX ρ st s I=>(hb ρ st s I).holding) λρ st s x y X Y I a b=>.standAt λQ E p=>?_
 obtain⟨T,id,hl,hT,hg⟩:=IA I a b p;exact tail_any hT hl hg (lp hs)
abbrev pQ(w:World)(H0:Heap)(C:Cx)(e:Option Expr)(m:M PV):Prop:=c_ w H0 C cv (valueOrNone (evalOpt e C.env)) m
theorem pQ.none:pQ w H0 C none (pure .none):=λρ _ s I _ _ p=>aE (p ρ _ s.heap _ I (.refl ..) rfl)
theorem pQ.some{m:M PV}(h:bj w H0 C e m):pQ w H0 C (some e) m:=h
theorem lL{o:Option Int}(r:a7 ρ h v V)(e:k7 v=some o):IsPart V o:=by
 cases v with
 |none=>simp only[<-ao e,show V=_ from r];exact .none
 |int i=>obtain⟨t,rfl⟩:=r;simp only[<-ao e];exact .int _ _
 |_=>exact nS e
theorem slice_list{li:List PV}{a1 sl:Addr}{LO HI:Value}{l u:Option Int}(I:Inv w H0 C ρ st s.heap)(EA:s.heap.IsList a1 us)(r:aR ρ s.heap li us.toList)
 (q:sz li.length=ah) (pl:IsPart LO l) (pu:IsPart HI u) (Cq:s.heap.IsSliceOf sl LO HI .none) (p:dI w H0 C cv ρ s (oO (cut li l u) st) Q E):uh (model pw w) C.A E (.ref a1) (.ref sl) Q s:=by
 refine⟨"list",_,slot_list_getitem.lookup,EA.typeIs,wpAny_getItem_list_slice EA Cq pl pu .none (by simp) ?_ (by rw[<-cz,r.length];exact dQ q)⟩;have e:slicePick us l u none=(cut us.toList l u).toArray:=by
  rw[slicePick_plain];unfold cut;simp only[cz]
 rw[e];exact lJ I (by simp only[List.toList_toArray];exact r.cut l u) (decide_eq_true (ai (zc li l u) (of_decide_eq_true q))) p
theorem FZ{x lo hi:PV}{X LO HI:Value}{sl:Addr}(I:Inv w H0 C ρ st s.heap)(a:a7 ρ s.heap x X)(rl:a7 ρ s.heap lo LO)(rh:a7 ρ s.heap hi HI)(Cq:s.heap.IsSliceOf sl LO HI .none)
 (p:dI w H0 C cv ρ s (mI x lo hi st) Q E):uh (model pw w) C.A E X (.ref sl) Q s:=by
 unfold mI at p;cases M9:k7 lo with
 |none=>rw[M9] at p;exact p.elim
 |some l=>
  cases Pd:k7 hi with
  |none=>rw[M9,Pd] at p;exact p.elim
  |some u=>
   rw[M9,Pd] at p;have pl:=lL rl M9;have pu:=lL rh Pd;clear M9 Pd rl rh;cases x with
   |bytes bs=>
    obtain⟨q,p⟩:=Im (P:=λr=>dI w H0 C cv ρ s r Q E) dF p;obtain⟨t,rfl⟩:=a;refine⟨"bytes",_,l7.lookup,dw _ _ _,getItem_meets (dw _ _ _) (by decide) l7 FB.entry_bytes_getitem (FB.args_bytes_getitem_2 _ _) (KBc.meets_slice2 bs.toArray t _ pl pu)
     ⟨Cq,ai (KBc.size_picked_le _ _ _) (by rw[gO];exact dQ q),λt' k=>?_⟩⟩
    rw[show KBy.picked bs.toArray l u=(cut bs l u).toArray by rw[KBc.picked_eq];rfl];exact p ρ (.bytes (cut bs l u).toArray t') s.heap k I (.refl ..) ⟨_,rfl⟩
   |ref i=>
    obtain⟨li,hi,p⟩:=te (P:=λr=>dI w H0 C cv ρ s r Q E) dF p;obtain⟨q,p⟩:=Im (P:=λr=>dI w H0 C cv ρ s r Q E) dF p;obtain⟨a1,d,rfl,hr⟩:=a;refine gg λG k_=>?_
    obtain⟨_,us,n,el,r⟩:=I.nE (fH hi) hr;refine k_ ?_;exact slice_list I ⟨_,el,rfl,n,rfl⟩ r q pl pu Cq p
   |_=>exact p.elim
def j1(H0:Heap)(V:Value)(l:List PV):Prop:=∃a vs,V=.ref a/\H0.IsList a vs/\∀(ρ:eS) (h:Heap),aR ρ h l vs.toList
def SN(x:Value×List PV)(V:Value)(lo hi:PV):M PV:=λst=>if V=x.1 then(k7 lo).elim .bad λlo=>(k7 hi).elim .bad λhi=>if sz x.2.length then oO (cut x.2 lo hi) st else .bad else .bad
def lh(old:Option (Value×List PV))(v lo hi:PV):M PV:=match v with
 |.obj V=>(match old with
  |some x=>SN x V lo hi
  |none=>M.bad)
 |v=>mI v lo hi
theorem BZ{y:Value×List PV}(ho:j1 H0 y.1 y.2){lo hi:PV}{LO HI:Value}{sl:Addr}(I:Inv w H0 C ρ st s.heap)(rl:a7 ρ s.heap lo LO)(rh:a7 ρ s.heap hi HI)(Cq:s.heap.IsSliceOf sl LO HI .none)
 (p:dI w H0 C cv ρ s (SN y V lo hi st) Q E):uh (model pw w) C.A E V (.ref sl) Q s:=by
 refine gg λG k_=>?_
 obtain⟨q,p⟩:=Im (P:=λr=>dI w H0 C cv ρ s r Q E) dF p;obtain⟨l,h1,p⟩:=te (P:=λr=>dI w H0 C cv ρ s r Q E) dF p;obtain⟨u,h2,p⟩:=te (P:=λr=>dI w H0 C cv ρ s r Q E) dF p;obtain⟨z,p⟩:=Im (P:=λr=>dI w H0 C cv ρ s r Q E) dF p;refine k_ ?_;rw[q];refine gg λG k_=>?_
 obtain⟨a1,vs,e,⟨ol,g,g2⟩,r⟩:=ho;refine k_ ?_;exact e.symm▸slice_list I ⟨ol,I.old _ _ g,g2⟩ (r _ _) z (lL rl h1) (lL rh h2) Cq p
theorem BY(ho:∀x,old=some x->j1 H0 x.1 x.2){x lo hi:PV}{X LO HI:Value}{sl:Addr}(I:Inv w H0 C ρ st s.heap)(a:a7 ρ s.heap x X)(rl:a7 ρ s.heap lo LO)(rh:a7 ρ s.heap hi HI)(Cq:s.heap.IsSliceOf sl LO HI .none)
 (p:dI w H0 C cv ρ s (lh old x lo hi st) Q E):uh (model pw w) C.A E X (.ref sl) Q s:=by
 cases x with
 |obj V=>
  obtain rfl:X=V:=a;cases old with
  |none=>exact p.elim
  |some y=>exact BZ (ho y rfl) I rl rh Cq p
 |_=>exact FZ I a rl rh Cq p
theorem bj.slice(ho:∀x,old=some x->j1 H0 x.1 x.2){l u:Option Expr}{B0:Pos}{m ml mu:M PV}(ha:bj w H0 C e m)(hl:pQ w H0 C l ml)(hu:pQ w H0 C u mu):
 bj w H0 C (.Subscript e (.Slice l u none B0) pos) (do let v<-m;let a<-ml;let b<-mu;lh old v a b):=by
 intro ρ st s I;have e0:eval (.Subscript e (.Slice l u none B0) pos) C.env=(eval e C.env>>=λo=>holding [o] (do
  let l<-valueOrNone (evalOpt l C.env)
  let u<-holding [l] (valueOrNone (evalOpt u C.env))
  let s<-holding [l,u] (valueOrNone (evalOpt none C.env))
  newFields "slice" [l,u,s])>>=λi=>standAt pos>>=λ_=>subscriptTail e (.Slice l u none B0) o i):=rfl
 simp only[e0];refine(ha ρ st s I).bind λbC aV bo b8 v V bK d8 rv=>?_
 intro Q E p;refine ag (bS (ag ?_));rw[M.b6] at p;refine hl bC aV {s with heap:=bo,toks:=b8} bK _ _ ?_;cases Wn:ml aV with
 |bad=>rw[Wn] at p;exact p
 |exc n cQ=>rw[Wn] at p;exact p
 |ok a cQ=>
  rw[Wn] at p;dsimp only at p;intro c8 LO dc ew dg dS ra;refine ag (bS ?_);dsimp only[M.b6] at p;refine hu c8 cQ {s with heap:=dc,toks:=ew} dg _ _ ?_;have p:=p.later dS (tk:=ew);cases Wo:mu cQ with
  |bad=>rw[Wo] at p;exact p
  |exc n jf=>rw[Wo] at p;exact p
  |ok b jf=>
   rw[Wo] at p;intro jg HI h₃ lq fD gV rb;refine ag (bS (aE ?_));delta newFields;dsimp only;refine b5 (ag (c9 ?_)) (by size_fits);have i5:=(gV.trans (Ext.push (C:=C) (ρ:=jg) {cls:=.type "slice",data:=.fields #[LO,HI,.none]}));have hW:=fD.push {cls:=.type "slice",data:=.fields #[LO,HI,.none]};have g:(h₃.push {cls:=.type "slice",data:=.fields #[LO,HI,.none]}).IsSliceOf h₃.objs.size LO HI .none:=O2 _ _ _ _;have ø:=a7.ext dg i5 _ _ (a7.ext bK dS _ _ rv);have ë:=a7.ext dg i5 _ _ ra;have ì:=a7.ext fD (Ext.push (C:=C) (ρ:=jg) {cls:=.type "slice",data:=.fields #[LO,HI,.none]}) _ _ rb;have p:=p.later i5 (tk:=lq);refine gg λG k_=>?_
   obtain⟨T,id,hl,hT,hg⟩:=BY ho (s:={s with heap:=h₃.push {cls:=.type "slice",data:=.fields #[LO,HI,.none]},toks:=lq}) hW ø ë ì g p;refine k_ ?_;exact tail_any hT hl hg nM
theorem any_keys{K β γ:Type}[DecidableEq K]{k:K}{l:List (K×β)}{m:List (K×γ)}(e:m.map (·.1)=l.map (·.1)):m.any (λkv=>decide (kv.1=k))=l.any (λkv=>decide (kv.1=k)):=by
 have a:∀{β:Type} (l:List (K×β)),l.any (λkv=>decide (kv.1=k))=(l.map (·.1)).any (λx=>decide (x=k)):=λl=>by simp only[List.any_map];rfl
 simp only[a,a,e]
theorem wI{K β:Type}[DecidableEq K]{k:K}(l:List (K×β))(v:β):(l.map λkv=>if kv.1=k then(kv.1,v) else kv).map (·.1)=l.map (·.1):=by
 simp only[kr];refine iJ λa _=>?_
 show(if a.1=k then(a.1,v) else a).1=a.1;split<;>rfl
theorem k8{K:Type}[DecidableEq K]{k:K}{v:PV}{V:Value}{l:List (K×PV)}{kvs:List (K×Value)}(e:kvs.map (·.1)=l.map (·.1)):(stored kvs k V).map (·.1)=(cV l k v).map (·.1):=by
 unfold stored cV;rw[any_keys e];split
 ·simp only[wI,wI,e]
 ·simp only[cw,cw,e];rfl
theorem JO{K:Type}[DecidableEq K]{k:K}{v:PV}{V:Value}(rv:a7 ρ h v V){l:List (K×PV)}:∀{kvs:List (K×Value)},kvs.map (·.1)=l.map (·.1)->aR ρ h (l.map (·.2)) (kvs.map (·.2))->aR ρ h ((l.map λkv=>if kv.1=k then(kv.1,v) else kv).map (·.2)) ((kvs.map λkv=>if kv.1=k then(kv.1,V) else kv).map (·.2)):=by
 induction l with
 |nil=>intro kvs e r;rw[mM.mp e];exact rfl
 |cons a l ih=>
  intro kvs e r;cases kvs with
  |nil=>nomatch e
  |cons b kvs=>
   obtain⟨e1,e2⟩:=cF (show b.1::kvs.map (·.1)=a.1::l.map (·.1) from e);refine gg λG k_=>?_
   obtain⟨U,u,eu,r1,r2⟩:=r;refine k_ ?_;obtain⟨e3,e4⟩:=cF (show b.2::kvs.map (·.2)=U::u from eu);refine⟨_,_,rfl,?_,ih e2 (e4▸r2)⟩;show a7 ρ h (if a.1=k then(a.1,v) else a).2 (if b.1=k then(b.1,V) else b).2;rw[e1];by_cases q:a.1=k
   ·rw[if_pos q,if_pos q];exact rv
   ·rw[if_neg q,if_neg q,e3];exact r1
theorem k9{K:Type}[DecidableEq K]{k:K}{v:PV}{V:Value}(rv:a7 ρ h v V){l:List (K×PV)}{kvs:List (K×Value)}(e:kvs.map (·.1)=l.map (·.1))(r:aR ρ h (l.map (·.2)) (kvs.map (·.2))):aR ρ h ((cV l k v).map (·.2)) ((stored kvs k V).map (·.2)):=by
 unfold stored cV;rw[any_keys e];split
 ·exact JO rv e r
 ·simp only[cw,cw];exact r.append (aR.one rv)
theorem Js{X:Value}(el:h.get? a=some {cls:=.type "list",data:=.seq us n}):∃n',(h.update a (n7 (·.setIfInBounds i X))).get? a=some {cls:=.type "list",data:=.seq (us.setIfInBounds i X) n'}:=by
 obtain⟨n',sH⟩:=Obj.data_mapSeq (o:={cls:=.type "list",data:=.seq us n}) rfl (·.setIfInBounds i X);refine⟨n',?_⟩;rw[cD _ el (Obj.isFreed_of_seq sH)];unfold n7 at sH⊢;dsimp only at sH⊢;rw[sH]
theorem set_list{k:Int}{x:PV}{K X:Value}(I:Inv w H0 C ρ st s.heap)(rv:a7 ρ s.heap (.ref i) V)(rk:a7 ρ s.heap (.int k) K)(rx:a7 ρ s.heap x X):aG w H0 C i6 ρ st s (uo V K X) (gc (.ref i) (.int k) x):=by
 intro Q E p;obtain⟨l,hi,p⟩:=te (P:=λr=>dI w H0 C i6 ρ s r Q E) dF p;obtain⟨h0,p⟩:=Im (P:=λr=>dI w H0 C i6 ρ s r Q E) dF p;obtain⟨j,hj,p⟩:=te (P:=λr=>dI w H0 C i6 ρ s r Q E) dF p;obtain⟨a,d,rfl,hr⟩:=rv;obtain⟨u,rfl⟩:=rk;obtain⟨z1,z2,z3⟩:=kU hj;obtain rfl:j=k.toNat:=z3.elim (·.2) λz=>absurd h0 (jj.mpr z.1)
 refine gg λG k_=>?_
 obtain⟨rfl,us,n,el,r⟩:=I.nE (fH hi) hr;refine k_ ?_;have p_:=r.size;refine ki_setAt (n:=n) el h0 (nk hj).2 (by rw[p_];exact(pM h0).mp z2) ?_;have hs:dK a s.heap (s.heap.update a (n7 (·.setIfInBounds k.toNat X))):=bG ..;obtain⟨n',hg⟩:=Js (X:=X) (i:=k.toNat) el;obtain⟨I',X'⟩:=I.put (x:=a) (o':=.list (l.set k.toNat x)) hr (.inl rfl) (λb hb=>hs.2 b hb) hs.1 ⟨_,hg,by simp⟩ λm1 m2=>⟨rfl,_,_,hg,by rw[Array.toList_setIfInBounds];exact(m2 _ _ r).set k.toNat (m1 _ _ rx)⟩
 exact p ρ () _ s.toks I' X' trivial
theorem wG{K γ:Type}{l:List (K×β)}{m:List (K×γ)}(e:m.map (·.1)=l.map (·.1)):m.length=l.length:=by
 have:=congrArg js e;rwa[aW,aW] at this
theorem aG.setItem{k x:PV}{K X:Value}(I:Inv w H0 C ρ st s.heap)(rv:a7 ρ s.heap v V)(rk:a7 ρ s.heap k K)(rx:a7 ρ s.heap x X):aG w H0 C i6 ρ st s (uo V K X) (gc v k x):=by
 cases v with
 |ref i=>
  cases k with
  |int k=>exact set_list I rv rk rx
  |str k=>
   intro Q E p;obtain⟨l,hi,p⟩:=te (P:=λr=>dI w H0 C i6 ρ s r Q E) dF p;obtain⟨q,p⟩:=Im (P:=λr=>dI w H0 C i6 ρ s r Q E) dF p;obtain⟨a,d,rfl,hr⟩:=rv;obtain⟨u,rfl⟩:=rk;obtain⟨rfl,kvs,⟨hd,lo⟩,hk,r⟩:=I.nE (pA hi) hr;refine J8 (LI ..) hd (λh' sH hs=>?_) (by rw[wG hk];exact dQ q);obtain⟨o1,ZD,ZC,g1,c1,c2,_⟩:=id sH;obtain⟨I',X'⟩:=I.put (x:=a) (o':=.dict (cV l k x)) hr (.inl rfl) (λb hb=>hs.2 b hb) hs.1 ⟨o1,g1,by rw[c1.1];simp⟩ λm1 m2=>⟨rfl,_,⟨sH,lo⟩,k8 hk,k9 (m1 _ _ rx) hk (m2 _ _ r)⟩
   exact p ρ () _ _ I' X' trivial
  |bytes k=>
   intro Q E p;obtain⟨l,hi,p⟩:=te (P:=λr=>dI w H0 C i6 ρ s r Q E) dF p;obtain⟨q,p⟩:=Im (P:=λr=>dI w H0 C i6 ρ s r Q E) dF p;obtain⟨a,d,rfl,hr⟩:=rv;obtain⟨u,rfl⟩:=rk;obtain⟨rfl,kvs,⟨hd,lo⟩,hk,r⟩:=I.nE (m5 hi) hr;refine J8 (k:=k) (by simp[bytesKind,isBytes]) hd (λh' sH hs=>?_) (by rw[wG hk];exact dQ q);obtain⟨o1,ZD,ZC,g1,c1,c2,_⟩:=id sH;obtain⟨I',X'⟩:=I.put (x:=a) (o':=.cN (cV l k x)) hr (.inl rfl) (λb hb=>hs.2 b hb) hs.1 ⟨o1,g1,by rw[c1.1];simp⟩ λm1 m2=>⟨rfl,_,⟨sH,lo⟩,k8 hk,k9 (m1 _ _ rx) hk (m2 _ _ r)⟩
   exact p ρ () _ _ I' X' trivial
  |_=>exactλ_ _ p=>p.elim
 |_=>exactλ_ _ p=>p.elim
theorem fF.sub{o i:Expr}{m n:M PV}(h:bj w H0 C o m)(hi:bj w H0 C i n):fF w H0 C (.Subscript o i pos) (λp=>do let v<-m;let k<-n;gc v k p):=by
 intro ρ st s p P I rp;show aG w H0 C i6 ρ st s (holding [P] (eval o C.env)>>=λov=>holding [P,ov] (eval i C.env)>>=λiv=>standAt pos>>=λ_=>holding [P,ov,iv] (uo ov iv P)>>=λ_=>release _ []) _;have e:(do let v<-m;let k<-n;gc v k p)=(m>>=λv=>n>>=λk=>gc v k p>>=λ_=>bB ()):=by simp only[M.tH]
 show aG w H0 C i6 ρ st s _ (do let v<-m;let k<-n;gc v k p);rw[e];refine(aG.holding (h ρ st s I)).bind λbC aV bo b8 v V bK d8 r=>?_
 refine(aG.holding (hi bC aV {s with heap:=bo,toks:=b8} bK)).bind λc8 cQ dc ew k K dg dS rk=>.standAt ?_
 exact(aG.holding (aG.setItem (s:={s with heap:=dc,toks:=ew}) dg (a7.ext bK dS _ _ r) rk (a7.ext bK dS _ _ (a7.ext I d8 _ _ rp)))).bind λjg jf h₃ lq _ _ fD _ _=>λQ E q=>AE (q _ () _ _ fD (.refl ..) trivial)
end
def jq(f:PV->PV->Option Bool):List PV->List PV->Option Bool
 |[],_=>some ah
 |_::_,[]=>some ah
 |a::l,b::k=>(f a b).bind λx=>(jq f l k).map λy=>x&&y
noncomputable def Lj:PV->Option Bool
 |.none=>some ah
 |_=>none
noncomputable def Lg:PV->Option Bool
 |.bool x=>some x
 |_=>none
noncomputable def TK:PV->Option Int
 |.int x=>some x
 |_=>none
noncomputable def TM:PV->Option Str
 |.str x=>some x
 |_=>none
noncomputable def GA:PV->Option (List UInt8)
 |.bytes x=>some x
 |_=>none
noncomputable def TN:PV->Option (List PV)
 |.tup x=>some x
 |_=>none
noncomputable def TL:PV->Option Nat
 |.ref x=>some x
 |_=>none
theorem GD{x:Bool}(h:Lj v=some x):v=.none/\x=ah:=by cases v<;>first|exact nS h|exact⟨rfl,(ao h).symm⟩
theorem Gz{x:Bool}(h:Lg v=some x):v=.bool x:=by cases v<;>first|exact nS h|exact congrArg _ (ao h)
theorem JJ{x:Int}(h:TK v=some x):v=.int x:=by cases v<;>first|exact nS h|exact congrArg _ (ao h)
theorem JL{x:Str}(h:TM v=some x):v=.str x:=by cases v<;>first|exact nS h|exact congrArg _ (ao h)
theorem B9{x:List UInt8}(h:GA v=some x):v=.bytes x:=by cases v<;>first|exact nS h|exact congrArg _ (ao h)
theorem JM{x:List PV}(h:TN v=some x):v=.tup x:=by cases v<;>first|exact nS h|exact congrArg _ (ao h)
theorem JK{x:Nat}(h:TL v=some x):v=.ref x:=by cases v<;>first|exact nS h|exact congrArg _ (ao h)
def kA(hp:List PO):Nat->PV->PV->Option Bool
 |0,_,_=>none
 |n+1,a,b=>match a with
  |.none=>Lj b
  |.bool x=>(Lg b).map λy=>x==y
  |.int x=>(TK b).map λy=>x==y
  |.str x=>(TM b).map λy=>decide (x=y)
  |.bytes x=>(GA b).map λy=>x==y
  |.tup l=>(TN b).bind λk=>(jq (kA hp n) l k).map (·&&l.length==k.length)
  |.ref i=>(TL b).bind λj=>if i=j then none else(listAt hp i).bind λl=>(listAt hp j).bind λk=>if l.length=k.length then jq (kA hp n) l k else some aj
  |.obj _=>none
inductive Hp(hp:List PO)(n:Nat):PV->PV->Bool->Prop
 |none:Hp hp n .none .none ah
 |bool (x y:Bool):Hp hp n (.bool x) (.bool y) (x==y)
 |int (x y:Int):Hp hp n (.int x) (.int y) (x==y)
 |str (x y:Str):Hp hp n (.str x) (.str y) (decide (x=y))
 |bytes (x y:List UInt8):Hp hp n (.bytes x) (.bytes y) (x==y)
 |tup {l k:List PV} {z:Bool} (h:jq (kA hp n) l k=some z):Hp hp n (.tup l) (.tup k) (z&&l.length==k.length)
 |ref {i j:Nat} {l k:List PV} {b:Bool} (h:i≠j) (h1:hp[i]?=some (.list l)) (h2:hp[j]?=some (.list k)) (h3:(if l.length=k.length then jq (kA hp n) l k else some aj)=some b):Hp hp n (.ref i) (.ref j) b
theorem H3{b:Bool}(e:(if i=j then none else(listAt hp i).bind λl=>(listAt hp j).bind λk=>if l.length=k.length then jq (kA hp n) l k else some aj)=some b):Hp hp n (.ref i) (.ref j) b:=by
 by_cases q:i=j
 ·exact nS ((if_pos q).symm.trans e)
 ·obtain⟨l,h1,e⟩:=aD.mp ((if_neg q).symm.trans e);obtain⟨k,h2,e⟩:=aD.mp e;exact .ref q (fH h1) (fH h2) e
theorem zi{x y:PV}{b:Bool}(e:kA hp (n+1) x y=some b):Hp hp n x y b:=by
 cases x with
 |none=>obtain⟨rfl,rfl⟩:=GD e;exact .none
 |bool x=>obtain⟨z,h,rfl⟩:=aS.mp e;exact Gz h▸.bool ..
 |int x=>obtain⟨z,h,rfl⟩:=aS.mp e;exact JJ h▸.int ..
 |str x=>obtain⟨z,h,rfl⟩:=aS.mp e;exact JL h▸.str ..
 |bytes x=>obtain⟨z,h,rfl⟩:=aS.mp e;exact B9 h▸.bytes ..
 |tup l=>obtain⟨z,h,e⟩:=aD.mp e;obtain⟨z,ez,rfl⟩:=aS.mp e;exact JM h▸.tup ez
 |ref i=>obtain⟨z,h,e⟩:=aD.mp e;exact JK h▸H3 e
 |obj=>exact nS e
noncomputable def tX(f:PV->PV->Option Bool)(l k:List PV)(j:Nat):Bool:=match l[j]?,k[j]?with
 |some a,some b=>(f a b).getD aj
 |_,_=>aj
theorem pa{k:List PV}{a c:PV}{b:Bool}(e:jq f (a::l) (c::k)=some b):∃x y,f a c=some x/\jq f l k=some y/\(x&&y)=b:=by
 refine gg λG k_=>?_
 obtain⟨x,h1,e⟩:=aD.mp e;obtain⟨y,h2,e⟩:=aS.mp e;refine k_ ?_;exact⟨x,y,h1,h2,e⟩
theorem wL{k:List PV}{a c:PV}{x:Bool}(h1:l[j]?=some a)(h2:k[j]?=some c)(h:f a c=some x):tX f l k j=x:=by
 unfold tX;rw[h1,h2];dsimp only;rw[h];rfl
theorem JS:∀{k:List PV} {b:Bool} {j:Nat} {x y:PV},jq f l k=some b->l[j]?=some x->k[j]?=some y->f x y=some (tX f l k j):=by
 induction l with
 |nil=>exactλ_ h=>nS h
 |cons a l ih=>
  intro k b j x y e h1 h2;cases k with
  |nil=>exact nS h2
  |cons c k=>
   obtain⟨u,v,e1,e2,_⟩:=pa e;cases j with
   |zero=>
    rw[<-ao h1,<-ao h2,wL (j:=0) rfl rfl e1];exact e1
   |succ j=>exact ih e2 h1 h2
theorem GJ:∀{k:List PV} {b:Bool},jq f l k=some b->b=(ku (min l.length k.length)).all (tX f l k):=by
 induction l with
 |nil=>intro k b e;simp only[bE,Nat.zero_min];exact(ao e).symm
 |cons a l ih=>
  intro k b e;cases k with
  |nil=>simp only[bE,Nat.min_zero];exact(ao e).symm
  |cons c k=>
   refine gg λG k_=>?_
   obtain⟨u,v,e1,e2,e3⟩:=pa e;refine k_ ?_;rw[cA,cA,Nat.succ_min_succ,List.range_succ_eq_map,dJ,OY,wL (j:=0) rfl rfl e1,<-e3,ih e2];rfl
section
variable{C:Cx}{rel:eS->Heap->β->α->Prop}
open PySem.SeqAt
theorem EqAt.pz{x y:List UInt8}{t u:Tok}:EqAt A s (.bytes x.toArray t) (.bytes y.toArray u) (x==y):=λprog w E Q hq=>by
 refine eqBool_bytes ?_;have:(x==y)=decide (x=y):=by
  by_cases q:x=y<;>simp[q]
 rw[<-this];exact hq
theorem aR.same(ih:∀{x y:PV} {V:Value} {b:Bool},a7 ρ h x V->a7 ρ h y V->f x y=some b->b=ah):∀{k:List PV} {us:List Value} {z:Bool},aR ρ h l us->aR ρ h k us->jq f l k=some z->z=ah:=by
 induction l with
 |nil=>exactλ_ _ e=>(ao e).symm
 |cons p l il=>
  intro k us z r r' ez;cases k with
  |nil=>exact(ao ez).symm
  |cons q k=>
   refine gg λG k_=>?_
   obtain⟨U,u,rfl,r1,r2⟩:=r;obtain⟨U',u',e',ç,ê⟩:=r';obtain⟨rfl,rfl⟩:=cF e';obtain⟨x,y,e1,e2,e3⟩:=pa ez;refine k_ ?_;simp only[<-e3,ih r1 ç e1,il r2 ê e2];rfl
theorem a7.same(hn:∀(i j:Nat) (a:Addr) (d e:Option Addr),ρ[i]?=some (a,d)->ρ[j]?=some (a,e)->i=j):∀{x y:PV} {V:Value} {b:Bool},a7 ρ h x V->a7 ρ h y V->kA hp n x y=some b->b=ah:=by
 induction n with
 |zero=>exactλ_ _ e=>nS e
 |succ n ih=>
  intro x y V b rx ry e;cases zi e with
  |none=>rfl
  |bool x y=>have e:=rx.symm.trans ry;injection e with e;rw[e];exact beq_self_eq_true y
  |int x y=>obtain⟨t,rfl⟩:=rx;obtain⟨u,q⟩:=ry;injection q with q;rw[q];exact beq_self_eq_true y
  |str x y=>obtain⟨t,rfl⟩:=rx;obtain⟨u,q⟩:=ry;injection q with q;exact decide_eq_true q
  |bytes l k=>obtain⟨t,rfl⟩:=rx;obtain⟨u,q⟩:=ry;injection q with q;rw[show l=k from congrArg vG q];exact beq_self_eq_true k
  |@tup l k z ez=>
   refine gg λG k_=>?_
   obtain⟨a,o,vs,m,rfl,g,c,d,r⟩:=rx;refine k_ ?_;refine gg λG k_=>?_
   obtain⟨a',o',vs',m',q,g',c',d',r'⟩:=ry;refine k_ ?_
   injection q with q
   rw[<-q,g] at g';rw[<-ao g',d] at d'
   injection d' with d'
   rw[<-d'] at r';rw[aR.same ih r r' ez,vC,show l.length=k.length from r.length.symm.trans r'.length];exact beq_self_eq_true _
  |@ref i j l k _ q _ _ _=>
   obtain⟨a,d,rfl,hi⟩:=rx;obtain⟨a',d',e',hj⟩:=ry
   injection e' with e'
   exact absurd (hn i j a d d' hi (e'▸hj)) q
theorem AI(hn:(addrs ρ).Nodup)(i j:Nat)(a:Addr)(d e:Option Addr)(hi:ρ[i]?=some (a,d))(hj:ρ[j]?=some (a,e)):i=j:=qE hn hi hj (.inl rfl) (.inl rfl)
abbrev xt(A:e_)(s:aH)(X Y:Value)(b:Bool):Prop:=EqAt A s X Y b/\RcAt A s X Y b/\RcNeAt A s X Y (!b)
theorem aR.Q6{vs:Array Value}(r:aR ρ h l vs.toList)(h1:j<vs.size):∃p,l[j]?=some p/\a7 ρ h p vs[j]:=by
 have g1:=bp (r.size▸h1);obtain⟨U,hU,rU⟩:=r.get g1;refine⟨_,g1,?_⟩;rw[ej,dv h1] at hU;simp only[ao hU];exact rU
theorem xa(ih:∀{x y:PV} {X Y:Value} {b:Bool},a7 ρ s.heap x X->a7 ρ s.heap y Y->f x y=some b->xt A s X Y b){k:List PV}{vs:Array Value}{z:Bool}(r1:aR ρ s.heap l vs.toList)(r2:aR ρ s.heap k us.toList)(q:jq f l k=some z):
 (∀j (h1:j<vs.size) (h2:j<us.size),EqAt A s vs[j] us[j] (tX f l k j))/\z=(ku (min vs.size us.size)).all (tX f l k):=by
 refine⟨λj h1 h2=>?_,by rw[r1.size,r2.size];exact GJ q⟩;refine gg λG k_=>?_
 obtain⟨p,e1,g1⟩:=r1.Q6 h1;obtain⟨p',e2,g2⟩:=r2.Q6 h2;refine k_ ?_;exact(ih g1 g2 (JS q e1 e2)).1
theorem H5(hu:A.units<cLine)(ih:∀{x y:PV} {X Y:Value} {b:Bool},a7 ρ s.heap x X->a7 ρ s.heap y Y->f x y=some b->xt A.in1 s X Y b){k:List PV}{X:Value}{z:Bool}(rx:a7 ρ s.heap (.tup l) X)(ry:a7 ρ s.heap (.tup k) Y)(q:jq f l k=some z)
 (hs:X=Y->(z&&l.length==k.length)=ah):xt A s X Y (z&&l.length==k.length):=by
 refine gg λG k_=>?_
 obtain⟨a,o,vs,m,rfl,g,c,d,r⟩:=rx;obtain⟨a',o',vs',m',rfl,g',c',d',r'⟩:=ry;obtain⟨he,ha⟩:=xa ih r r' q;have ht:s.heap.IsTuple a vs:=⟨o,g,c,m,d⟩;have UD:s.heap.IsTuple a' vs':=⟨o',g',c',m',d'⟩;have R:=RcAt.tuples ht UD hu he;have N:=RcNeAt.tuples ht UD hu he;rw[<-ha,r.size,r'.size] at R N;refine k_ ?_;refine⟨?_,R,N⟩;by_cases q:a=a'
 ·subst q;simp only[hs rfl];exact EqAt.same _
 ·exact EqAt.of_refs q R
theorem DM(hu:A.units<cLine)(ih:∀{x y:PV} {X Y:Value} {b:Bool},a7 ρ s.heap x X->a7 ρ s.heap y Y->f x y=some b->xt A.in1 s X Y b){k:List PV}{a':Addr}{vs:Array Value}{b:Bool}(ne:a≠a')(Pe:s.heap.IsList a vs)(Pf:s.heap.IsList a' us)(rl:aR ρ s.heap l vs.toList)(K5:aR ρ s.heap k us.toList)
 (e:(if l.length=k.length then jq f l k else some aj)=some b):xt A s (.ref a) (.ref a') b:=by
 by_cases hl:l.length=k.length
 ·rw[if_pos hl] at e;obtain⟨he,ha⟩:=xa ih rl K5 e;have eq:vs.size=us.size:=rl.size.trans (hl.trans K5.size.symm);rw[<-eq,Nat.min_self] at ha;have R:=RcAt.lists Pe Pf eq hu he;have N:=RcNeAt.lists Pe Pf eq hu he;simp only[<-ha] at R N;exact⟨EqAt.of_refs ne R,R,N⟩
 ·obtain rfl:=ao ((if_neg hl).symm.trans e);have hn:(vs.size !=us.size)=ah:=bne_iff_ne.mpr λe=>hl (rl.size.symm.trans (e.trans K5.size))
  have R:=RcAt.lists_lengths Pe Pf (A:=A) hn hu;exact⟨EqAt.of_refs ne R,R,RcNeAt.lists_lengths Pe Pf (A:=A) hn hu⟩
theorem Inv.isList(I:Inv w H0 C ρ st s.heap)(h:st.hp[i]?=some (.list l))(hi:ρ[i]?=some (a,d)):∃vs,s.heap.IsList a vs/\aR ρ s.heap l vs.toList/\d=none:=by
 refine gg λG k_=>?_
 obtain⟨b1,d1,r1,e,vs,m,el,rl⟩:=I.objs i _ h;refine k_ ?_;obtain⟨rfl,rfl⟩:=i9 (ao (hi.symm.trans r1));exact⟨vs,⟨_,el,rfl,m,rfl⟩,rl,e⟩
theorem zh(I:Inv w H0 C ρ st s.heap):∀(n:Nat) {A:e_} {x y:PV} {X Y:Value} {b:Bool},a7 ρ s.heap x X->a7 ρ s.heap y Y->A.units+n<cLine->kA st.hp n x y=some b->xt A s X Y b:=by
 have inj:=AI I.nodup;intro n;induction n with
 |zero=>exactλ_ _ _ e=>nS e
 |succ n ih=>
  intro A x y X Y b rx ry hu e;have YC:A.units<cLine:=aA (aF _ _) hu;have ih:∀{x y:PV} {X Y:Value} {b:Bool},a7 ρ s.heap x X->a7 ρ s.heap y Y->kA st.hp n x y=some b->xt A.in1 s X Y b:=λr1 r2=>ih r1 r2 (by rw[bz n,<-aN] at hu;exact hu)
  have e0:=e;cases zi e with
  |none=>obtain rfl:X=_:=rx;obtain rfl:Y=_:=ry;exact⟨EqAt.same _,RcAt.none_none,RcNeAt.none_none⟩
  |bool=>obtain rfl:X=_:=rx;obtain rfl:Y=_:=ry;exact⟨EqAt.bool_bool _ _,RcAt.bool_bool _ _,RcNeAt.bool_bool _ _⟩
  |int=>obtain⟨t,rfl⟩:=rx;obtain⟨u,rfl⟩:=ry;exact⟨EqAt.int_int _ _ _ _,RcAt.int_int _ _ _ _,RcNeAt.int_int _ _ _ _⟩
  |str x y=>
   obtain⟨t,rfl⟩:=rx;obtain⟨u,rfl⟩:=ry;have:decide (x=y)=(x==y):=by by_cases q:x=y<;>simp[q]
   simp only[this];exact⟨EqAt.str_str _ _ _ _,RcAt.str_str _ _ _ _,RcNeAt.str_str _ _ _ _⟩
  |bytes=>obtain⟨t,rfl⟩:=rx;obtain⟨u,rfl⟩:=ry;exact⟨EqAt.pz,λprog w E Q h=>eq_bytes h,λprog w E Q h=>ne_bytes h⟩
  |tup ez=>exact H5 YC ih rx ry ez λq=>a7.same inj (q▸rx) ry e0
  |ref q h1 h2 h3=>
   refine gg λG k_=>?_
   obtain⟨a,d,rfl,hi⟩:=rx;obtain⟨a',d',rfl,hj⟩:=ry;obtain⟨vs,Pe,rl,_⟩:=I.isList h1 hi;obtain⟨us,Pf,K5,_⟩:=I.isList h2 hj;refine k_ ?_;exact DM YC ih (λz=>q (inj _ _ a d d' hi (z▸hj))) Pe Pf rl K5 h3
end
def MF:PV->PV->M PV:=λa b st=>match kA st.hp 40 a b with
 |some c=>.ok (.bool c) st
 |none=>.bad
def Nx:PV->PV->M PV:=λa b st=>match kA st.hp 40 a b with
 |some c=>.ok (.bool (!c)) st
 |none=>.bad
noncomputable def rC(k:Int):List PV->Option Bool
 |[]=>some aj
 |.int a::l=>(rC k l).map λr=>a==k||r
 |_=>none
noncomputable def kQ(k:List UInt8):List PV->Option Bool
 |[]=>some aj
 |.bytes a::l=>(kQ k l).map λr=>a==k||r
 |_=>none
def s7(st:St):PV->PV->Option Bool
 |.int k,.tup l=>rC k l
 |.bytes k,.tup l=>kQ k l
 |.bytes k,.ref i=>match st.hp[i]?with
  |some (.cN l)=>some (gK l k).isSome
  |_=>none
 |_,_=>none
def Ip:PV->PV->M PV:=λa b st=>match s7 st a b with
 |some c=>.ok (.bool c) st
 |none=>.bad
def mG:PV->PV->M PV:=λa b st=>match s7 st a b with
 |some c=>.ok (.bool (!c)) st
 |none=>.bad
def fA:CmpOp->PV->PV->M PV
 |.Eq=>MF
 |.NotEq=>Nx
 |.Lt=>rH λa b=>decide (a<b)
 |.LtE=>rH λa b=>decide (a<=b)
 |.Gt=>rH λa b=>decide (a>b)
 |.GtE=>rH λa b=>decide (a>=b)
 |.Is=>vc
 |.IsNot=>mD
 |.In=>Ip
 |.NotIn=>mG
noncomputable def QJ(k:Int):Value->Bool
 |.int a _=>a==k
 |_=>aj
noncomputable def xR(k:List UInt8):Value->Bool
 |.bytes a _=>a.toList==k
 |_=>aj
section
variable{C:Cx}{rel:eS->Heap->β->α->Prop}
open PySem.SeqAt
theorem SR(hu:C.A.units+64<cLine):ki w H0 C (compareOp .Eq) MF:=by
 intro ρ st s x y X Y I a b Q E p;unfold MF at p;cases e:kA st.hp 40 x y with
 |none=>rw[e] at p;exact p.elim
 |some c=>
  rw[e] at p;obtain⟨_,h1,_⟩:=zh I 40 (A:=C.A) a b (by lia) e;exact h1 _ w E Q (p ρ _ s.heap s.toks I (.refl ..) rfl)
theorem SV(hu:C.A.units+64<cLine):ki w H0 C (compareOp .NotEq) Nx:=by
 intro ρ st s x y X Y I a b Q E p;unfold Nx at p;cases e:kA st.hp 40 x y with
 |none=>rw[e] at p;exact p.elim
 |some c=>
  rw[e] at p;obtain⟨_,_,h1⟩:=zh I 40 (A:=C.A) a b (by lia) e;exact h1 _ w E Q (p ρ _ s.heap s.toks I (.refl ..) rfl)
theorem has_any{f:List PV->Option Bool}{g:Value->Bool}{D:Value->Prop}(h0:f []=some aj)(h1:∀p l b V,a7 ρ h p V->f (p::l)=some b->D V/\∃z,f l=some z/\(g V||z)=b):∀{vs:List Value} {b:Bool},aR ρ h l vs->f l=some b->vs.any g=b/\∀V∈vs,D V:=by
 induction l with
 |nil=>intro vs b r e;rw[show vs=[] from r,<-ao (h0.symm.trans e)];exact⟨rfl,λ_ h=>nomatch h⟩
 |cons p l ih=>
  intro vs b ⟨V,u,e1,r1,r2⟩ e;obtain⟨d,z,ez,e⟩:=h1 _ _ _ _ r1 e;rw[e1,jF,(ih r2 ez).1,e];exact⟨rfl,dN.mpr ⟨d,(ih r2 ez).2⟩⟩
theorem yb{k:Int}{b:Bool}:aR ρ h l vs->rC k l=some b->vs.any (QJ k)=b/\∀V∈vs,∃a t,V=.int a t:=
 has_any rfl λp l b V r e=>by
  cases p with
  |int a=>
   obtain⟨t,rfl⟩:=r;exact⟨⟨_,_,rfl⟩,aS.mp e⟩
  |_=>exact nS e
theorem uZ{k:List UInt8}{b:Bool}:aR ρ h l vs->kQ k l=some b->vs.any (xR k)=b/\∀V∈vs,∃a t,V=.bytes (iV a) t:=
 has_any rfl λp l b V r e=>by
  cases p with
  |bytes a=>
   obtain⟨t,rfl⟩:=r;exact⟨⟨_,_,rfl⟩,aS.mp e⟩
  |_=>exact nS e
theorem tY{K A B:Type}{P:List (K×A)->List (K×B)->Prop}(h0:P [] [])(h1:∀k a b l m,m.map (·.1)=l.map (·.1)->P l m->P ((k,a)::l) ((k,b)::m)):∀{l:List (K×A)} {m:List (K×B)},m.map (·.1)=l.map (·.1)->P l m:=by
 intro l;induction l with
 |nil=>intro m e;cases m with
  |nil=>exact h0
  |cons=>cases e
 |cons a l ih=>intro m e;cases m with
  |nil=>cases e
  |cons b m=>
   obtain⟨k,a⟩:=a;obtain⟨k',b⟩:=b;obtain⟨e1,e2⟩:=cF e;obtain rfl:k'=k:=e1;exact h1 _ _ _ _ _ e2 (ih e2)
theorem BQ{K:Type}[DecidableEq K]{k:K}{l:List (K×PV)}{kvs:List (K×Value)}(e:kvs.map (·.1)=l.map (·.1)):(valueAt kvs k).isSome=(gK l k).isSome:=by
 refine tY (P:=λl kvs=>(valueAt kvs k).isSome=(gK l k).isSome) rfl (λx _ _ l m _ ih=>?_) e;unfold gK valueAt at ih⊢;simp only[sC,sC];cases decide (x=k)
 ·exact ih
 ·rfl
def LW(w:World)(A:e_)(s:aH)(X Y:Value)(c:Bool):Prop:=∀(Q:Value->aH->Prop) (E:Value->aH->Prop),((∀tk,Q (.bool c) {s with toks:=tk})->wpAny (model pw w) A (compareOp .In X Y) Q E s)/\((∀tk,Q (.bool (!c)) {s with toks:=tk})->wpAny (model pw w) A (compareOp .NotIn X Y) Q E s)
theorem zq{X:Value}{f:Value->Bool}{c:Bool}(b:a7 ρ s.heap (.tup l) Y)(h:∀vs,aR ρ s.heap l vs->vs.any f=c/\∀V∈vs,EqAt A.in1 s V X (f V)):LW w A s X Y c:=by
 refine gg λG k_=>?_
 obtain⟨ta,oa,va,na,rfl,ea,ca,da,ra⟩:=b;refine k_ ?_;obtain⟨h1,h2⟩:=h _ ra;have ht:s.heap.IsTuple ta va:=⟨oa,ea,ca,na,da⟩;have he:∀y,y∈va->EqAt A.in1 s y X (f y):=λy hy=>h2 y (Array.mem_toList_iff.mpr hy)
 rw[hM] at h1;simp only[<-h1];exactλ_ _=>⟨λq=>in_tupleAt f ht he (q s.toks),λq=>notIn_tupleAt f ht he (q s.toks)⟩
theorem has_dict{X:Value}{k:List UInt8}{l:List (List UInt8×PV)}(I:Inv w H0 C ρ st s.heap)(a:a7 ρ s.heap (.bytes k) X)(b:a7 ρ s.heap (.ref i) Y)(hi:st.hp[i]?=some (.cN l)):LW w A s X Y (gK l k).isSome:=by
 obtain⟨t,rfl⟩:=a;obtain⟨ad,d,rfl,hr⟩:=b;refine gg λG k_=>?_
 obtain⟨a',d',gz,e,kvs,⟨hd,lo⟩,hk,r⟩:=I.objs i _ hi;refine k_ ?_;obtain⟨rfl,rfl⟩:=i9 (ao (hr.symm.trans gz));have Yx:(bytesKind pw w).is k (.bytes k.toArray t)=ah:=by simp[bytesKind,isBytes]
 exact(BQ (k:=k) hk)▸λ_ _=>⟨λq=>wpAny_in_of Yx lo hd.mapOf (q _),λq=>wpAny_notIn_of Yx lo hd.mapOf (q _)⟩
theorem Ef{x y:PV}{X:Value}{c:Bool}(I:Inv w H0 C ρ st s.heap)(a:a7 ρ s.heap x X)(b:a7 ρ s.heap y Y)(e:s7 st x y=some c):LW w A s X Y c:=by
 cases x with
 |int k=>
  cases y with
  |tup l=>
   obtain⟨t,rfl⟩:=a;exact zq (f:=QJ k) b λvs r=>(yb r e).imp id λh V hV=>by
    obtain⟨i,u,rfl⟩:=h V hV;exact EqAt.int_int _ _ _ _
  |_=>exact nS e
 |bytes k=>
  cases y with
  |tup l=>
   obtain⟨t,rfl⟩:=a;exact zq (f:=xR k) b λvs r=>(uZ r e).imp id λh V hV=>by
    obtain⟨i,u,rfl⟩:=h V hV;simp only[show xR k (.bytes i.toArray u)=(i==k) from rfl];exact EqAt.pz
  |ref i=>
   change(match st.hp[i]?with|some (.cN l)=>some (gK l k).isSome|_=>none)=some c at e;cases hi:st.hp[i]?with
   |none=>rw[hi] at e;exact nS e
   |some o=>
    rw[hi] at e;cases o with
    |cN l=>rw[<-ao e];exact has_dict I a b hi
    |_=>exact nS e
  |_=>exact nS e
 |_=>exact nS e
theorem XE:ki w H0 C (compareOp .In) Ip:=by
 intro ρ st s x y X Y I a b Q E p;unfold Ip at p;cases e:s7 st x y with
 |none=>rw[e] at p;exact p.elim
 |some c=>rw[e] at p;exact(Ef I a b e _ _).1 λtk=>p ρ _ s.heap tk I (.refl ..) rfl
theorem I7:ki w H0 C (compareOp .NotIn) mG:=by
 intro ρ st s x y X Y I a b Q E p;unfold mG at p;cases e:s7 st x y with
 |none=>rw[e] at p;exact p.elim
 |some c=>rw[e] at p;exact(Ef I a b e _ _).2 λtk=>p ρ _ s.heap tk I (.refl ..) rfl
theorem tW(hu:C.A.units+64<cLine):∀op:CmpOp,ki w H0 C (compareOp op) (fA op)
 |.Eq=>SR hu
 |.NotEq=>SV hu
 |.Lt=>XH
 |.LtE=>XG
 |.Gt=>XD
 |.GtE=>XC
 |.Is=>XF
 |.IsNot=>I6
 |.In=>XE
 |.NotIn=>I7
noncomputable def YJ(l:List PV)(k:Int):List PV:=(dO k.toNat l).flatten
def BC:PV->PV->M PV:=λa b st=>match a,b with
 |.int x,.int y=>Nh (.int x) (.int y) st
 |.ref i,.int k=>match st.hp[i]?with
  |some (.list l)=>if k=0 then oO [] st else if k=1 then(if sz l.length then oO l st else .bad) else .bad
  |_=>.bad
 |_,_=>.bad
def iP:sN->PV->PV->M PV
 |.Add=>wD
 |.Sub=>RF (·-·)
 |.Mult=>BC
 |.Mod=>imod
 |.FloorDiv=>ifloordiv
 |_=>λ_ _=>M.bad
theorem E1{ad:Addr}{k:Int}{u:Tok}{vs:Array Value}{A:e_}{E:Value->aH->Prop}(el:s.heap.get? ad=some {cls:=.type "list",data:=.seq us n})(e:TX (λx1 x2=>x1++x2) #[] (dO (if us.isEmpty=ah then 0 else k.toNat) us)=vs)(M9:-(2^63:Int)<=k)(Pd:k<2^63)(hsz:us.size*k.toNat<=2^24)(q:Q (.ref s.heap.objs.size) {s with heap:=s.heap.push {cls:=.type "list",data:=.seq vs}}):
 wpAny (model pw w) A (binaryOp .Mult (.ref ad) (.int k u)) Q E s:=by
 subst e;exact wpAny_binaryOp_repeat_ref (T:="list") (U:="int") (by decide) ⟨_,el,rfl⟩ (λs'=>typeIs_int s' k u) noFill_list_mul F.fills_int_mul O1 repeat_list F.slot_int_index.lookup
  (xo O1 (typeIs_int s k u) F.entry_int_rmul (F.args_int_rmul_2 _ _) (int___rmul___int_list k u ad us n)
   ⟨el,rfl,⟨_,el,rfl⟩,xo F.slot_list_mul ⟨_,el,rfl⟩ F.entry_list_mul (F.args_list_mul_2 _ _)
    (AutoListH.list___mul___list_int_3 ad us n k u (by rw[show T9 k=ah from fQ.mpr ⟨decide_eq_true M9,decide_eq_true Pd⟩];decide) (b0.mpr (ai hsz (by decide))) (λz=>absurd (of_decide_eq_true z) (b0.mpr hsz))) ⟨el,q⟩⟩)
theorem mulR(I:Inv w H0 C ρ st s.heap){k:Int}{X:Value}(a:a7 ρ s.heap (.ref i) X)(b:a7 ρ s.heap (.int k) Y):aG w H0 C cv ρ st s (binaryOp .Mult X Y) (BC (.ref i) (.int k)):=by
 intro Q E p;obtain⟨u,rfl⟩:=b;unfold BC at p;dsimp only at p;cases hi:st.hp[i]?with
 |none=>rw[hi] at p;exact p.elim
 |some o=>
  rw[hi] at p;cases o with
  |list l=>
   dsimp only at p;obtain⟨ad,d,rfl,hr⟩:=a;refine gg λG k_=>?_
   obtain⟨a',d',gz,e,us,n,el,r⟩:=I.objs i _ hi;refine k_ ?_;obtain⟨rfl,_⟩:=i9 (ao (hr.symm.trans gz));by_cases k0:k=0
   ·rw[if_pos k0] at p;exact k0.symm▸E1 (vs:=#[]) el (by simp) (by decide) (by decide) (df _) (lJ I (show aR ρ s.heap [] _ from rfl) rfl p)
   ·rw[if_neg k0] at p;by_cases k1:k=1
    ·rw[if_pos k1] at p;rw[k1];by_cases q:sz l.length=ah
     ·rw[if_pos q] at p;refine E1 (vs:=us) el ?_ (by decide) (by decide) ?_ (lJ I r q p)
      ·by_cases em:us.isEmpty=ah
       ·rw[if_pos em];exact(Array.isEmpty_iff.mp em).symm
       ·rw[if_neg em];simp
      ·rw[show us.size=l.length from r.length];exact ai (bI (Nat.mul_one _)) (of_decide_eq_true q)
     ·rw[if_neg q] at p;exact p.elim
    ·rw[if_neg k1] at p;exact p.elim
  |_=>exact p.elim
theorem NK:ki w H0 C (binaryOp .Mult) BC:=by
 intro ρ st s x y X Y I a b;cases x with
 |int=>
  cases y with
  |int=>exact SU ρ st s _ _ X Y I a b
  |_=>exactλ_ _ p=>p.elim
 |ref=>
  cases y with
  |int=>exact mulR I a b
  |_=>exactλ_ _ p=>p.elim
 |_=>exactλ_ _ p=>p.elim
theorem SQ:∀op:sN,ki w H0 C (binaryOp op) (iP op)
 |.Add=>NJ
 |.Sub=>SW
 |.Mult=>NK
 |.Mod=>SS
 |.FloorDiv=>yy
 |.MatMult=>λ_ _ _ _ _ _ _ _ _ _ _ _ p=>p.elim
 |.Div=>λ_ _ _ _ _ _ _ _ _ _ _ _ p=>p.elim
 |.Pow=>λ_ _ _ _ _ _ _ _ _ _ _ _ p=>p.elim
 |.LShift=>λ_ _ _ _ _ _ _ _ _ _ _ _ p=>p.elim
 |.RShift=>λ_ _ _ _ _ _ _ _ _ _ _ _ p=>p.elim
 |.BitOr=>λ_ _ _ _ _ _ _ _ _ _ _ _ p=>p.elim
 |.BitXor=>λ_ _ _ _ _ _ _ _ _ _ _ _ p=>p.elim
 |.BitAnd=>λ_ _ _ _ _ _ _ _ _ _ _ _ p=>p.elim
end
def jb{K:Type}[DecidableEq K](acc more:List (K×PV)):List (K×PV):=more.foldl (λacc kv=>cV acc kv.1 kv.2) acc
set_option backward.match.sparseCases false in
noncomputable def m4:Expr->Option (Const×Nat×Pos)
 |.Constant a b p=>some (a,b,p)
 |_=>none
theorem jM{x:Const×Nat×Pos}(h:m4 e=some x):e=.Constant x.1 x.2.1 x.2.2:=by
 cases e<;>first|exact nS h|exact congrArg (λx:_×_×_=>Expr.Constant x.1 x.2.1 x.2.2) (ao h)
noncomputable def Qe:Const->Option (List UInt8)
 |.bytes b=>some b
 |_=>none
theorem AK{v:Const}{b:List UInt8}(h:Qe v=some b):v=.bytes b:=by
 cases v<;>first|exact nS h|exact congrArg Const.bytes (ao h)
def Mc(k:Option Expr):Option (List UInt8):=k.bind λe=>(m4 e).bind λx=>Qe x.1
def qJ:List (Option Expr)->Option (List (List UInt8))
 |[]=>some []
 |k::ks=>(Mc k).bind λb=>(qJ ks).map (b::·)
theorem AM{k:Option Expr}{b:List UInt8}(h:Mc k=some b):∃c p,k=some (.Constant (.bytes b) c p):=by
 cases k with
 |none=>exact nS h
 |some e=>
  obtain⟨x,h1,h⟩:=aD.mp (show(m4 e).bind _=some b from h);exact⟨x.2.1,x.2.2,by rw[jM h1,AK h]⟩
theorem tI{k:Option Expr}{ks:List (Option Expr)}(e:qJ (k::ks)=some bs):∃b c p Km,k=some (.Constant (.bytes b) c p)/\qJ ks=some Km/\bs=b::Km:=by
 refine gg λG k_=>?_
 obtain⟨b,h1,h2⟩:=aD.mp (show(Mc k).bind _=some bs from e);refine k_ ?_;obtain⟨c,p,h⟩:=AM h1;obtain⟨Km,e1,e2⟩:=aS.mp h2;exact⟨b,c,p,Km,h,e1,e2.symm⟩
noncomputable def newD:M PV:=λst=>.ok (.ref st.hp.length) {st with hp:=st.hp++[.dict []]}
def pB(bs:List (List UInt8))(m:M (List PV)):M PV:=λst=>match m {st with hp:=st.hp++[.cN []]} with
 |.ok vs st'=>if vs.length=bs.length then(match st'.hp[st.hp.length]?with
  |some (.cN [])=>.ok (.ref st.hp.length) {st' with hp:=st'.hp.set st.hp.length (.cN (jb [] (bs.zip vs)))}
  |_=>.bad) else .bad
 |.exc n st'=>.exc n st'
 |.bad=>.bad
section
variable{C:Cx}{rel:eS->Heap->β->α->Prop}
theorem Inv.oP(B:Base w H0)(I:Inv w H0 C ρ st h):(h.objs.size==sysModules)=aj:=by
 have:=modules_low (B.lim.keeps I.old);exact beq_eq_false_iff_ne.mpr (cO this)
theorem bj.HV(B:Base w H0):bj w H0 C (.Dict [] [] pos) newD:=by
 intro ρ st s I Q E p;refine wpAny_Dict_empty ?_;obtain⟨I',X'⟩:=I.new (a:=s.heap.objs.size) (d:=none) (o:=.dict []) (h':=s.heap.push {cls:=.type "dict",data:=.dict #[]}) (λ_ _ e=>az _ e) ⟨aC _,jk (aO _) (a9 ..).symm⟩ (λ_ e=>nomatch e)
  ⟨rfl,[],⟨jr s.heap,I.oP B⟩,rfl,rfl⟩
 exact p _ _ _ s.toks I' X' ⟨s.heap.objs.size,none,rfl,by rw[<-I.len];simp⟩
theorem rQ{K:Type}[DecidableEq K](more:List (K×PV)):∀{mv:List (K×Value)} {l:List (K×PV)} {kvs:List (K×Value)},kvs.map (·.1)=l.map (·.1)->aR ρ h (l.map (·.2)) (kvs.map (·.2))->mv.map (·.1)=more.map (·.1)->aR ρ h (more.map (·.2)) (mv.map (·.2))->
 (merged kvs mv).map (·.1)=(jb l more).map (·.1)/\aR ρ h ((jb l more).map (·.2)) ((merged kvs mv).map (·.2)):=by
 induction more with
 |nil=>
  intro mv l kvs e r em rm;obtain rfl:=mM.mp em;exact⟨e,r⟩
 |cons x more ih=>
  intro mv l kvs e r em rm;cases mv with
  |nil=>cases em
  |cons y mv=>
   refine gg λG k_=>?_
   obtain⟨U,u,eu,r1,r2⟩:=rm;refine k_ ?_;have Yk:y.1=x.1:=(cF em).1;have ZF:y.2=U:=(cF eu).1;exact ih (l:=cV l x.1 x.2) (kvs:=stored kvs y.1 y.2) (Yk.symm▸k8 e) (Yk.symm▸k9 (ZF.symm▸r1) e r) (cF em).2 ((cF eu).2.symm▸r2)
def xU(f:Expr->M PV):List Expr->M (List PV)
 |[]=>pure []
 |e::es=>do
  let v<-f e
  let vs<-xU f es
  pure (v::vs)
theorem f_.all{f:Expr->M PV}(hf:∀e,bj w H0 C e (f e)):∀es:List Expr,es.all notStar=ah->f_ w H0 C es (xU f es)
 |[],_=>.nil
 |e::es,h=>by
  simp only[dJ,aI] at h;exact .cons h.1 (hf e) (f_.all hf es h.2)
abbrev Jh(bs:List (List UInt8)):eS->Heap->List PV->List (Value×Value)->Prop:=λρ h b a=>b.length=bs.length/\∃kvs,Carries (bytesKind pw w) a kvs/\kvs.map (·.1)=bs/\aR ρ h b (kvs.map (·.2))
theorem BO{f:Expr->M PV}(hf:∀e,bj w H0 C e (f e))(keys:List (Option Expr)):∀{values:List Expr} {bs:List (List UInt8)},qJ keys=some bs->keys.length=values.length->
 c_ w H0 C (Jh (w:=w) bs) (evalPairs (pairTrees keys values C.env pos)) (xU f values):=by
 induction keys with
 |nil=>
  intro values bs e hl;cases e
  cases values with
  |nil=>exactλρ st s I=>.pure I ⟨rfl,[],trivial,rfl,rfl⟩
  |cons=>cases hl
 |cons k keys ih=>
  intro values bs e hl;obtain⟨b,c,p,Km,rfl,e',rfl⟩:=tI e;cases values with
  |nil=>cases hl
  |cons v values=>
  clear e;have ih:=ih e' (tu hl);clear e' hl;intro ρ st s I;have et:evalPairs (pairTrees (some (.Constant (.bytes b) c p)::keys) (v::values) C.env pos)=(eval (.Constant (.bytes b) c p) C.env>>=λK=>holding [K] (do let x<-eval v C.env;standAt pos;pure x)>>=λV=>holding [K,V] (evalPairs (pairTrees keys values C.env pos))>>=λr=>pure ((K,V)::r)):=by
   simp only[pairTrees,evalPairs]
  simp only[et];intro Q E lY;refine ag (O6 ?_);have XK:dI w H0 C (Jh (w:=w) (b::Km)) ρ {s with heap:=s.heap,toks:=s.toks+1} ((f v>>=λv=>xU f values>>=λvs=>pure (v::vs)) st) Q E:=lY.later (.refl ..);refine aG.bind (rel:=cv) (rel':=Jh (w:=w) (b::Km)) (s:={s with heap:=s.heap,toks:=s.toks+1}) (st:=st) (ρ:=ρ) (m:=f v) (g:=λv=>xU f values>>=λvs=>pure (v::vs)) (.holding ?_) (λc8 cQ dc ew x V dg dS rv=>?_) Q E XK
  ·intro Q E q;refine ag (hf v ρ st {s with heap:=s.heap,toks:=s.toks+1} I _ _ ?_);revert q;cases f v st with
   |bad=>exactλq=>q
   |exc=>exactλq=>q
   |ok a cQ=>exactλq d9 a' h' fJ I' X' r'=>ag (c9 (aE (q d9 a' h' fJ I' X' r')))
  refine aG.bind (rel:=Jh (w:=w) Km) (.holding (ih c8 cQ {s with heap:=dc,toks:=ew} dg)) λjg jf h₃ lq vs Vs fD gV rr=>?_
  refine gg λG k_=>?_
  obtain⟨r1,kvs,r2,r3,r4⟩:=rr;refine k_ ?_;exact .pure fD ⟨by simp[r1],(b,V)::kvs,⟨by simp[bytesKind,isBytes],rfl,r2⟩,by simp[r3],V,_,rfl,a7.ext dg gV _ _ rv,r4⟩
theorem bj.A_{f:Expr->M PV}(B:Base w H0)(hf:∀e,bj w H0 C e (f e)){keys:List (Option Expr)}{values:List Expr}(hb:qJ keys=some bs)(hl:keys.length=values.length)(h0:keys≠[])(hn:keys.length<=15):
 bj w H0 C (.Dict keys values pos) (pB bs (xU f values)):=by
 intro ρ st s I Q E p;have Ee:keys.all (·.isSome)=ah:=by
  clear hl hn h0 p;induction keys generalizing bs with
  |nil=>rfl
  |cons k ks ih=>
   refine gg λG k_=>?_
   obtain⟨_,_,_,_,rfl,e1,_⟩:=tI hb;refine k_ ?_;exact ih e1
 refine wpAny_Dict_walk (knd:=bytesKind pw w) Ee hl h0 hn ?_;obtain⟨I',X'⟩:=I.new (a:=s.heap.objs.size) (d:=none) (o:=.cN []) (h':=s.heap.push {cls:=.type "dict",data:=.dict #[]}) (λ_ _ e=>az _ e) ⟨aC _,jk (aO _) (a9 ..).symm⟩ (λ_ e=>nomatch e)
  ⟨rfl,[],⟨jr s.heap,I.oP B⟩,rfl,rfl⟩
 have hr:(ρ++[(s.heap.objs.size,none)])[st.hp.length]?=some (s.heap.objs.size,none):=by rw[<-I.len];simp
 refine BO hf _ hb hl _ _ {s with heap:=s.heap.push {cls:=.type "dict",data:=.dict #[]}} I' _ _ ?_;unfold pB at p;revert p;cases hm:xU f values {st with hp:=st.hp++[.cN []]} with
 |bad=>exactλp=>p
 |exc n aV=>exactλp d9 e h' fJ bK d8 F=>p d9 e h' fJ bK (X'.trans d8) (F.tU X'.size)
 |ok vs aV=>
  intro p;dsimp only at p;by_cases hlen:vs.length=bs.length
  ·rw[if_pos hlen] at p;intro bC Vs bo b8 bK d8 rr;refine gg λG k_=>?_
   obtain⟨_,kvs,c,e,r⟩:=rr;refine k_ ?_;cases hi:aV.hp[st.hp.length]?with
   |none=>rw[hi] at p;exact p.elim
   |some o=>
    rw[hi] at p;have Ep:=jc d8.pre hr;cases o<;>first|exact p.elim|skip
    rename_i l;cases l<;>first|exact p.elim|skip
    refine gg λG k_=>?_
    obtain⟨a,d,gz,rfl,Î,⟨hd,lo⟩,hk,r0⟩:=bK.objs _ _ hi;refine k_ ?_;rw[Ep] at gz;cases gz;obtain rfl:Î=[]:=by simpa using hk
    refine⟨kvs,c,hd,λdc rE gE=>?_⟩;refine gg λG k_=>?_
    obtain⟨o2,V9,ą,g2,c2,d2,_⟩:=id rE;refine k_ ?_;have em:(bs.zip vs).map (·.1)=bs:=by rw[GS (by lia)]
    have ZA:(bs.zip vs).map (·.2)=vs:=by rw[List.map_snd_zip (by lia)]
    have mr:=λh r=>rQ (h:=h) (ρ:=bC) (bs.zip vs) (mv:=kvs) (l:=[]) (kvs:=[]) rfl rfl (by simp only[em,e]) (by rw[ZA];exact r)
    obtain⟨dg,dS⟩:=bK.put (x:=s.heap.objs.size) (h':=dc) (o':=.cN (jb [] (bs.zip vs))) Ep (.inl rfl) (λb hb=>gE.2 b hb) gE.1 ⟨o2,g2,by rw[c2.1];simp⟩ λm1 m2=>⟨rfl,_,⟨rE,lo⟩,(mr _ (m2 _ _ r)).1,(mr _ (m2 _ _ r)).2⟩
    exact p bC _ dc _ dg (X'.trans (d8.trans dS)) ⟨_,_,rfl,Ep⟩
  ·rw[if_neg hlen] at p;exact p.elim
end
def fG:PV->M PV:=λv st=>match v with
 |.ref i=>match st.hp[i]?with
  |some (.dict l)=>if sz l.length&&l.all (λkv=>dh kv.2) then .ok (.ref st.hp.length) {st with hp:=st.hp++[.dict (l.filter λkv=>!isNone kv.2)]} else .bad
  |_=>.bad
 |_=>.bad
theorem stored_new{K:Type}[DecidableEq K]{acc:List (K×Value)}{k:K}{v:Value}(h:k∉acc.map (·.1)):stored acc k v=acc++[(k,v)]:=by
 unfold stored;rw[if_neg];intro q;obtain⟨x,hx,e⟩:=GN.mp q;exact h (bD.mpr ⟨x,hx,by simpa using e⟩)
noncomputable def dZ(kv:Str×Value):Bool:=!(kv.2==bT)
theorem w6(hn:(kvs.map (·.1)).Nodup){k:Str}{v:Value}(hx:kvs[j]?=some (k,v))(hv:dZ (k,v)=ah):stored ((kvs.take j).filter dZ) k v=(kvs.take (j+1)).filter dZ:=by
 have Wq:k∉((kvs.take j).filter dZ).map (·.1):=by
  intro hm;obtain⟨x,Wz,e⟩:=bD.mp hm;have WA:=(Hb.mp Wz).1;obtain⟨i,hi,ei⟩:=Ao WA;have Uz:i<j:=aB hi (Aq _ _);have g1:(kvs.map (·.1))[i]?=some k:=by
   rw[cE];have:kvs[i]?=some x:=by
    have z:=bp hi;rw[ei,List.getElem?_take_of_lt Uz] at z;exact z
   simp only[this,<-e];rfl
  have g2:(kvs.map (·.1))[j]?=some k:=by rw[cE,hx];rfl
  have pX:i<(kvs.map (·.1)).length:=(ak.mp g1).1;have:=(Cz pX hn).mp (g1.trans g2.symm);exact aL Uz this
 simp only[stored_new Wq,pe,hx,Cd];simp[hv]
section
variable{C:Cx}{rel:eS->Heap->β->α->Prop}
theorem x6{l:List (Str×PV)}(e:kvs.map (·.1)=l.map (·.1)):aR ρ h (l.map (·.2)) (kvs.map (·.2))->l.all (λkv=>dh kv.2)=ah->
 (kvs.filter dZ).map (·.1)=(l.filter λkv=>!isNone kv.2).map (·.1)/\aR ρ h ((l.filter λkv=>!isNone kv.2).map (·.2)) ((kvs.filter dZ).map (·.2)):=by
 refine tY (P:=λl kvs=>aR ρ h (l.map (·.2)) (kvs.map (·.2))->l.all (λkv=>dh kv.2)=ah->(kvs.filter dZ).map (·.1)=(l.filter λkv=>!isNone kv.2).map (·.1)/\aR ρ h ((l.filter λkv=>!isNone kv.2).map (·.2)) ((kvs.filter dZ).map (·.2))) (λ_ _=>⟨rfl,rfl⟩) (λk v V l m _ ih r ha=>?_) e;refine gg λG k_=>?_
 obtain⟨U,u,eu,r1,r2⟩:=r;refine k_ ?_;obtain⟨eU,ZE⟩:V=U/\m.map (·.2)=u:=cF eu;have r1:a7 ρ h v V:=eU▸r1;simp only[dJ,aI] at ha;have ih:=ih (ZE▸r2) ha.2;rw[jY,jY,show dZ (k,V)=!isNone v from congrArg Bool.not (a7.isNone r1 ha.1)];cases isNone v
 ·exact⟨congrArg (k::·) ih.1,V,_,rfl,r1,ih.2⟩
 ·exact ih
theorem D'{P:R β->Prop}(hb:P .bad->False){f:PV->M β}(p:P ((af i>>=f) st)):∃v,st.loc[i]?=some (some v)/\P (f v st):=by
 dsimp only[M.b6] at p;unfold af at p;cases he:st.loc[i]?with
 |none=>rw[he] at p;exact(hb p).elim
 |some ov=>
  rw[he] at p;cases ov with
  |none=>exact(hb p).elim
  |some v=>exact⟨v,rfl,p⟩
inductive X7(st:St)(P:R PV->Prop):PV->Prop
 |mk (j:Nat) (l:List (Str×PV)) (hj:st.hp[j]?=some (.dict l)) (hz:sz l.length=ah) (hk:l.all (λkv=>dh kv.2)=ah) (p:P (.ok (.ref st.hp.length) {st with hp:=st.hp++[.dict (l.filter λkv=>!isNone kv.2)]})):X7 st P (.ref j)
theorem HU{P:R PV->Prop}(hb:P .bad->False)(p:P (fG v st)):X7 st P v:=by
 cases v with
 |ref j=>
  unfold fG at p;dsimp only at p;cases hj:st.hp[j]?with
  |none=>rw[hj] at p;exact(hb p).elim
  |some o=>
   rw[hj] at p;cases o with
   |dict l=>
    by_cases q:(sz l.length&&l.all (λkv=>dh kv.2))=ah
    ·have e:=fQ.mp q;exact .mk j l hj e.1 e.2 (by have p:=p;dsimp only at p;rw[if_pos q] at p;exact p)
    ·dsimp only at p;rw[if_neg q] at p;exact(hb p).elim
   |_=>exact(hb p).elim
 |_=>exact(hb p).elim
structure LS(C:Cx)(env:Env)(k f:Str)(fc L:Addr):Prop where
 UH:env.kindOf k=some .local
 YG:env.kindOf f=some .cell
 cf:env.cells.lookup f=some fc
 Q1:env.scope.kind=.function
 loc:env.locals=L
 hd:(k==("__debug__":Str))=aj
 hd2:(f==("__debug__":Str))=aj
theorem LS.of(K:C.Ok){k f:Str}{fc:Addr}(F:ik scope k [f])(Ej:C.env.kindOf f=some .cell)(Ek:C.env.cells.lookup f=some fc)(hd:(k==("__debug__":Str))=aj)(hd2:(f==("__debug__":Str))=aj):LS C (compEnvC scope (xN C.env scope.names []) L C.env) k f fc L where
 UH:=by
  show(relabel scope C.env).names.lookup k=_;unfold relabel;simp only[fI,F.lx];rfl
 YG:=by
  show(relabel scope C.env).names.lookup f=_;unfold relabel;simp only[fI,F.fr f (.head _)];simp[K.fn,Ej]
 cf:=qR C.env scope.names [] _ fc F.sn (.inl ⟨F.fr f (.head _),Ek⟩)
 Q1:=F.fn
 loc:=rfl
 hd:=hd
 hd2:=hd2
theorem kI{it ad ep:Nat}(x:h.IsKeyIter it ad j n ep)(k:∀o,h.get? it=some o->h'.get? it=some o):h'.IsKeyIter it ad j n ep:=let⟨o,e,r⟩:=x;⟨o,k o e,r⟩
theorem kN{m:Str->Option Value}(x:h.Ns a m)(k:∀o,h.get? a=some o->h'.get? a=some o):h'.Ns a m:=let⟨o,es,ep,e,r⟩:=x;⟨o,es,ep,k o e,r⟩
inductive DI(w:World)(s:aH)(ad:Addr)(kvs:List (Str×Value))(ep:Nat):Nat->aH->Prop
 |mk (h:Heap) (tk j:Nat) (m:Str->Option Value) (hj:j<=kvs.length) (hit:h.IsKeyIter s.heap.objs.size ad j kvs.length ep) (kp:∀b o,s.heap.get? b=some o->h.get? b=some o) (Ih:h.Ns (s.heap.objs.size+2) m) (hD:h.DictOf (strKind pw w) (s.heap.objs.size+1) ((kvs.take j).filter dZ)):
  DI w s ad kvs ep (kvs.length+1-j) {s with heap:=h,toks:=tk}
def Turn(w:World)(A:e_)(env:Env)(target kx vx:Expr)(ifs:List Expr)(D:Addr)(R:n8->aH->Prop)(I:Nat->aH->Prop)(it:Value)(n:Nat)(s:aH):Prop:=
 wpAny (model pw w) A (pyNext it) (λr cH=>match r with
  |none=>R (.ok .next) cH
  |some v=>wpAny (model pw w) A (assign target env v) (λ_ Ge=>
   wpAny (model pw w) A (forIn ifs ah λc r=>if r=ah then do let ok<-isTrue c env (eval c env);pure (dj ok) else pure (dj r)) (λok yK=>
    if ok=ah then wpAny (model pw w) A (eval kx env) (λkv Oo=>wpAny (model pw w) A (eval vx env) (λvv Oq=>
     wpAny (model pw w) A (dictSet D kv vv) (λ_ XY=>∃m,m<n/\I m XY) (notedBy (model pw w) A env λe s'=>R (.error e) s') Oq) (notedBy (model pw w) A env λe s'=>R (.error e) s') Oo) (notedBy (model pw w) A env λe s'=>R (.error e) s') yK
    else∃m,m<n/\I m yK) (notedBy (model pw w) A env λe s'=>R (.error e) s') Ge) (notedBy (model pw w) A env λe s'=>R (.error e) s') cH) (notedBy (model pw w) A env λe s'=>R (.error e) s') s
section
variable{k f kk:Str}{fc ad:Addr}{ep tk:Nat}{m:Str->Option Value}{key vv:Value}{p2 p3 p4 p6 p7 p8 px p1 p9 Fn:Pos}{c:Nat}{R:n8->aH->Prop}
theorem Du(D:LS C env k f fc L)(Ih:h.Ns L m)(hm:m k=some key)(cell:h.IsCell fc (some (.ref ad)))(sG:h.DictAt (strKind pw w) ad kvs ep)(Eo:(strKind pw w).is kk key=ah)(Il:valueAt kvs kk=some vv)(q:Q vv {s with heap:=h,toks:=tk+1}):wpAny (model pw w) A (eval (.Subscript (.Name f p2) (.Name k p3) p4) env) Q E {s with heap:=h,toks:=tk}:=
 Subscript_ (jK (pP D.Q1 D.YG D.cf cell (jK (gh D.Q1 D.UH (by simp only[D.loc];exact Ih) hm
  (tail_any (T:="dict") sG.dictOf.typeIs slot_dict_getitem.lookup (uq Eo sG.dictOf.mapOf Il q) (lp rfl))) D.hd)) D.hd2)
theorem Mx(hl:kvs.length<=sizeLine)(j:Nat):((kvs.take j).filter dZ).length<=sizeLine:=ai (xh ..) (ai (yV ..) hl)
theorem HO(D:LS C env k f fc (s.heap.objs.size+2))(pC:s.heap.IsCell fc (some (.ref ad)))(sG:s.heap.DictAt (strKind pw w) ad kvs ep)(Yz:(kvs.map (·.1)).Nodup)(hl:kvs.length<=sizeLine)(hit:h.IsKeyIter s.heap.objs.size ad j kvs.length ep)(kp:∀b o,s.heap.get? b=some o->h.get? b=some o)(Ih:h.Ns (s.heap.objs.size+2) m)(hD:h.DictOf (strKind pw w) (s.heap.objs.size+1) ((kvs.take j).filter dZ))
 (hx:kvs[j]?=some (kk,vv)):Turn w A env (.Name k px) (.Name k p1) (.Subscript (.Name f p2) (.Name k p3) p4) [.Compare (.Subscript (.Name f p6) (.Name k p7) p8) [.IsNot] [.Constant .none c p9] Fn] (s.heap.objs.size+1) R (DI w s ad kvs ep) (.ref s.heap.objs.size) (kvs.length+1-j) {s with heap:=h,toks:=tk}:=by
 have YL:s.heap.objs.size≠s.heap.objs.size+1:=aL (aO _);have UJ:s.heap.objs.size≠s.heap.objs.size+2:=aL (de (by decide));have UK:s.heap.objs.size+1≠s.heap.objs.size+2:=aL (aO _);have old:∀{h:Heap} {b:Addr} {o:Obj} (d:Nat),s.heap.get? b=some o->b≠s.heap.objs.size+d:=λd e=>aL (aB (aK e) (aF _ _))
 have pX:j<kvs.length:=(ak.mp hx).1;have cnt:kvs.length+1-(j+1)<kvs.length+1-j:=Nat.sub_succ_lt_self _ _ (fL pX);refine wpAny_pyNext_dict_item (s:={s with heap:=h,toks:=tk}) hit (sG.keep kp) hx λkey dc Eo M7 gE=>?_
 refine O5 (fT D.UH (by simp only[D.loc];exact kN Ih λo e=>(gE.2 _ UJ.symm).trans e) (λh₃ oL nj=>?_) (by rw[D.Q1];rfl));simp only[D.loc] at oL nj;have pH:∀b o,s.heap.get? b=some o->h₃.get? b=some o:=λb o e=>(nj.2 b (old (h:=h) 2 e)).trans ((gE.2 b (old (h:=h) 0 e)).trans (kp b o e))
 have Em:=kI (h':=h₃) M7 λo e=>(nj.2 _ UJ).trans e
 have wh:h₃.DictOf (strKind pw w) (s.heap.objs.size+1) ((kvs.take j).filter dZ):=hD.at λo e=>(nj.2 _ UK).trans ((gE.2 _ YL.symm).trans e)
 have za:h₃.IsCell fc (some (.ref ad)):=let⟨o,e,r⟩:=pC;⟨o,pH _ _ e,r⟩;have Il:=valueAt_of_get Yz hx;have hk:(λy=>if y=k then some key else m y) k=some key:=if_pos rfl;refine wpAny_tests_one (wpAny_isTrue_Compare1 (Du D oL hk za (sG.keep pH) Eo Il (aE (isnot_none_gen (ky ?_)))));by_cases hv:dZ (kk,vv)=ah
 ·simp only[show(!(vv==bT))=ah from hv,if_pos rfl];refine jK (gh (v:=key) D.Q1 D.UH (by rw[D.loc];exact oL) hk (Du D oL hk za (sG.keep pH) Eo Il (J6 Eo wh (λkT Rj Es=>?_) (Mx hl j)))) D.hd;refine⟨_,cnt,.mk kT _ (j+1) _ pX (kI Em λo e=>(Es.2 _ YL).trans e) (λb o e=>(Es.2 b (old (h:=h) 1 e)).trans (pH b o e)) (kN oL λo e=>(Es.2 _ UK.symm).trans e) ?_⟩;simp only[<-w6 Yz hx hv];exact Rj
 ·simp only[GL] at hv;rw[show(!(vv==bT))=aj from hv,if_neg (by decide)];refine⟨_,cnt,.mk h₃ _ (j+1) _ pX Em pH oL ?_⟩;simp only[pe,hx,Cd,show yU dZ (some (kk,vv)).toList=[] from by simp[hv],c5];exact wh
theorem Mw(D:LS C env k f fc (s.heap.objs.size+2))(hA:A.handled=none)(sG:s.heap.DictAt (strKind pw w) ad kvs ep)(hit:h.IsKeyIter s.heap.objs.size ad kvs.length kvs.length ep)(kp:∀b o,s.heap.get? b=some o->h.get? b=some o)(Ih:h.Ns (s.heap.objs.size+2) m)(hD:h.DictOf (strKind pw w) (s.heap.objs.size+1) ((kvs.take kvs.length).filter dZ))
 (q:∀h₃,(∀b o,s.heap.get? b=some o->h₃.get? b=some o)->h₃.DictOf (strKind pw w) (s.heap.objs.size+1) (kvs.filter dZ)->Q (.ref (s.heap.objs.size+1)) {s with heap:=h₃,toks:=tk}):Turn w A env (.Name k px) (.Name k p1) (.Subscript (.Name f p2) (.Name k p3) p4) [.Compare (.Subscript (.Name f p6) (.Name k p7) p8) [.IsNot] [.Constant .none c p9] Fn] (s.heap.objs.size+1) (compPost (model pw w) A E none Q (.ref (s.heap.objs.size+1)) (s.heap.objs.size+2)) (DI w s ad kvs ep) (.ref s.heap.objs.size) (kvs.length+1-kvs.length) {s with heap:=h,toks:=tk}:=by
 have UJ:s.heap.objs.size+2≠s.heap.objs.size:=(aL (de (by decide))).symm;have UK:s.heap.objs.size+1≠s.heap.objs.size+2:=aL (aO _);simp only[j0] at hD;refine wpAny_pyNext_dict_end (s:={s with heap:=h,toks:=tk}) hA hit (sG.keep kp) (dB (aC _)) λdc gE=>⟨m,kN Ih λo e=>gE _ _ UJ e,λh₃ nj=>q h₃ (λb o e=>?_) (hD.at λo e=>(nj.2 _ UK).trans (gE _ _ (Nat.succ_ne_self _) e))⟩
 exact(nj.2 b (aL (aB (aK e) (aF _ _)))).trans (gE b o (aL (aK e)) (kp b o e))
theorem HP(D:LS C env k f fc (s.heap.objs.size+2))(hA:A.handled=none)(pC:s.heap.IsCell fc (some (.ref ad)))(sG:s.heap.DictAt (strKind pw w) ad kvs ep)(hl:kvs.length<=sizeLine)
 (q:∀h₃ tk,(∀b o,s.heap.get? b=some o->h₃.get? b=some o)->h₃.DictOf (strKind pw w) (s.heap.objs.size+1) (kvs.filter dZ)->Q (.ref (s.heap.objs.size+1)) {s with heap:=h₃,toks:=tk}) (n:Nat) (s':aH) (hI:DI w s ad kvs ep n s'):Turn w A env (.Name k px) (.Name k p1) (.Subscript (.Name f p2) (.Name k p3) p4) [.Compare (.Subscript (.Name f p6) (.Name k p7) p8) [.IsNot] [.Constant .none c p9] Fn] (s.heap.objs.size+1) (compPost (model pw w) A E none Q (.ref (s.heap.objs.size+1)) (s.heap.objs.size+2)) (DI w s ad kvs ep) (.ref s.heap.objs.size) n s':=by
 cases hI with
 |mk h tk j m hj hit kp Ih hD=>
  by_cases pX:j<kvs.length
  ·exact HO D pC sG sG.nodup hl hit kp Ih hD (bp pX)
  ·have e:j=kvs.length:=ly hj (kc pX);simp only[e] at hit hD⊢;exact Mw D hA sG hit kp Ih hD λh₃=>q h₃ tk
theorem Bc{p5 pos:Pos}(K:C.Ok)(F:ik scope k [f])(Ej:C.env.kindOf f=some .cell)(Ek:C.env.cells.lookup f=some fc)(hf:∀y∈scope.names,y.2=.free->(C.env.cells.lookup y.1).isSome=ah)(hd:(k==("__debug__":Str))=aj)(hd2:(f==("__debug__":Str))=aj)(pC:s.heap.IsCell fc (some (.ref ad)))(lo:(ad==sysModules)=aj)(sG:s.heap.DictAt (strKind pw w) ad kvs ep)(hl:kvs.length<=sizeLine){E:Value->aH->Prop}
 (q:∀h₃ tk,(∀b o,s.heap.get? b=some o->h₃.get? b=some o)->h₃.DictOf (strKind pw w) (s.heap.objs.size+1) (kvs.filter dZ)->Q (.ref (s.heap.objs.size+1)) {s with heap:=h₃,toks:=tk}):
 wpAny (model pw w) C.A (eval (.DictComp (.Name k p1) (.Subscript (.Name f p2) (.Name k p3) p4) [⟨.Name k px,.Name f p5,[.Compare (.Subscript (.Name f p6) (.Name k p7) p8) [.IsNot] [.Constant .none c p9] Fn],0⟩] scope pos) C.env) Q E s:=by
 simp only[arm_eval_DictComp];refine AB (use:=none) rfl (λx=>oK rfl) (l_ λy hy q=>hf y hy q) F.fn (λy hy q=>by have:=jo F.sn hy;rw[q] at this;exact this) ?_;refine jK (pP K.fn Ej Ek pC ?_) hd2;refine wpAny_pyIter_dict lo sG ?_;refine b5 (Hl F.nc (λy hy=>nomatch hy) (λbo yd yg=>?_) F.fn);have Y0:∀x y:Obj,((s.heap.push x).push y).objs.size=s.heap.objs.size+2:=λx y=>by rw[a9,a9]
 dsimp only at yd yg⊢;rw[Y0] at yd yg⊢;rw[a9] at⊢;have xX:∀b o,b≠s.heap.objs.size+2->((s.heap.push _).push _).get? b=some o->bo.get? b=some o:=λb o hb e=>(yg.2 b hb).trans (az _ e)
 have RM:∀b o,s.heap.get? b=some o->bo.get? b=some o:=λb o e=>xX b o (aL (aB (aK e) (aF _ _))) (az _ (az _ e))
 have KD:bo.IsKeyIter s.heap.objs.size ad 0 kvs.length ep:=⟨_,xX _ _ (aL (de (by decide))) (az _ (a8 _ rfl)),rfl,rfl⟩;have Q8:bo.DictOf (strKind pw w) (s.heap.objs.size+1) []:=by
  have:=jr (knd:=strKind pw w) (s.heap.push {cls:=.type "dict_keyiterator",data:=.fields #[.ref ad,.int 0 0,.int kvs.length 0,.int ep 0]});rw[a9] at this;exact this.at λo e=>xX _ o (aL (aO _)) e
 have loop:codeAny (model pw w) C.A (.compLoop (.DictComp (.Name k p1) (.Subscript (.Name f p2) (.Name k p3) p4) [⟨.Name k px,.Name f p5,[.Compare (.Subscript (.Name f p6) (.Name k p7) p8) [.IsNot] [.Constant .none c p9] Fn],0⟩] scope pos) 0 (.ref s.heap.objs.size) (.ref (s.heap.objs.size+1)) (compEnvC scope (xN C.env scope.names []) (s.heap.objs.size+2) C.env))
  (compPost (model pw w) C.A E none Q (.ref (s.heap.objs.size+1)) (s.heap.objs.size+2)) {s with heap:=bo,toks:=s.toks+0}:=
  codeAny_compLoop_testsD (DI w s ad kvs ep) (HP (LS.of K F Ej Ek hd hd2) K.hd pC sG hl q) (kvs.length+1) (.mk bo (s.toks+0) 0 _ (df _) KD RM yd Q8) (λv=>pI rfl)
 exact codeAny_compStart_dict loop (wpAny_pyIter_keyiter (s:={s with heap:=bo,toks:=s.toks+0}) KD loop)
end
theorem Inv.cellAt(I:Inv w H0 C ρ st s.heap){f:Str}{fc:Addr}(he:st.loc[i]?=some (some (.ref j)))(hi:C.names[i]?=some f)(Ej:C.env.kindOf f=some .cell)(Ek:C.env.cells.lookup f=some fc):∃ad,s.heap.IsCell fc (some (.ref ad))/\∃d,ρ[j]?=some (ad,d):=by
 refine gg λG k_=>?_
 obtain⟨m,hn,l⟩:=I.loc;refine k_ ?_;refine gg λG k_=>?_
 obtain⟨y,V,a,⟨ad,d,e,hr⟩,cc⟩:=l i _ he;refine k_ ?_;obtain rfl:=ao (hi.symm.trans a);refine⟨ad,?_,d,hr⟩;rw[<-e];rcases cc with⟨c1,_⟩|⟨_,c,c2,c3⟩|⟨c1,_⟩
 ·rw[Ej] at c1;nomatch c1
 ·rw[ao (Ek.symm.trans c2)];exact c3
 ·rw[Ej] at c1;nomatch c1
theorem Inv.dictAt(I:Inv w H0 C ρ st s.heap){l:List (Str×PV)}{ad:Addr}(hj:st.hp[j]?=some (.dict l))(hr:∃d,ρ[j]?=some (ad,d)):∃kvs,(s.heap.DictOf (strKind pw w) ad kvs/\(ad==sysModules)=aj)/\kvs.map (·.1)=l.map (·.1)/\aR ρ s.heap (l.map (·.2)) (kvs.map (·.2)):=by
 obtain⟨d,hr⟩:=hr;refine gg λG k_=>?_
 obtain⟨a',d',gz,_,r⟩:=I.objs j _ hj;refine k_ ?_;obtain⟨rfl,_⟩:=i9 (ao (hr.symm.trans gz));exact r
theorem bj.xQ{k f:Str}{p1 p2 p3 p4 p5 p6 p7 p8 p9 Fn px:Pos}{c:Nat}(B:Base w H0)(K:C.Ok)(F:ik scope k [f])
 (hf:∀y∈scope.names,y.2=.free->C.env.kindOf y.1=some .cell/\(C.env.cells.lookup y.1).isSome=ah) (hi:C.names[i]?=some f) (hd:(k==("__debug__":Str))=aj) (hd2:(f==("__debug__":Str))=aj):
 bj w H0 C (.DictComp (.Name k p1) (.Subscript (.Name f p2) (.Name k p3) p4) [⟨.Name k px,.Name f p5,[.Compare (.Subscript (.Name f p6) (.Name k p7) p8) [.IsNot] [.Constant .none c p9] Fn],0⟩] scope pos) (do let v<-af i;fG v):=by
 intro ρ st s I Q E p;have Ej:=hf (f,.free) (mem_of_lookup (F.fr f (.head _))) rfl;obtain⟨fc,Ek⟩:=cy.mp Ej.2;obtain⟨v,he,p⟩:=D' (P:=λr=>dI w H0 C cv ρ s r Q E) dF p;obtain⟨j,l,hj,hz,Z1,p'⟩:=HU (P:=λr=>dI w H0 C cv ρ s r Q E) dF p;obtain⟨ad,pC,hr⟩:=I.cellAt he hi Ej.1 Ek;refine gg λG k_=>?_
 obtain⟨kvs,⟨hD,lo⟩,hk,rl⟩:=I.dictAt hj hr;refine k_ ?_;obtain⟨ep,sG⟩:=hD.dictAt;have hlen:kvs.length=l.length:=by have:=congrArg js hk;simpa using this
 refine Bc (w:=w) K F Ej.1 Ek (λy hy q=>(hf y hy q).2) hd hd2 pC lo sG (hlen▸dQ hz) (λh₃ tk pH wh=>?_);have WR:s.heap.objs.size+1<h₃.objs.size:=by obtain⟨o,_,_,e,_⟩:=wh;exact aK e
 have nm:(s.heap.objs.size+1==sysModules)=aj:=beq_eq_false_iff_ne.mpr (cO (fL (modules_low (B.lim.keeps I.old))));obtain⟨z1,z2⟩:=x6 hk rl Z1;obtain⟨I',X'⟩:=I.new (a:=s.heap.objs.size+1) (d:=none) (o:=.dict (l.filter λkv=>!isNone kv.2)) (h':=h₃) pH ⟨bX _,WR⟩ (λ_ e=>nomatch e)
  ⟨rfl,_,⟨wh,nm⟩,z1,aR.mono (λb o _ _ e _ _=>⟨o.slots,pH b o e⟩) (fk ..) _ _ z2⟩
 exact p' _ (.ref (s.heap.objs.size+1)) h₃ tk I' X' ⟨_,none,rfl,by rw[<-I.len];simp⟩
end
noncomputable def Bm(a:List Nat):List (List Nat)->List (List Nat)
 |[]=>[a]
 |b::l=>if b<a then b::Bm a l else a::b::l
def mF:List (List Nat)->List (List Nat)
 |[]=>[]
 |a::l=>Bm a (mF l)
theorem tQ(a:List Nat)(l:List (List Nat)):(Bm a l).Perm (a::l):=by
 induction l with
 |nil=>exact .refl _
 |cons b l ih=>
  show(if b<a then b::Bm a l else a::b::l).Perm _;split
  ·exact(ih.cons b).trans (.swap a b l)
  ·exact .refl _
theorem pE:∀l,(mF l).Perm l
 |[]=>.refl _
 |a::l=>(tQ a _).trans ((pE l).cons a)
def EK(a b:List Nat):Prop:=¬b<a
theorem Bu{a b c:List Nat}(x:EK a b)(y:EK b c):EK a c:=λz=>by
 rcases ef.negTrans c b a (by simpa using z) with q|q
 ·exact y (by simpa using q)
 ·exact x (by simpa using q)
theorem wu(a:List Nat)(l:List (List Nat)):l.Pairwise EK->(Bm a l).Pairwise EK:=by
 induction l with
 |nil=>exactλ_=>.cons (λ_ h=>nomatch h) .nil
 |cons b l ih=>
  intro h;obtain⟨h1,h2⟩:=List.pairwise_cons.mp h;show(if b<a then b::Bm a l else a::b::l).Pairwise EK;split
  ·rename_i q;refine .cons (λc hc=>?_) (ih h2);cases(tQ a l).mem_iff.mp hc with
   |head=>exactλz=>List.lt_irrefl b (List.lt_trans q z)
   |tail _ hc=>exact h1 c hc
  ·rename_i q;refine .cons (λc hc=>?_) h;cases hc with
   |head=>exact q
   |tail _ hc=>exact Bu q (h1 c hc)
theorem mj:∀l,(mF l).Pairwise EK
 |[]=>.nil
 |a::l=>wu a _ (mj l)
theorem Bo{l k:List (List Nat)}(hp:l.Perm k)(hs:l.Pairwise EK):l=mF k:=
 (hp.trans (pE k).symm).eq_of_pairwise (le:=EK) (λa b _ _ x y=>List.le_antisymm (Po.mp x) (Po.mp y)) hs (mj k)
noncomputable def IC:PV->Option (List Nat)
 |.str x=>some x.cps.toList
 |_=>none
noncomputable def ve:PV->Option (List Nat)
 |.bytes b=>some (b.map (·.toNat))
 |_=>none
noncomputable def Lk(k:List Nat):PV:=.str ⟨k.toArray⟩
noncomputable def Ak(k:List Nat):PV:=.bytes (k.map O8)
noncomputable def j6(f:PV->Option (List Nat)):List PV->Option (List (List Nat))
 |[]=>some []
 |p::l=>match f p,j6 f l with
  |some k,some ks=>some (k::ks)
  |_,_=>none
def lj(l:List PV):Option (List PV):=match j6 IC l with
 |some ks=>some ((mF ks).map Lk)
 |none=>match j6 ve l with
  |some ks=>some ((mF ks).map Ak)
  |none=>none
noncomputable abbrev jO:sF:={ef with keyOf:=λv=>match v with|.bytes b _=>some (b.toList.map (·.toNat))|_=>none}
theorem mq:Slot "bytes" "__lt__" "bytes.__lt__":=
 .of (owner:="bytes") (n:="__lt__") (by rw[gR,eO];kernel_rfl) (by decide+kernel) (by decide+kernel) (by decide+kernel)
  (by first|exact .inl (by decide+kernel)|exact .inr (by decide+kernel)) (by rw[og];kernel_rfl)
theorem qZ:entryFor table "bytes.__lt__"=some Builtin.«bytes.__lt__»:=lS (by kernel_rfl)
theorem sS(a b:Value):argsOk "bytes.__lt__" ⟨[a,b],[]⟩:=by unfold argsOk;kernel_rfl
theorem Fl(a:List UInt8):∀b:List UInt8,(gP a b==.lt)=decide (a.map (·.toNat)<b.map (·.toNat)):=by
 induction a with
 |nil=>intro b;cases b with
  |nil=>rfl
  |cons=>exact(decide_eq_true (List.nil_lt_cons _ _)).symm
 |cons x a ih=>intro b;cases b with
  |nil=>exact(decide_eq_false (List.not_lt_nil _)).symm
  |cons y b=>
   rw[show(gP (x::a) (y::b)==.lt)=_ from congrArg (·==Ordering.lt) (show gP (x::a) (y::b)=if x<y then .lt else if x>y then .gt else gP a b from rfl),bH,bH,decide_eq_decide.mpr List.cons_lt_cons_iff];by_cases h1:x<y
   ·rw[if_pos h1];exact(decide_eq_true (.inl h1)).symm
   ·rw[if_neg h1];by_cases h2:x>y
    ·rw[if_pos h2];exact(decide_eq_false λh=>h.elim h1 λh=>cO h2 h.1).symm
    ·rw[if_neg h2,ih];exact decide_eq_decide.mpr ⟨λh=>.inr ⟨congrArg _ (UInt8.le_antisymm (LN.mp h2) (LN.mp h1)),h⟩,λh=>h.elim (λh=>absurd h h1) (·.2)⟩
section
variable{prog:fC}
theorem rq(b c:Array UInt8)(t u:Tok):Gives (Builtin.«bytes.__lt__» ⟨[.bytes b t,.bytes c u],[]⟩) (.val (.bool (decide (b.toList.map (·.toNat)<c.toList.map (·.toNat))))):=by
 refine .of_wp λM A E s Q hq=>?_
 show wpAny M A (isInstance (.bytes c u) (.type "bytes")>>=λr=>_) _ E s;refine ag (eH (dw s c u) PySem.F.sub_bytes_bytes ?_);exact aE ⟨_,rfl,by rw[<-Fl] at hq;exact hq⟩
theorem wK{a b:Array UInt8}{t u:Tok}{Q:Bool->aH->Prop}(h:Q (decide (a.toList.map (·.toNat)<b.toList.map (·.toNat))) s):wpAny (model prog w) A (oneLt' ah (.bytes a t) (.bytes b u)) Q E s:=by
 rw[oneLt'_eq];dsimp only[if_true];refine ag (wpAny_cRoomFor_byValue rfl ?_);refine ag (wpAny_callSpecialIfBound?_slot (dw s a t) mq (call_gives mq (dw s a t) qZ (sS _ _) (rq a b t u) ?_));exact ky h
end
theorem sU:jO.OneLt:=by
 intro prog w A E s x y a b Q ha hb h;cases x<;>simp only[jO,reduceCtorEq,iH] at ha
 cases y<;>simp only[jO,reduceCtorEq,iH] at hb
 subst ha;subst hb;exact wK h
theorem jD:∀{vs:List Value},(∀v∈vs,∃b t,v=.bytes b t)->vs.mapM firstOfTuple'=pure (vs.map λ_=>none)
 |[],_=>by simp
 |v::vs,h=>by
  obtain⟨b,t,rfl⟩:=h v (.head _);simp only[JW,show firstOfTuple' (.bytes b t)=pure none from rfl,jD λu hu=>h u (.tail _ hu)];simp
theorem ja:∀{vs:List Value},(∀v∈vs,∃b t,v=.bytes b t)->vs.mapM typeOf=pure (vs.map λ_=>ke "bytes")
 |[],_=>by simp
 |v::vs,h=>by
  obtain⟨b,t,rfl⟩:=h v (.head _);rw[JW,ja λu hu=>h u (.tail _ hu)];show(pure (ke "bytes")>>=λb=>pure _>>=λbs=>pure (b::bs))=_;simp
theorem s_{B_ Ca:Value}(h:∀v∈B_::Ca::vs,∃b t,v=.bytes b t):keyKind' (B_::Ca::vs).toArray=pure oneType':=by
 simp only[keyKind'_eq,CC,jD h];rw[map_pure,pure_bind];rw[if_neg (by simp),if_neg (by simp)];rw[oneTypeOnly'_eq,CC,ja h];rw[map_pure,pure_bind];have Ee:((pd (λ_=>ke "bytes") (B_::Ca::vs)).toArray.all λx=>x==ke "bytes")=ah:=by
  rw[List.all_toArray,OY,a6];intro _ _;rfl
 have h0:(pd (λ_=>ke "bytes") (B_::Ca::vs)).toArray[0]?=some (ke "bytes"):=by simp
 rw[h0];simp only[Ee,if_true,pure_bind,Option.isSome_some]
theorem y5{xs:Array Keyed}{W:Value}{a:κ.α}(hx:xs[i]?=some (V,W))(hk:κ.keyOf V=some a):KK κ xs i=a:=by
 unfold KK;rw[hx];dsimp only;rw[hk];rfl
noncomputable def wC:Value->Option (List Nat)
 |.str x _=>some x.cps.toList
 |_=>none
noncomputable def ny:Value->Option (List Nat)
 |.bytes b _=>some (b.toList.map (·.toNat))
 |_=>none
theorem ym{f:PV->Option (List Nat)}{p:PV}{ks:List (List Nat)}(e:j6 f (p::l)=some ks):∃k r,f p=some k/\j6 f l=some r/\ks=k::r:=by
 change(match f p,j6 f l with|some k,some ks=>some (k::ks)|_,_=>none)=some ks at e;cases h1:f p with
 |none=>rw[h1] at e;cases e
 |some k=>
  cases h2:j6 f l with
  |none=>rw[h1,h2] at e;cases e
  |some r=>rw[h1,h2] at e;exact⟨k,r,rfl,rfl,(ao e).symm⟩
theorem wA{f:PV->Option (List Nat)}(up:∀{p:PV} {V:Value} {k:List Nat},a7 ρ h p V->f p=some k->kv V=some k):∀{vs:List Value} {ks:List (List Nat)},aR ρ h l vs->j6 f l=some ks->vs.map kv=ks.map some:=by
 induction l with
 |nil=>intro vs ks r e;simp only[show vs=[] from r,<-ao e];rfl
 |cons p l ih=>
  intro vs ks ⟨V,u,e1,r1,r2⟩ e;obtain⟨k,r,h1,h2,e2⟩:=ym e;simp only[e1,e2,bH,bH,up r1 h1,ih r2 h2]
theorem vM{un:List Nat->PV}(down:∀{V:Value} {k:List Nat},kv V=some k->a7 ρ h (un k) V):∀{ks:List (List Nat)},vs.map kv=ks.map some->aR ρ h (ks.map un) vs:=by
 induction vs with
 |nil=>intro ks e;cases ks with
  |nil=>exact rfl
  |cons=>cases e
 |cons V vs ih=>intro ks e;cases ks with
  |nil=>cases e
  |cons k ks=>exact⟨V,vs,rfl,down (cF e).1,ih (cF e).2⟩
theorem pJ(hb:∀i j V W a b (xs:Array Keyed) (X Y:Value),xs[i]?=some (V,X)->xs[j]?=some (W,Y)->kv V=some a->kv W=some b->κ.kle (KK κ xs i) (KK κ xs j)->EK a b){ks:List (List Nat)}(hk:vs.map kv=ks.map some){xs:Array Keyed}(hp:xs.Perm (pairsOf vs))(hs:SortedToK κ xs (pairsOf vs).size):
 (xs.map (·.2)).toList.map kv=(mF ks).map some:=by
 have hl:xs.toList.Perm (vs.zip vs):=by rw[<-UP];exact Array.perm_iff_toList_perm.mp hp
 have M_:∀p,p∈xs.toList->p.1=p.2/\p.1∈vs:=λp ay=>mem_zip_self (hl.mem_iff.mp ay)
 have e0:(xs.map (·.2)).toList=xs.toList.map (·.1):=by
  rw[Array.toList_map];exact iJ λp ay=>(M_ p ay).1.symm
 have perm:(xs.toList.map (·.1)).Perm vs:=by
  have:=hl.map (·.1);rwa[GS (aC _)] at this
 have all:∀V∈vs,∃k,kv V=some k:=λV hV=>by
  have:kv V∈ks.map some:=hk▸iK hV;obtain⟨k,_,e⟩:=bD.mp this;exact⟨k,e.symm⟩
 let g:Value->List Nat:=λV=>(kv V).getD []
 have gk:∀us:List Value,(∀V∈us,∃k,kv V=some k)->us.map kv=(us.map g).map some:=λus h=>by
  simp only[kr];refine iJ λV hV=>?_
  obtain⟨k,e⟩:=h V hV;show kv V=some ((kv V).getD []);rw[e];rfl
 have out:∀V∈xs.toList.map (·.1),∃k,kv V=some k:=λV hV=>all V (perm.mem_iff.mp hV)
 have kg:ks=vs.map g:=by
  have:=(gk vs all).symm.trans hk;exact((List.map_inj_right (λa b e=>ao e)).mp this).symm
 simp only[e0,gk _ out,kg]
 congr 1
 refine Bo (perm.map g) ?_;rw[List.pairwise_iff_getElem];intro i j hi hj Uz;have ZX:i<xs.size:=by simpa using hi
 have Yw:j<xs.size:=by simpa using hj
 obtain⟨a,ea⟩:=all _ (M_ xs[i] (by simp)).2;obtain⟨b,eb⟩:=all _ (M_ xs[j] (by simp)).2;have h1:=hs i j (aT Uz) (by simp only[<-hp.size_eq];exact Yw);have:=hb i j xs[i].1 xs[j].1 a b xs xs[i].2 xs[j].2 (dv ZX) (dv Yw) ea eb h1;simp only[List.getElem_map,Array.getElem_toList];show EK ((kv xs[i].1).getD []) ((kv xs[j].1).getD []);rw[ea,eb];exact this
set_option backward.match.sparseCases true
def iD:PV->M PV:=λv st=>match v with
 |.ref i=>match st.hp[i]?with
  |some (.list l)=>if l.length<64 then(match lj l with
   |some l'=>.ok (.ref st.hp.length) {st with hp:=st.hp++[.list l']}
   |none=>.bad) else .bad
  |some (.dict l)=>if l.length<64 then(match lj (l.map λkv=>.str kv.1) with
   |some l'=>.ok (.ref st.hp.length) {st with hp:=st.hp++[.list l']}
   |none=>.bad) else .bad
  |_=>.bad
 |_=>.bad
section
variable{C:Cx}{rel:eS->Heap->β->α->Prop}
theorem jC{k:List Nat}(z:wC V=some k):∃x t,V=.str x t:=by
 cases V with
 |str x t=>exact⟨x,t,rfl⟩
 |_=>exact nS z
theorem h_{k:List Nat}(z:ny V=some k):∃x t,V=.bytes x t:=by
 cases V with
 |bytes x t=>exact⟨x,t,rfl⟩
 |_=>exact nS z
theorem F4{ks:List (List Nat)}(r:aR ρ h l vs)(e:j6 IC l=some ks):vs.map wC=ks.map some:=
 wA (f:=IC) (λ{p V k} r z=>by
  cases p with
  |str x=>obtain⟨t,rfl⟩:=r;exact z
  |_=>exact nS z) r e
theorem xK{ks:List (List Nat)}(r:aR ρ h l vs)(e:j6 ve l=some ks):vs.map ny=ks.map some:=
 wA (f:=ve) (λ{p V k} r z=>by
  cases p with
  |bytes x=>obtain⟨t,rfl⟩:=r;exact z
  |_=>exact nS z) r e
theorem Oi{ks:List (List Nat)}(e:vs.map wC=ks.map some):aR ρ h (ks.map Lk) vs:=
 vM (kv:=wC) (λ{V k} z=>by
  obtain⟨x,t,rfl⟩:=jC z;cases z
  exact⟨_,rfl⟩) e
theorem C8{ks:List (List Nat)}(e:vs.map ny=ks.map some):aR ρ h (ks.map Ak) vs:=
 vM (kv:=ny) (λ{V k} z=>by
  obtain⟨b,t,rfl⟩:=h_ z;cases z
  refine⟨t,?_⟩;rw[show(b.toList.map (·.toNat)).map O8=b.toList from by
   rw[kr];exact(iJ λx _=>by simp).trans (List.map_id _)]) e
theorem vh{ks:List (List Nat)}(e:vs.map kv=ks.map some)(hV:V∈vs):∃k,kv V=some k:=by
 have:kv V∈ks.map some:=e▸iK hV;obtain⟨k,_,e⟩:=bD.mp this;exact⟨k,e.symm⟩
theorem Ju{l':List PV}{P:Fin->aH->Prop}(ho:s.heap.get? a=some (seqObj "list" vs.toArray n))(r:aR ρ h l vs)(hl:lj l=some l')(zp:l.length<64)
 (hq:∀out:Array Value,(∀ρ h,aR ρ h l' out.toList)->P (.done (.ret .none)) {s with heap:=sortedHeap s.heap a vs out}):wpAny (model pw w) A (Builtin.«list.sort» ⟨[.ref a],[]⟩) P E s:=by
 have Q7:vs.length<64:=by rw[r.length];exact zp
 have S5:∀p:Keyed,p∈(pairsOf vs).toList->p.1∈vs:=λp hp=>by rw[UP] at hp;exact(mem_zip_self hp).2
 unfold lj at hl;cases hs:j6 IC l with
 |some ks=>
  refine gg λG k_=>?_
  rw[hs] at hl;cases hl
  have hk:=F4 r hs;refine k_ ?_;refine T4 (κ:=ef) strKind_oneLt ho (λp hp=>?_) (λB_ Ca rest e=>?_) Q7 λst' hp Ww=>hq _ λρ h=>Oi (pJ (κ:=ef) (kv:=wC) (λi j V W a b xs X Y h1 h2 h3 h4 h5=>?_) hk hp Ww)
  ·obtain⟨k,e⟩:=vh hk (S5 p hp);obtain⟨p1,p2⟩:=p;obtain⟨x,t,rfl⟩:=jC e;exact⟨_,rfl⟩
  ·have:StrsAre vs (vs.map strOf):=strsAre_map vs λv hv=>by
    obtain⟨k,e⟩:=vh hk hv;exact jC e
   rw[e] at this;exact keyKind_strs this
  ·have k1:ef.keyOf V=some a:=by obtain⟨x,t,rfl⟩:=jC h3;exact h3
   have k2:ef.keyOf W=some b:=by obtain⟨x,t,rfl⟩:=jC h4;exact h4
   rw[y5 h1 k1,y5 h2 k2] at h5;exact of_decide_eq_false h5
 |none=>
  rw[hs] at hl;dsimp only at hl;cases hb:j6 ve l with
  |none=>rw[hb] at hl;cases hl
  |some ks=>
   rw[hb] at hl;cases hl
   have hk:=xK r hb;refine T4 (κ:=jO) sU ho (λp hp=>?_) (λB_ Ca rest e=>?_) Q7 λst' hp Ww=>hq _ λρ h=>C8 (pJ (κ:=jO) (kv:=ny) (λi j V W a b xs X Y h1 h2 h3 h4 h5=>?_) hk hp Ww)
   ·obtain⟨k,e⟩:=vh hk (S5 p hp);obtain⟨p1,p2⟩:=p;obtain⟨x,t,rfl⟩:=h_ e;exact⟨_,rfl⟩
   ·refine s_ λv hv=>?_
    obtain⟨k,e'⟩:=vh hk (e▸hv);exact h_ e'
   ·have k1:jO.keyOf V=some a:=by obtain⟨x,t,rfl⟩:=h_ h3;exact h3
    have k2:jO.keyOf W=some b:=by obtain⟨x,t,rfl⟩:=h_ h4;exact h4
    rw[y5 h1 k1,y5 h2 k2] at h5;exact of_decide_eq_false h5
theorem p0{out:Array Value}:h.objs.size<=(sortedHeap h a vs out).objs.size:=by
 unfold sortedHeap;simp only[ib,Lz,Lz,ib];lia
theorem uM{K:Type}[DecidableEq K]{knd:KeyKind pw w K}{A:e_}{d:Addr}{kvs:List (K×Value)}{ep:Nat}{R:List Value->aH->Prop}{E:Value->aH->Prop}(lo:(d==sysModules)=aj)(hh:A.handled=none)(hm:s.heap.DictAt knd d kvs ep)(hn:kvs.length<=sizeLine)
 (hq:∀(h':Heap) (tk:Nat) (acc:Array Value),(∀b o,s.heap.get? b=some o->h'.get? b=some o)->s.heap.objs.size<=h'.objs.size->ItemsOf (λi v=>∃k x,kvs[i]?=some (k,x)/\knd.is k v=ah) acc kvs.length->R acc.toList {s with heap:=h',toks:=tk}):
 wpAny (model pw w) A (collect (.ref d)) R E s:=by
 have X:=kdl_dict (prog:=pw) (w:=w) (knd:=knd) (kvs:=kvs) (ep:=ep) lo;have lt:=US hm;unfold collect;refine ag (UY (gQ entry_proto_collect' ?_));dsimp only[fM PySem.F.plain_proto_collect _];show wpAny _ A.in1 (ie []>>=λl=>again (.builtin "list.__iadd__" ⟨[l,.ref d],[]⟩)) _ _ s;refine ag (b5 (aE ⟨qg tB _,gQ entry_list_iadd' ?_⟩));dsimp only[fM tB _];have hS:(s.heap.push {cls:=.type "list",data:=.seq ([]:List Value).toArray}).get? s.heap.objs.size=some {cls:=.type "list",data:=.seq #[]}:=a8 _ rfl;show wpAny _ A.in1 (T8 (.ref s.heap.objs.size) (.ref d) (.ref s.heap.objs.size)) _ _ _;have run:=kdl_extend (A:=A) (s:={s with heap:=s.heap.push {cls:=.type "list",data:=.seq ([]:List Value).toArray}}) (R:=λ(q:n8) (t:aH)=>∃(g:Heap) (tk:Nat) (acc:Array Value) (c:Nat),(q=.ok (.ret (.ref s.heap.objs.size))/\t={s with heap:=g,toks:=tk})/\
  (∀b o,s.heap.get? b=some o->g.get? b=some o)/\g.get? s.heap.objs.size=some {cls:=.type "list",dict:=none,data:=.seq acc c,slots:=#[]}/\ItemsOf (λi v=>∃k x,kvs[i]?=some (k,x)/\knd.is k v=ah) acc kvs.length)
  X hh (hm.push _) s.heap.objs.size (cO lt) (cO lt) (.ref s.heap.objs.size) 0 hS (λg tk acc c hk hg ha=>⟨g,tk,acc,c,⟨rfl,rfl⟩,λb o e=>hk b o (aL (aK e)) (az _ e),hg,ha⟩) hn
 have fin:∀{g:Heap} {tk c:Nat} {acc:Array Value},(∀b o,s.heap.get? b=some o->g.get? b=some o)->g.get? s.heap.objs.size=some {cls:=.type "list",dict:=none,data:=.seq acc c,slots:=#[]}->ItemsOf (λi v=>∃k x,kvs[i]?=some (k,x)/\knd.is k v=ah) acc kvs.length->
  wpAny (model pw w) A (load s.heap.objs.size>>=λo=>match o.data with|.seq xs _=>pure xs.toList|_=>unsupported "internal:collect") R E {s with heap:=g,toks:=tk}:=
  λhk hg ha=>ag (qy hg (aE (hq _ _ _ hk (aT (aK hg)) ha)))
 refine iO run (λf t y=>?_) λe t y=>?_
 ·cases f with
  |again c=>
   refine⟨y.1,codeAny_mono y.2 λq t y=>?_⟩;obtain⟨g,tk,acc,c,⟨rfl,rfl⟩,hk,hg,ha⟩:=y;exact fin hk hg ha
  |done f=>
   refine gg λG k_=>?_
   obtain⟨g,tk,acc,c,⟨e,rfl⟩,hk,hg,ha⟩:=y;refine k_ ?_;cases e
   exact fin hk hg ha
 ·obtain⟨_,_,_,_,⟨e,_⟩,_⟩:=y;cases e
theorem aG.sorted(B:Base w H0)(K:C.Ok)(I:Inv w H0 C ρ st s.heap)(r:a7 ρ s.heap v V):aG w H0 C cv ρ st s (bU (.builtin "sorted") [V]) (iD v):=by
 intro Q E p;cases v<;>first|exact p.elim|skip
 rename_i i;obtain⟨a,d,rfl,hr⟩:=r;unfold iD at p;dsimp only at p;have go:∀(l l':List PV) (vs:List Value) (bo:Heap) (tk:Nat),(∀b o,s.heap.get? b=some o->bo.get? b=some o)->s.heap.objs.size<=bo.objs.size->aR ρ bo l vs->lj l=some l'->l.length<64->dI w H0 C cv ρ s (.ok (.ref st.hp.length) {st with hp:=st.hp++[.list l']}) Q E->
  wpAny (model pw w) C.A.in1 (call (.builtin "list.sort") [.ref bo.objs.size]) (λ_ s'=>Q (.ref bo.objs.size) s') E {s with heap:=bo.push {cls:=.type "list",data:=.seq vs.toArray},toks:=tk}:=by
  intro l l' vs bo tk k kz rl hl zp p;have ho:(bo.push {cls:=.type "list",data:=.seq vs.toArray}).get? bo.objs.size=some (seqObj "list" vs.toArray 0):=a8 _ rfl;refine iL slot_list_sort ⟨_,ho,rfl⟩ T1 (Ju ho rl hl zp λout ro=>⟨_,rfl,?_⟩) (args_list_sort _);obtain⟨e,he⟩:=sortedHeap_at (out:=out) ho;have RV:bo.objs.size<(bo.push {cls:=.type "list",data:=.seq vs.toArray}).objs.size:=by simp only[a9];exact aO _
  have keep:∀b o,s.heap.get? b=some o->(sortedHeap (bo.push {cls:=.type "list",data:=.seq vs.toArray}) bo.objs.size vs out).get? b=some o:=λb o eb=>by
   have Ku:=k b o eb;have lb:=aK Ku;rw[sortedHeap_old (aL lb) (bP lb RV)];exact az _ Ku
  have ge:s.heap.objs.size<=bo.objs.size:=by
   exact kz
  obtain⟨I',X'⟩:=I.new (a:=bo.objs.size) (d:=none) (o:=.list l') (h':=sortedHeap (bo.push {cls:=.type "list",data:=.seq vs.toArray}) bo.objs.size vs out) keep ⟨ge,aB RV p0⟩ (λ_ e=>nomatch e)
   ⟨rfl,out,e,he,ro _ _⟩
  exact p _ _ _ tk I' X' ⟨_,none,rfl,by rw[<-I.len];simp⟩
 have RR:∀{l l':List PV},lj l=some l'->l.length<64->l.length<=sizeLine:=λ_ h=>by simp only[eY];omega
 cases hi:st.hp[i]?with
 |none=>rw[hi] at p;exact p.elim
 |some o=>
  rw[hi] at p;cases o<;>first|exact p.elim|skip
  ·rename_i l;dsimp only at p;by_cases zp:l.length<64
   ·rw[if_pos zp] at p;cases hs:lj l with
    |none=>rw[hs] at p;exact p.elim
    |some l'=>
     rw[hs] at p;refine gg λG k_=>?_
     obtain⟨a',d',gz,rfl,us,n,el,rl⟩:=I.objs i _ hi;refine k_ ?_;rw[hr] at gz;cases gz;have EA:s.heap.IsList a us.toList.toArray:=⟨_,el,rfl,n,by simp⟩;refine tx kind_sorted plain_sorted entry_sorted (args_sorted1 _) ?_;unfold Builtin.«sorted»;refine ag (m:=checkCount "sorted" 1 1 _) (aE ?_);refine ag (collect_list (hsz:=by rw[rl.length];exact RR hs zp) EA ?_);refine ag (AD ?_ (by rw[rl.length];exact RR hs zp));have k1:∀b o,s.heap.get? b=some o->((s.heap.push (seqObj "list" #[] 0)).update s.heap.objs.size (n7 (·++us.toList.toArray))).get? b=some o:=λb o e=>by
      rw[cp _ _ (fN (aL (aK e)))];exact az _ e
     have k2:s.heap.objs.size<=((s.heap.push (seqObj "list" #[] 0)).update s.heap.objs.size (n7 (·++us.toList.toArray))).objs.size:=by simp only[ib,Lz];exact bX _
     refine ag (bS (iO (go l l' us.toList _ s.toks k1 k2 (aR.mono (λb o _ _ e _ _=>⟨o.slots,k1 b o e⟩) (a_ _) _ _ rl) hs zp p) (λ_ s' x=>aE ⟨_,rfl,x⟩) λ_ _ e=>e))
   ·rw[if_neg zp] at p;exact p.elim
  ·rename_i l;dsimp only at p;by_cases zp:l.length<64
   ·rw[if_pos zp] at p;cases hs:lj (l.map λkv=>.str kv.1) with
    |none=>rw[hs] at p;exact p.elim
    |some l'=>
     rw[hs] at p;obtain⟨a',d',gz,rfl,kvs,⟨hd,lo⟩,hk,rl⟩:=I.objs i _ hi;rw[hr] at gz;cases gz;obtain⟨ep,sG⟩:=hd.dictAt;have hlen:kvs.length=l.length:=by have:=congrArg js hk;simpa using this
     refine tx kind_sorted plain_sorted entry_sorted (args_sorted1 _) ?_;unfold Builtin.«sorted»;refine ag (m:=checkCount "sorted" 1 1 _) (aE ?_);refine ag (uM (A:=C.A.in1) lo K.hd sG (by simp only[hlen,eY];lia) λbo tk acc k1 k2 ha=>?_);have rv:aR ρ bo (l.map λkv=>.str kv.1) acc.toList:=by
      obtain⟨a1,a2⟩:=ha;have a3:acc.toList.length=kvs.length:=by simp only[cz,a1]
      have a4:∀(j:Nat) (v:Value),acc.toList[j]?=some v->∃k x,kvs[j]?=some (k,x)/\(J5 pw w).is k v=ah:=λj v e=>a2 j v (by rw[<-ej];exact e)
      clear hs hi p sG hd rl a1 a2 hlen zp;generalize acc.toList=vs at a3 a4;induction l generalizing kvs vs with
      |nil=>
       obtain rfl:kvs=[]:=by simpa using hk
       obtain rfl:vs=[]:=by simpa using a3
       exact rfl
      |cons x l ih=>
       cases kvs with
       |nil=>cases hk
       |cons y kvs=>
        cases vs with
        |nil=>simp at a3
        |cons v vs=>
         simp only[bH,yT] at hk;obtain⟨k,z,e1,e2⟩:=a4 0 v rfl;cases e1
         obtain⟨t,rfl⟩:=ph e2;exact⟨_,vs,rfl,⟨t,by rw[<-hk.1]⟩,ih kvs hk.2 vs (by simpa using a3) λj v e=>a4 (j+1) v (by simpa using e)⟩
     have ll:(l.map λkv=>PV.str kv.1).length=l.length:=by simp
     refine ag (AD ?_ (by simp only[rv.length,ll,eY];lia));refine ag (bS (iO (go _ l' acc.toList bo tk k1 k2 rv hs (by rw[ll];exact zp) p) (λ_ s' x=>aE ⟨_,rfl,x⟩) λ_ _ e=>e))
   ·rw[if_neg zp] at p;exact p.elim
end
theorem oW{M:Model}{Γ:Ctx}{p:Pos}{t:Sem PySem.Fin}{fs:List Frame}{e:End}{s':aH}(h:Runs M Γ p t fs s e s'):s.heap.objs.size<=s'.heap.objs.size:=by
 induction h with
 |done=>exact aC _
 |raise=>exact aC _
 |yield=>exact aC _
 |update _ _ ih=>rw[show(_:aH).heap.objs.size=_ from ib ..] at ih;exact ih
 |alloc _ ih=>exact ai (by simp only[a9];exact bX _) ih
 |call _ _ i1 i2=>exact ai i1 i2
 |resumeFresh _ _ _ _ i1 i2=>exact ai i1 i2
 |resumeSuspended _ _ _ _ i1 i2=>exact ai i1 i2
 |segRet _ _ i1 i2=>exact ai i1 i2
 |segGen _ _ i1 i2=>exact ai i1 i2
 |segSuspGen _ _ _ _ i1 i2=>exact ai i1 i2
 |_=>assumption
theorem yO{M:Model}{Γ:Ctx}{p:Pos}{g:Nat}{r:Resume}{res:GenResult}{s':aH}(h:Wakes M Γ p g r s res s'):s.heap.objs.size<=s'.heap.objs.size:=by
 unfold Wakes at h;split at h
 ·exact h.elim
 ·split at h
  ·obtain⟨e,cH,h1,_,_,rfl⟩:=h;have z:=oW h1;exact z
  ·obtain⟨_,rfl⟩:=h;exact aC _
  ·obtain⟨_,rfl⟩:=h;exact aC _
 ·obtain⟨e,cH,h1,_,_,rfl⟩:=h;have z:=oW h1;exact z
 ·obtain⟨_,rfl⟩:=h;exact aC _
 ·obtain⟨_,rfl⟩:=h;exact aC _
theorem JQ(M:Model)(Γ:Ctx)(n:Nat):∀(t:Sem α) (Q:α->Pos->aH->Prop) (E:Value->Pos->aH->Prop) (p:Pos) (s:aH),n<=s.heap.objs.size->
 eX M Γ t (λa p s'=>n<=s'.heap.objs.size->Q a p s') (λe p s'=>n<=s'.heap.objs.size->E e p s') p s->eX M Γ t Q E p s:=by
 intro t;induction t with
 |pure a=>intro Q E p s hn h;simp only[eX] at h⊢;exact h hn
 |raise e=>intro Q E p s hn h;simp only[eX] at h⊢;exact h hn
 |update a part f k ih=>intro Q E p s hn h;simp only[eX] at h⊢;exact⟨h.1,ih _ _ _ _ _ (by rw[show(_:aH).heap.objs.size=_ from ib ..];exact hn) h.2⟩
 |alloc o k ih=>intro Q E p s hn h;simp only[eX] at h⊢;exact ih _ _ _ _ _ (ai hn (by simp only[a9];exact bX _)) h
 |call c h0 g l k ih=>
  intro Q E p s hn h;refine gg λG k_=>?_
  simp only[eX] at h⊢;obtain⟨r,s',hr,hw⟩:=h;refine k_ ?_;exact⟨r,s',hr,ih _ _ _ _ _ (ai hn (oW hr)) hw⟩
 |resume g r l k ih=>
  intro Q E p s hn h;refine gg λG k_=>?_
  simp only[eX] at h⊢;obtain⟨res,s',hr,hw⟩:=h;refine k_ ?_;exact⟨res,s',hr,ih _ _ _ _ _ (ai hn (yO hr)) hw⟩
 |load a part k ih=>intro Q E p s hn h;simp only[eX] at h⊢;obtain⟨o,ho,h⟩:=h;exact⟨o,ho,ih _ _ _ _ _ hn h⟩
 |choose src m k ih=>intro Q E p s hn h;simp only[eX] at h⊢;exact⟨h.1,ih _ _ _ _ _ hn h.2⟩
 |genState g k ih=>intro Q E p s hn h;simp only[eX] at h⊢;obtain⟨o,ho,h⟩:=h;exact⟨o,ho,ih _ _ _ _ _ hn h⟩
 |rule _ k ih=>intro Q E p s hn h;simp only[eX] at h⊢;exact ih _ _ _ _ _ hn h
 |«at» _ k ih=>intro Q E p s hn h;simp only[eX] at h⊢;exact ih _ _ _ _ _ hn h
 |loadIfAlive _ k ih=>intro Q E p s hn h;simp only[eX] at h⊢;exact ih _ _ _ _ _ hn h
 |point _ k ih=>intro Q E p s hn h;simp only[eX] at h⊢;exact ih _ _ _ _ _ hn h
 |fresh k ih=>intro Q E p s hn h;simp only[eX] at h⊢;exact ih _ _ _ _ _ hn h
 |ask k ih=>intro Q E p s hn h;simp only[eX] at h⊢;exact ih _ _ _ _ _ hn h
 |os q l k ih=>intro Q E p s hn h;simp only[eX] at h⊢;exact ih _ _ _ _ _ hn h
 |handled own k ih=>intro Q E p s hn h;simp only[eX] at h⊢;exact ih _ _ _ _ _ hn h
 |newGen c k ih=>intro Q E p s hn h;simp only[eX] at h⊢;exact ih _ _ _ _ _ hn h
 |stack k ih=>intro Q E p s hn h;simp only[eX] at h⊢;exact ih _ _ _ _ _ hn h
 |thread k ih=>intro Q E p s hn h;simp only[eX] at h⊢;exact ih _ _ _ _ _ hn h
 |_=>intro Q E p s hn h;simp only[eX] at h
theorem grow{M:Model}{t:Sem α}{Q:α->aH->Prop}(h:wpAny M A t (λa s'=>s.heap.objs.size<=s'.heap.objs.size->Q a s') (λe s'=>s.heap.objs.size<=s'.heap.objs.size->E e s') s):wpAny M A t Q E s:=
 λΓ p É=>JQ M Γ _ t _ _ p s (aC _) (h Γ p É)
set_option backward.match.sparseCases false
def Bx:PV->M PV:=λv st=>match v with
 |.bytes b=>if sz b.length then .ok (.int b.length) st else .bad
 |.ref i=>match st.hp[i]?with
  |some (.list l)=>if sz l.length then .ok (.int l.length) st else .bad
  |_=>.bad
 |_=>.bad
def Dd:PV->M PV
 |.int i=>if 0<=i/\i<1114112 then pure (.str ⟨#[i.toNat]⟩) else M.bad
 |_=>M.bad
def P_:PV->M PV
 |.int a=>pure (.int (if a<0 then-a else a))
 |_=>M.bad
def RD:PV->M PV
 |.int a=>pure (.int a)
 |.bool b=>pure (.int (if b then 1 else 0))
 |_=>M.bad
def R4:PV->PV->M PV
 |.int a,.int b=>pure (.int (if b>a then b else a))
 |_,_=>M.bad
def nQ(st:St):PV->Option Value
 |.int _=>some (.type "int")
 |.bool _=>some (.type "bool")
 |.ref i=>match st.hp[i]?with
  |some (.list _)=>some (.type "list")
  |some (.dict _)=>some (.type "dict")
  |some (.inst c _)=>if lW.contains c then some (.ref c) else none
  |_=>none
 |_=>none
noncomputable def kW:List Value:=[.type "int",.type "bool",.type "list",.type "dict",.ref 285,.ref 397,.ref 419]
noncomputable def oM(t c:Value):Bool:=t==c||(t==.type "bool"&&c==.type "int")
theorem Iy(P:bL):(kW.all λt=>kW.all λc=>kitOne (KF pw P) t c==some (oM t c))=ah:=by kernel_rfl
def yj:PV->PV->M PV:=λv c st=>match c with
 |.obj c=>match nQ st v with
  |some t=>if kW.contains t&&kW.contains c then .ok (.bool (oM t c)) st else .bad
  |none=>.bad
 |_=>.bad
def SY(P:bL)(c:Addr):Bool:=plainGet (KF pw P) c "__class__"&&hasDictIn (KF pw P) c&&Ex (findIn (KF pw P) (.ref c) "__class__") "object.__class__"&&Ex (specialIn (KF pw P) (.builtin "object.__class__") "__get__") "getset_descriptor.__get__"&&takesIn (KF pw P) (.builtin "object.__class__")==some ah&&mroIn (KF pw P) c (.type "object")==some ah
theorem I9(P:bL):lW.all (SY P)=ah:=by kernel_rfl
noncomputable def wz(st:St):PV->Option (List PV)
 |.ref i=>match st.hp[i]?with
  |some (.dict l)=>if sz l.length then some (l.map λkv=>.str kv.1) else none
  |some (.cN l)=>if sz l.length then some (l.map λkv=>.bytes kv.1) else none
  |_=>none
 |_=>none
def rN:PV->M PV:=λv st=>match wz st v with
 |some l=>.ok (.ref st.hp.length) {st with hp:=st.hp++[.list l]}
 |none=>.bad
def sr:PV->M PV:=λv st=>match v with
 |.ref i=>match st.hp[i]?with
  |some (.list l)=>if sz l.length then .ok (.tup l) st else .bad
  |_=>.bad
 |_=>.bad
noncomputable def bytesOf:List PV->Option (List UInt8)
 |[]=>some []
 |.int a::l=>if 0<=a/\a<256 then(bytesOf l).map (a.toNat.toUInt8::·) else none
 |_=>none
def qN:PV->M PV:=λv st=>match v with
 |.bytes b=>.ok (.bytes b) st
 |.ref i=>match st.hp[i]?with
  |some (.list l)=>if sz l.length then(match bytesOf l with
   |some b=>.ok (.bytes b) st
   |none=>.bad) else .bad
  |_=>.bad
 |_=>.bad
def Fz:PV->M PV:=λv st=>match v with
 |.ref i=>match st.hp[i]?with
  |some (.list l)=>if sz l.length then(match l.getLast? with
   |some x=>.ok x {st with hp:=st.hp.set i (.list l.dropLast)}
   |none=>.bad) else .bad
  |_=>.bad
 |_=>.bad
section
variable{C:Cx}{rel:eS->Heap->β->α->Prop}
theorem aG.len(I:Inv w H0 C ρ st s.heap)(r:a7 ρ s.heap v V):aG w H0 C cv ρ st s (bU (.builtin "len") [V]) (Bx v):=by
 intro Q E p;cases v<;>first|exact p.elim|skip
 ·rename_i b;obtain⟨t,rfl⟩:=r;unfold Bx at p;dsimp only at p;by_cases q:sz b.length=ah
  ·rw[if_pos q] at p;have:=dQ q;simp only[eY] at this;exact len_bytes (by rw[gO];lia) (p ρ (.int (b.toArray.size) (s.toks+1)) s.heap _ I (.refl ..) ⟨s.toks+1,by simp⟩)
  ·rw[if_neg q] at p;exact p.elim
 ·rename_i i;obtain⟨a,d,rfl,hr⟩:=r;unfold Bx at p;dsimp only at p;cases hi:st.hp[i]?with
  |none=>rw[hi] at p;exact p.elim
  |some o=>
   rw[hi] at p;cases o<;>first|exact p.elim|skip
   rename_i l;dsimp only at p;by_cases q:sz l.length=ah
   ·rw[if_pos q] at p;refine gg λG k_=>?_
    obtain⟨a',d',gz,rfl,us,n,el,rl⟩:=I.objs i _ hi;refine k_ ?_;rw[hr] at gz;cases gz;have p_:us.size=l.length:=by rw[<-cz,rl.length]
    have:=dQ q;simp only[eY] at this;refine T3 ⟨_,el,rfl,n,rfl⟩ (by lia) ?_;exact p ρ (.int us.size (s.toks+1)) s.heap _ I (.refl ..) ⟨s.toks+1,by rw[p_]⟩
   ·rw[if_neg q] at p;exact p.elim
theorem aG.chr(I:Inv w H0 C ρ st s.heap)(r:a7 ρ s.heap v V):aG w H0 C cv ρ st s (bU (.builtin "chr") [V]) (Dd v):=by
 cases v<;>first|exactλ_ _ p=>p.elim|skip
 rename_i i;obtain⟨t,rfl⟩:=r;unfold Dd;by_cases q:0<=i/\i<1114112
 ·simp only[q,and_self,if_true];exact .give I λQ E q'=>P.chr_of_int (by simp;lia) (q' _ _ ⟨_,rfl⟩)
 ·simp only[q,if_false];exactλ_ _ p=>p.elim
theorem aG.abs(I:Inv w H0 C ρ st s.heap)(r:a7 ρ s.heap v V):aG w H0 C cv ρ st s (bU (.builtin "abs") [V]) (P_ v):=by
 cases v<;>first|exactλ_ _ p=>p.elim|skip
 obtain⟨t,rfl⟩:=r;exact .give I λQ E q'=>call_abs_int λu tk=>q' _ _ ⟨_,rfl⟩
theorem aG.int(I:Inv w H0 C ρ st s.heap)(r:a7 ρ s.heap v V):aG w H0 C cv ρ st s (bU (.type "int") [V]) (RD v):=by
 cases v<;>first|exactλ_ _ p=>p.elim|skip
 ·obtain rfl:V=_:=r;exact .give I λQ E q'=>PySem.call_int_bool (q' _ _ ⟨_,rfl⟩)
 ·obtain⟨t,rfl⟩:=r;exact .give I λQ E q'=>PySem.call_int_int (q' _ s.toks ⟨_,rfl⟩)
theorem aG.max{x:PV}{X:Value}(K:C.Ok)(I:Inv w H0 C ρ st s.heap)(r:a7 ρ s.heap v V)(rx:a7 ρ s.heap x X):aG w H0 C cv ρ st s (bU (.builtin "max") [V,X]) (R4 v x):=by
 cases v<;>cases x<;>first|exactλ_ _ p=>p.elim|skip
 rename_i a b;obtain⟨t,rfl⟩:=r;obtain⟨u,rfl⟩:=rx;intro Q E p;refine grow (max_two_ints K.hd λh' tk k sz=>?_);by_cases c:b>a
 ·rw[if_pos c];have p:dI w H0 C cv ρ s (.ok (.int (if b>a then b else a)) st) Q E:=p;rw[if_pos c] at p;exact p ρ _ h' tk (I.keeps k sz) (Ext.of_keeps k sz) ⟨_,rfl⟩
 ·rw[if_neg c];have p:dI w H0 C cv ρ s (.ok (.int (if b>a then b else a)) st) Q E:=p;rw[if_neg c] at p;exact p ρ _ h' tk (I.keeps k sz) (Ext.of_keeps k sz) ⟨_,rfl⟩
theorem Iw{t:Value}(I:Inv w H0 C ρ st h)(r:a7 ρ h (.ref i) V)(ht:nQ st (.ref i)=some t):∃H:Heap->Prop,KitX (KF pw w.params) V t H/\H h/\V≠.builtin "__main__.__loader__#opaque":=by
 refine gg λG k_=>?_
 obtain⟨a,d,rfl,hr⟩:=r;have ht:(match st.hp[i]?with
  |some (.list _)=>some (.type "list")
  |some (.dict _)=>some (.type "dict")
  |some (.inst c _)=>if lW.contains c then some (.ref c) else none
  |_=>none)=some t:=ht
 refine k_ ?_;cases hi:st.hp[i]?with
 |none=>rw[hi] at ht;exact nS ht
 |some o=>
  rw[hi] at ht;refine gg λG k_=>?_
  obtain⟨a',d',gz,ro⟩:=I.objs i o hi;refine k_ ?_;rw[hr] at gz;cases gz;clear hr hi I;cases o with
  |list l=>
   refine gg λG k_=>?_
   obtain⟨rfl,us,n,el,rl⟩:=ro;refine k_ ?_;exact ao ht▸⟨_,kitx_list,⟨_,el,rfl⟩,nofun⟩
  |dict l=>
   refine gg λG k_=>?_
   obtain⟨rfl,kvs,⟨⟨o,es,ep,g,c1,_⟩,lo⟩,hk,rl⟩:=ro;refine k_ ?_;exact ao ht▸⟨_,kitx_dict,⟨_,g,c1.1⟩,nofun⟩
  |inst c fs=>
   obtain⟨hc,e⟩:=iN ht;refine gg λG k_=>?_
   obtain⟨dx,vs,es,n,rfl,ei,ed,fe,rs⟩:=ro;refine k_ ?_;have z:=a6.mp (I9 w.params) c (fB.mp hc);unfold SY at z;simp only[aI] at z;refine gg λG k_=>?_
   obtain⟨⟨⟨⟨⟨z1,z2⟩,z3⟩,z4⟩,z5⟩,z6⟩:=z;refine k_ ?_;exact ao e▸⟨_,kitx_own z1 z2 (nr z3) (nr z4) (beq_iff_eq.mp z5) (beq_iff_eq.mp z6),rI ei ed,nofun⟩
  |_=>exact nS ht
theorem Iv{t:Value}(I:Inv w H0 C ρ st h)(r:a7 ρ h v V)(ht:nQ st v=some t):∃H:Heap->Prop,KitX (KF pw w.params) V t H/\H h/\V≠.builtin "__main__.__loader__#opaque":=by
 cases v with
 |bool b=>exact(show V=.bool b from r)▸ao ht▸⟨_,kitx_bool,trivial,nofun⟩
 |int i=>obtain⟨u,rfl⟩:=r;exact ao ht▸⟨_,kitx_int,trivial,nofun⟩
 |ref i=>exact Iw I r ht
 |_=>exact nS ht
theorem aG.Ì{x:PV}{X:Value}(B:Base w H0)(I:Inv w H0 C ρ st s.heap)(r:a7 ρ s.heap v V)(rx:a7 ρ s.heap x X):aG w H0 C cv ρ st s (bU (.builtin "isinstance") [V,X]) (yj v x):=by
 intro Q E p;unfold yj at p;cases x<;>first|exact p.elim|skip
 rename_i c;obtain rfl:X=c:=rx;cases ht:nQ st v with
 |none=>rw[ht] at p;exact p.elim
 |some t=>
  rw[ht] at p;dsimp only at p;by_cases q:(kW.contains t&&kW.contains X)=ah
  case neg=>rw[if_neg q] at p;exact p.elim
  rw[if_pos q] at p;simp only[aI] at q;have e:kitOne (KF pw w.params) t X=some (oM t X):=beq_iff_eq.mp (a6.mp (a6.mp (Iy w.params) t (by simpa using q.1)) X (by simpa using q.2));have KX:=B.X I;have fin:∀tk,Q (.bool (oM t X)) {s with toks:=tk}:=λtk=>p ρ _ s.heap tk I (.refl ..) rfl
  refine gg λG k_=>?_
  obtain⟨H,k1,k2,k3⟩:=Iv I r ht;refine k_ ?_;exact kia_one k1 KX k2 e k3 fin
theorem Bp{K:Type}[DecidableEq K]{knd:KeyKind pw w K}{f:K->PV}(hf:∀{k:K} {v:Value},knd.is k v=ah->a7 ρ h (f k) v){l:List (K×PV)}:∀{kvs:List (K×Value)} {vs:List Value},kvs.map (·.1)=l.map (·.1)->vs.length=kvs.length->(∀(j:Nat) (v:Value),vs[j]?=some v->∃k x,kvs[j]?=some (k,x)/\knd.is k v=ah)->aR ρ h (l.map λkv=>f kv.1) vs:=by
 induction l with
 |nil=>
  intro kvs vs hk a3 _;obtain rfl:=mM.mp hk;obtain rfl:=List.eq_nil_of_length_eq_zero a3;exact rfl
 |cons x l ih=>
  intro kvs vs hk a3 a4;cases kvs with
  |nil=>cases hk
  |cons y kvs=>
   cases vs with
   |nil=>cases a3
   |cons v vs=>
    refine gg λG k_=>?_
    obtain⟨Z0,En⟩:=cF hk;obtain⟨k,z,e1,e2⟩:=a4 0 v rfl;cases e1
    refine k_ ?_;exact⟨_,vs,rfl,(congrArg (λk=>a7 ρ h (f k) v) (show k=x.1 from Z0)).mp (hf e2),ih En (tu a3) λj v e=>a4 (j+1) v e⟩
theorem zy{KK:Type}[DecidableEq KK]{knd:KeyKind pw w KK}{f:KK->PV}{l:List (KK×PV)}{kvs:List (KK×Value)}{a:Addr}{Q E:Value->aH->Prop}(K:C.Ok)(I:Inv w H0 C ρ st s.heap)(hf:∀{ρ:eS} {h:Heap} {k:KK} {v:Value},knd.is k v=ah->a7 ρ h (f k) v)(hd:s.heap.DictOf knd a kvs)(lo:(a==sysModules)=aj)(hk:kvs.map (·.1)=l.map (·.1))(q:sz l.length=ah)
 (p:dI w H0 C cv ρ s (.ok (.ref st.hp.length) {st with hp:=st.hp++[.list (l.map λkv=>f kv.1)]}) Q E):wpAny (model pw w) C.A (bU (.type "list") [.ref a]) Q E s:=by
 obtain⟨ep,sG⟩:=hd.dictAt;have hlen:kvs.length=l.length:=by rw[<-aW (f:=λx:KK×Value=>x.1),hk,aW]
 refine kdl_call (kdl_dict (knd:=knd) (kvs:=kvs) (ep:=ep) lo) K.hd sG (by rw[hlen];exact dQ q) λh' tk acc c kp hg ha=>?_
 obtain⟨I',X'⟩:=I.new (a:=s.heap.objs.size) (d:=none) (o:=.list (l.map λkv=>f kv.1)) (h':=h') kp ⟨aC _,aK hg⟩ (λ_ e=>nomatch e)
  ⟨rfl,acc,c,hg,Bp hf hk (by simp only[cz,ha.1]) λj v e=>ha.2 j v (by rw[<-ej];exact e)⟩
 exact p _ _ _ tk I' X' ⟨_,none,rfl,by rw[<-I.len];simp⟩
theorem Bq{l':List PV}(h:wz st v=some l'):∃i,v=.ref i/\((∃l,st.hp[i]?=some (.dict l)/\sz l.length=ah/\l'=l.map λkv=>.str kv.1)\/∃l,st.hp[i]?=some (.cN l)/\sz l.length=ah/\l'=l.map λkv=>.bytes kv.1):=by
 cases v with
 |ref i=>
  have h:(match st.hp[i]?with
   |some (.dict l)=>if sz l.length then some (l.map λkv=>PV.str kv.1) else none
   |some (.cN l)=>if sz l.length then some (l.map λkv=>.bytes kv.1) else none
   |_=>none)=some l':=h
  refine⟨i,rfl,?_⟩;cases hi:st.hp[i]?with
  |none=>rw[hi] at h;exact nS h
  |some o=>
   rw[hi] at h;cases o with
   |dict l=>exact .inl ⟨l,rfl,(iN h).1,(ao (iN h).2).symm⟩
   |cN l=>exact .inr ⟨l,rfl,(iN h).1,(ao (iN h).2).symm⟩
   |_=>exact nS h
 |_=>exact nS h
theorem aG.list(K:C.Ok)(I:Inv w H0 C ρ st s.heap)(r:a7 ρ s.heap v V):aG w H0 C cv ρ st s (bU (.type "list") [V]) (rN v):=by
 intro Q E p;unfold rN at p;cases hv:wz st v with
 |none=>rw[hv] at p;exact p.elim
 |some l'=>
  rw[hv] at p;obtain⟨i,rfl,hh⟩:=Bq hv;clear hv;obtain⟨a,d,rfl,hr⟩:=r;rcases hh with⟨l,hi,q,rfl⟩|⟨l,hi,q,rfl⟩
  ·obtain⟨a',d',gz,rfl,kvs,⟨hd,lo⟩,hk,rl⟩:=I.objs i _ hi;rw[hr] at gz;cases gz;exact zy (knd:=J5 pw w) (f:=λk=>.str k) K I (λ{ρ h k v} e=>by obtain⟨t,rfl⟩:=ph e;exact⟨t,rfl⟩) hd lo hk q p
  ·obtain⟨a',d',gz,rfl,kvs,⟨hd,lo⟩,hk,rl⟩:=I.objs i _ hi;rw[hr] at gz;cases gz;exact zy (knd:=bytesKind pw w) (f:=λk=>.bytes k) K I (λ{ρ h k v} e=>by obtain⟨t,rfl⟩:=isBytes_shape e;exact⟨t,rfl⟩) hd lo hk q p
theorem aG.tuple(I:Inv w H0 C ρ st s.heap)(r:a7 ρ s.heap v V):aG w H0 C cv ρ st s (bU (.type "tuple") [V]) (sr v):=by
 intro Q E p;cases v<;>first|exact p.elim|skip
 rename_i i;obtain⟨a,d,rfl,hr⟩:=r;unfold sr at p;dsimp only at p;cases hi:st.hp[i]?with
 |none=>rw[hi] at p;exact p.elim
 |some o=>
  rw[hi] at p;cases o<;>first|exact p.elim|skip
  rename_i l;dsimp only at p;by_cases q:sz l.length=ah
  ·rw[if_pos q] at p;refine gg λG k_=>?_
   obtain⟨a',d',gz,rfl,us,n,el,rl⟩:=I.objs i _ hi;refine k_ ?_;rw[hr] at gz;cases gz;refine grow (call_tuple_list (hsz:=by rw[<-cz,rl.length];exact dQ q) ⟨_,el,rfl,n,rfl⟩ λh' k p_=>?_);have k':∀b o,s.heap.get? b=some o->(h'.push {cls:=.type "tuple",data:=.seq us}).get? b=some o:=λb o e=>az _ (k b o e)
   exact p ρ _ _ s.toks (I.keeps k' p_) (Ext.of_keeps k' p_) ⟨h'.objs.size,_,us,_,rfl,a8 _ rfl,rfl,rfl,aR.mono (λb o _ _ e _ _=>⟨o.slots,k' b o e⟩) (a_ _) _ _ rl⟩
  ·rw[if_neg q] at p;exact p.elim
theorem uF{p:PV}{b:List UInt8}(e:bytesOf (p::l)=some b):∃a r,p=.int a/\(0<=a/\a<256)/\bytesOf l=some r/\a.toNat.toUInt8::r=b:=by
 cases p with
 |int a=>
  change(if 0<=a/\a<256 then(bytesOf l).map (a.toNat.toUInt8::·) else none)=some b at e;split at e
  ·rename_i q;obtain⟨r,h⟩:=aS.mp e;exact⟨a,r,rfl,q,h⟩
  ·cases e
 |_=>cases e
theorem uG:∀{vs:List Value} {b:List UInt8},aR ρ h l vs->bytesOf l=some b->∃ns,IntsAre vs ns/\(∀n∈ns,0<=n/\n<256)/\byteArr ns=b.toArray:=by
 induction l with
 |nil=>intro vs b r e;rw[show vs=[] from r,<-ao e];exact⟨[],.nil,(λ_ h=>nomatch h),rfl⟩
 |cons p l ih=>
  intro vs b ⟨V,u,e0,r1,r2⟩ e;refine gg λG k_=>?_
  obtain⟨a,r,e1,q,e2,e3⟩:=uF e;refine k_ ?_;rw[e1] at r1;obtain⟨t,e4⟩:=r1;obtain⟨ns,z1,z2,z3⟩:=ih r2 e2;rw[e0,e4,<-e3];exact⟨a::ns,.cons a t z1,dN.mpr ⟨q,z2⟩,congrArg (λx=>(a.toNat.toUInt8::x).toArray) (congrArg vG z3)⟩
theorem yq:typeLookup (.type "bytes") "__bytes__"=pure (some (.builtin "bytes.__bytes__")):=by rw[gR,eO];kernel_rfl
theorem BE{prog:fC}{b:Array UInt8}{t:Tok}(hQ:Q (.bytes b t) s):codeAny (model prog w) A (.call (.builtin "bytes.__new__") ⟨[.type "bytes",.bytes b t],[]⟩) (wants Q E) s:=by
 refine Ug ?_;show wpAny _ A.in1 (do checkBuiltinCall "bytes.__new__" ⟨[.type "bytes",.bytes b t],[]⟩;again (.builtin "bytes.__new__" ⟨[.type "bytes",.bytes b t],[]⟩)) _ _ s;refine ag (cu (PySem.F.bm_newCall _) (aE ⟨qg Av _,gQ PySem.F.bm_entry ?_⟩));rw[fM Av _];have hT:=dw s b t;unfold Builtin.«bytes.__new__»;refine ag (cu (a:=ah) rfl ?_);refine Hi rfl ?_;refine ag (cu PySem.F.bm_sub ?_);refine Hi rfl ?_;refine ag (cu (PySem.F.bm_bind _) ?_);refine ag (cu (a:=()) rfl ?_);refine ag (cu (a:=()) rfl ?_);refine Hi rfl ?_;refine ag (Uk hT yq ?_);refine ag (gj ?_);refine ag (jx hT ?_);refine bm_if_true (by decide) ?_;exact aE hQ
theorem oA{prog:fC}{b:Array UInt8}{t:Tok}(hQ:Q (.bytes b t) s):wpAny (model prog w) A (bU (.type "bytes") [.bytes b t]) Q E s:=by
 refine UU (Q₁:=λobj cH=>cH.TypeIs obj "bytes"/\Q obj cH) mU (PySem.F.bm_typeCall _) PySem.F.entry_object_init (BE ⟨dw _ _ _,hQ⟩) λobj cH bo=>?_
 exact⟨bo.1,PySem.F.args_object_init_2 obj _,object_init_meets mU.init.lookup mU.made (by decide) prog w A.in1 _ cH ⟨bo.1,rfl,bo.2⟩⟩
theorem aG.bytes(K:C.Ok)(I:Inv w H0 C ρ st s.heap)(r:a7 ρ s.heap v V):aG w H0 C cv ρ st s (bU (.type "bytes") [V]) (qN v):=by
 intro Q E p;cases v<;>first|exact p.elim|skip
 ·obtain⟨t,rfl⟩:=r;exact oA (p ρ _ s.heap s.toks I (.refl ..) ⟨t,rfl⟩)
 rename_i i;obtain⟨a,d,rfl,hr⟩:=r;unfold qN at p;dsimp only at p;cases hi:st.hp[i]?with
 |none=>rw[hi] at p;exact p.elim
 |some o=>
  rw[hi] at p;cases o<;>first|exact p.elim|skip
  rename_i l;dsimp only at p;by_cases q:sz l.length=ah
  ·rw[if_pos q] at p;cases hb:bytesOf l with
   |none=>rw[hb] at p;exact p.elim
   |some b=>
    rw[hb] at p;refine gg λG k_=>?_
    obtain⟨a',d',gz,rfl,us,n,el,rl⟩:=I.objs i _ hi;refine k_ ?_;rw[hr] at gz;cases gz;obtain⟨ns,z1,z2,z3⟩:=uG rl hb;refine grow (call_bytes_ints (vs:=us.toList) ⟨_,el,rfl,n,by simp⟩ z1 z2 (by rw[rl.length];exact dQ q) K.hd λh' t k kp p_=>?_);exact z3.symm▸p ρ _ h' k (I.keeps kp p_) (Ext.of_keeps kp p_) ⟨t,rfl⟩
  ·rw[if_neg q] at p;exact p.elim
theorem aG.pop(I:Inv w H0 C ρ st s.heap)(r:a7 ρ s.heap v V):aG w H0 C cv ρ st s (bU (.builtin "list.pop") [V]) (Fz v):=by
 intro Q E p;cases v<;>first|exact p.elim|skip
 rename_i i;obtain⟨a,d,rfl,hr⟩:=r;unfold Fz at p;dsimp only at p;cases hi:st.hp[i]?with
 |none=>rw[hi] at p;exact p.elim
 |some o=>
  rw[hi] at p;cases o<;>first|exact p.elim|skip
  rename_i l;dsimp only at p;by_cases q:sz l.length=ah
  ·rw[if_pos q] at p;cases hl:l.getLast? with
   |none=>rw[hl] at p;exact p.elim
   |some x=>
    rw[hl] at p;refine gg λG k_=>?_
    obtain⟨a',d',gz,rfl,us,n,el,rl⟩:=I.objs i _ hi;refine k_ ?_;rw[hr] at gz;cases gz;have p_:us.size=l.length:=by rw[<-cz,rl.length]
    rw[List.getLast?_eq_getElem?] at hl;obtain⟨X,hX,rX⟩:=rl.get hl;refine Copied.pop_at (hsz:=by rw[p_];exact dQ q) el (by rw[p_];simpa using hX) λh' hs hg=>?_
    have rd:aR ρ s.heap l.dropLast us.pop.toList:=by
     simp only[Array.toList_pop,xg,xg,rl.length];have:=rl.cut none (some ((l.length-1:Nat):Int));unfold cut at this;simp only[lB,l4,xm,rl.length] at this;have e1:clipAt l.length ((l.length-1:Nat):Int)=l.length-1:=by rw[qx];exact gA (dU _ _)
     rw[e1] at this;exact this
    obtain⟨I',X'⟩:=I.put (x:=a) (o':=.list l.dropLast) hr (.inl rfl) (λb hb=>hs.2 b hb) hs.1 ⟨_,hg,by simp⟩ λm1 m2=>⟨rfl,_,_,hg,m2 _ _ rd⟩
    exact p ρ X h' s.toks I' X' (a7.ext I X' _ _ rX)
  ·rw[if_neg q] at p;exact p.elim
end
set_option backward.match.sparseCases true
section
open Builtin
noncomputable def gX:List (List UInt8):=[[113],[84,106],[82],[39],[84,42],[66,88],[102]]
noncomputable def du(b:List UInt8):Str:=⟨(b.map (·.toNat)).toArray⟩
section
variable{c:UInt8}{cs:List UInt8}{t:Tok}
theorem A5(u:Tok):«bytes.decode» ⟨[.bytes (c::cs).toArray t,.str (b_ "ascii") u],[]⟩=(mkStr (b_ "utf-8")>>=λ_=>mkStr (b_ "ascii")>>=λe=>mkStr (b_ "bytes.decode")>>=λd=>
 call (.builtin "_codecs.decode.text") [.bytes (c::cs).toArray t,e,.none,d]>>=λv=>ret v):=by kernel_rfl
theorem Ds{id:String}{b:Array UInt8}:_codecs.decodeRoad id b (b_ "ascii") none []=(_codecs.runDecoder id _codecs.asciiDecoder none ah b 0 []>>=λr=>mkStr ⟨r.1⟩):=by kernel_rfl
theorem Dt{b:Array UInt8}{x:Str}{t1 t2:Tok}{d:PySem.Str}(hd:∀id,_codecs.runDecoder id _codecs.asciiDecoder none ah b 0 []=pure (x.cps,n)):
 Meets («_codecs.decode.text» ⟨[.bytes b t,.str (b_ "ascii") t1,.none,.str d t2],[]⟩) (λ_ R s=>x.length<=sizeLine/\R (.ok (.ret (.str x s.toks))) {s with toks:=s.toks+1}):=by
 refine .of_wp λprog w A R s hS=>?_
 obtain⟨hsz,h⟩:=hS;show wpAny _ _ (Bytes.bytesLike _ (.bytes b t)>>=λr=>_) _ _ s;refine ag (cu KBd.like_eq ?_);refine ag (cu KBd.held_eq ?_);show wpAny _ _ (_codecs.decodeRoad _ b (b_ "ascii") none []>>=λv=>_) _ _ s;rw[Ds,hd];refine ag (ag (aE ?_));exact oj (aE ⟨_,rfl,h⟩) hsz
theorem A6{u:Tok}{x:Str}(hd:∀id,_codecs.runDecoder id _codecs.asciiDecoder none ah (c::cs).toArray 0 []=pure (x.cps,n)):
 Meets («bytes.decode» ⟨[.bytes (c::cs).toArray t,.str (b_ "ascii") u],[]⟩) (λ_ R s=>x.length<=sizeLine/\∀t' k,R (.ok (.ret (.str x t'))) {s with toks:=k}):=by
 refine .of_wp λprog w A R s hS=>?_
 obtain⟨hsz,h⟩:=hS;rw[A5];refine ag (oj ?_ (by decide));refine ag (oj ?_ (by decide));refine ag (oj ?_ (by decide));exact ag (call_function_meets KBd.kind_text KBd.plain_text KBd.entry_text (KBd.args_text _ _ _ _) (Dt hd) ⟨hsz,aE ⟨_,rfl,h _ _⟩⟩)
end
theorem Dr(a b:Value):argsOk "bytes.decode" ⟨[a,b],[]⟩:=by
 unfold argsOk;kernel_rfl
theorem A8:∀b∈gX,∃c cs n,b=c::cs/\∀id,_codecs.runDecoder id _codecs.asciiDecoder none ah (c::cs).toArray 0 []=pure ((du b).cps,n):=by
 intro b hb;simp only[gX,aP,aJ,or_false] at hb;rcases hb with rfl|rfl|rfl|rfl|rfl|rfl|rfl
 ·exact⟨_,_,1,rfl,λ_=>by kernel_rfl⟩
 ·exact⟨_,_,2,rfl,λ_=>by kernel_rfl⟩
 ·exact⟨_,_,1,rfl,λ_=>by kernel_rfl⟩
 ·exact⟨_,_,1,rfl,λ_=>by kernel_rfl⟩
 ·exact⟨_,_,2,rfl,λ_=>by kernel_rfl⟩
 ·exact⟨_,_,2,rfl,λ_=>by kernel_rfl⟩
 ·exact⟨_,_,1,rfl,λ_=>by kernel_rfl⟩
def ql:PV->PV->M PV
 |.bytes b,.str x=>if x=b_ "ascii"/\b∈gX then pure (.str (du b)) else M.bad
 |_,_=>M.bad
section
variable{C:Cx}{rel:eS->Heap->β->α->Prop}
theorem aG.decode{x:PV}{X:Value}(I:Inv w H0 C ρ st s.heap)(r:a7 ρ s.heap v V)(rx:a7 ρ s.heap x X):aG w H0 C cv ρ st s (bU (.builtin "bytes.decode") [V,X]) (ql v x):=by
 cases v<;>cases x<;>first|exactλ_ _ p=>p.elim|skip
 rename_i b x;obtain⟨t,rfl⟩:=r;obtain⟨u,rfl⟩:=rx;unfold ql;dsimp only;by_cases q:x=b_ "ascii"/\b∈gX
 ·rw[if_pos q];obtain⟨rfl,hb⟩:=q;refine gg λG k_=>?_
  obtain⟨c,cs,n,rfl,hd⟩:=A8 b hb;refine k_ ?_;refine .give I λQ E q'=>xo Ck (dw _ _ _) FB.entry_bytes_decode (Dr _ _) (A6 hd) ⟨?_,λt' k=>q' _ _ ⟨_,rfl⟩⟩
  rw[eY];simp only[gX,aP,aJ,or_false] at hb;rcases hb with h|h|h|h|h|h|h<;>rw[h]<;>decide
 ·rw[if_neg q];exactλ_ _ p=>p.elim
end
def findR(b sub:Array UInt8)(i j:Int):Int:=
 match(if(Bytes.window b.size (some i) (some j)).2-(Bytes.window b.size (some i) (some j)).1<sub.size then none else some ((Bytes.window b.size (some i) (some j)).1.toNat,(Bytes.window b.size (some i) (some j)).2.toNat)).bind λx=>Bytes.find? b sub x.1 x.2 with
 |some k=>(k:Int)
 |none=>-1
section
variable{b sub:Array UInt8}{i j:Int}{t u t1 t2:Tok}
theorem AX:Bytes.bound? (some (.int i t))=pure (some i):=by
 have e:specialOf (.int i t) "__index__"=typeLookup (.type "int") "__index__":=rfl;unfold Bytes.bound?;dsimp only[e,PySem.int_index];rfl
theorem wV:Bytes.searchArgs .bytes "find" ⟨[.bytes b t,.bytes sub u,.int i t1,.int j t2],[]⟩=
 pure (b,sub,if(Bytes.window b.size (some i) (some j)).2-(Bytes.window b.size (some i) (some j)).1<sub.size then none else some ((Bytes.window b.size (some i) (some j)).1.toNat,(Bytes.window b.size (some i) (some j)).2.toNat)):=by
 unfold Bytes.searchArgs;have e:∀id:String,selfAndSome id "find" 1 3 ⟨[.bytes b t,.bytes sub u,.int i t1,.int j t2],[]⟩=pure (.bytes b t,[.bytes sub u,.int i t1,.int j t2]):=λ_=>rfl
 dsimp only;rw[e];rw[pure_bind,List.getElem?_cons_succ,List.getElem?_cons_zero,AX,List.headD_cons,KBy.buffer_eq];rfl
theorem x8:Gives («bytes.find» ⟨[.bytes b t,.bytes sub u,.int i t1,.int j t2],[]⟩) (.int (findR b sub i j)):=by
 refine .of_wp λM A E s Q hq=>?_
 show wpAny M A (Bytes.searchM .bytes "find" aj aj _) _ E s;unfold Bytes.searchM;refine ag (cu wV ?_);dsimp only[cJ,if_false];unfold findR at hq;show wpAny M A (match(if(Bytes.window b.size (some i) (some j)).2-(Bytes.window b.size (some i) (some j)).1<sub.size then none else some ((Bytes.window b.size (some i) (some j)).1.toNat,(Bytes.window b.size (some i) (some j)).2.toNat)).bind λx=>Bytes.find? b sub x.1 x.2 with
  |some i=>retInt i
  |none=>(rule _>>=λ_=>retInt (-1))) _ E s
 revert hq;generalize((if(Bytes.window b.size (some i) (some j)).2-(Bytes.window b.size (some i) (some j)).1<sub.size then none else some ((Bytes.window b.size (some i) (some j)).1.toNat,(Bytes.window b.size (some i) (some j)).2.toNat)).bind λx=>Bytes.find? b sub x.1 x.2:Option Nat)=r;intro hq;cases r with
 |some k=>exact ag (Hk (aE ⟨_,rfl,hq⟩))
 |none=>exact ag (gj (ag (Hk (aE ⟨_,rfl,hq⟩))))
theorem Bh(a b c d:Value):argsOk "bytes.find" ⟨[a,b,c,d],[]⟩:=by
 unfold argsOk;kernel_rfl
end
def D7:PV->PV->PV->PV->M PV
 |.bytes b,.bytes x,.int i,.int j=>pure (.int (findR b.toArray x.toArray i j))
 |_,_,_,_=>M.bad
section
variable{C:Cx}{rel:eS->Heap->β->α->Prop}
theorem aG.find{x y z:PV}{X Z:Value}(I:Inv w H0 C ρ st s.heap)(r:a7 ρ s.heap v V)(rx:a7 ρ s.heap x X)(ry:a7 ρ s.heap y Y)(rz:a7 ρ s.heap z Z):aG w H0 C cv ρ st s (bU (.builtin "bytes.find") [V,X,Y,Z]) (D7 v x y z):=by
 cases v with
 |bytes v=>cases x with
  |bytes x=>cases y with
   |int y=>cases z with
    |int z=>
     obtain⟨t,rfl⟩:=r;obtain⟨u,rfl⟩:=rx;obtain⟨t1,rfl⟩:=ry;obtain⟨t2,rfl⟩:=rz;exact .give I λQ E q'=>call_gives j_ (dw _ _ _) oG (Bh _ _ _ _) x8 (q' _ _ ⟨_,rfl⟩)
    |_=>exactλ_ _ p=>p.elim
   |_=>exactλ_ _ p=>p.elim
  |_=>exactλ_ _ p=>p.elim
 |_=>exactλ_ _ p=>p.elim
end
end
set_option backward.match.sparseCases false
section
open Builtin
theorem Jz{id:String}{b:Array UInt8}{t:Tok}:Bytes.takeBufferQuiet? id (.bytes b t) 0=pure (some (b,none)):=by
 unfold Bytes.takeBufferQuiet? Bytes.takeBuffer?;rw[KBy.special_eq KBy.look_buffer,KBy.own_buffer];dsimp only[pure_bind];kernel_rfl
noncomputable abbrev G1:=List (Array UInt8×Tok)
noncomputable def tG(l:G1):List Value:=l.map λp=>.bytes p.1 p.2
noncomputable def kK(l:G1):List (Value×Option Value):=l.map λp=>(.bytes p.1 p.2,none)
theorem vR(l:G1):(kK l).any (λx=>x.1.onHeap)=aj:=by
 rw[List.any_eq_false];intro x hx;obtain⟨p,_,rfl⟩:=bD.mp hx;exact fj
theorem vz{M:Model}{Q:Unit->aH->Prop}(keep:List Value)(h:Q () s)(l:G1):wpAny M A (Bytes.joinLetGo (kK l) keep) Q E s:=by
 induction l with
 |nil=>exact aE h
 |cons p l ih=>exact ag (wpAny_letGo ih)
theorem xH{M:Model}{bs:G1}(hn:n=bs.length){Q:Array (Array UInt8)×List (Value×Option Value)->aH->Prop}(f:Nat->Array (Array UInt8)×List (Value×Option Value)->Sem (ForInStep (Array (Array UInt8)×List (Value×Option Value))))
 (hf:∀i p (l:G1),bs[i]?=some p->bs.take i=l->∀Q':ForInStep (Array (Array UInt8)×List (Value×Option Value))->aH->Prop,Q' (.yield ((l.map (·.1)).toArray.push p.1,kK l++[(.bytes p.1 p.2,none)])) s->wpAny M A (f i ((l.map (·.1)).toArray,kK l)) Q' E s)
 (h:Q ((bs.map (·.1)).toArray,kK bs) s):wpAny M A (forIn [:n] (#[],[]) f) Q E s:=by
 subst hn;rw[Std.Legacy.Range.forIn_eq_forIn_range'];dsimp only[Std.Legacy.Range.size,xm,n4,Nat.div_one];refine wpAny_forIn_list _ (λrest b s'=>∃i,s'=s/\rest=d_ i (bs.length-i)/\i<=bs.length/\b=(((bs.take i).map (·.1)).toArray,kK (bs.take i))) _ ?_ ?_ _ _ ⟨0,rfl,by simp,df _,by simp[kK]⟩
 ·rintro x rest b s' ⟨i,rfl,hr,hi,rfl⟩
  have pX:i<bs.length:=by
   rcases kF i bs.length with h|h
   ·exact h
   ·rw[lQ h] at hr;simp at hr
  obtain⟨rfl,zr⟩:x=i/\rest=d_ (i+1) (bs.length-(i+1)):=by
   have e:bs.length-i=(bs.length-(i+1))+1:=(tv (yX pX)).symm;rw[e,GV] at hr
   injection hr with h1 h2
   exact⟨h1,h2⟩
  have e:=bp pX;refine hf x _ _ e rfl _ ⟨x+1,rfl,zr,pX,?_⟩;rw[pe,e];simp only[kK,cw,bH,Option.toList,List.map_nil,List.push_toArray]
 ·rintro b s' ⟨i,rfl,hr,hi,rfl⟩
  have ZY:i=bs.length:=by
   rcases kF i bs.length with h|h
   ·have e:bs.length-i=(bs.length-(i+1))+1:=(tv (yX h)).symm;rw[e,GV] at hr;exact nomatch hr
   ·exact ly hi h
  subst ZY;exact j0.symm▸h
theorem AQ{bs:G1}{p:Array UInt8×Tok}(h:bs[i]?=some p):(tG bs).toArray.getD i .none=.bytes p.1 p.2:=by
 unfold tG;simp[h]
theorem OO{M:Model}{Q:α->aH->Prop}{f:Value->Sem α}{g:Sem α}(bs:G1)(h1:∀p,bs=[p]->wpAny M A (f (.bytes p.1 p.2)) Q E s)(h2:wpAny M A g Q E s):wpAny M A (match(tG bs).toArray with
 |#[x]=>f x
 |_=>g) Q E s:=by
 rcases bs with _|⟨p,_|⟨q,bs⟩⟩
 ·exact h2
 ·exact h1 p rfl
 ·exact h2
theorem vS{t:Tok}(bs:G1):
 Meets («bytes.join» ⟨[.bytes #[] t,.ref a],[]⟩) (λ_ R s=>s.heap.IsList a (tG bs).toArray/\Bytes.tooLong (((bs.map (·.1)).toArray).foldl (·+·.size) 0)=aj/\(Bytes.joined #[] (bs.map (·.1))).size<=sizeLine/\
  ∀t' k,R (.ok (.ret (.bytes (Bytes.joined #[] (bs.map (·.1))) t'))) {s with toks:=k}):=by
 refine .of_wp λprog w A R s hS=>?_
 refine gg λG k_=>?_
 obtain⟨hl,hz,WD,h⟩:=hS;refine k_ ?_;have Ik:=hl.typeIs;refine gg λG k_=>?_
 obtain⟨o,ho,hc,n,hd⟩:=id hl;refine k_ ?_;show wpAny _ _ (Bytes.joinM .bytes _) _ _ s;unfold Bytes.joinM;dsimp only;refine ag (cu (rfl:selfAndOne _ _=pure (xn #[] t,cG a)) ?_);rw[if_pos (by decide)];refine ag ?_;delta Bytes.joinItems;dsimp only;refine ag (jx Ik ?_);rw[if_pos (by decide)];refine aE ?_;refine ag (eM ho hd ?_);dsimp only;rw[if_pos (by decide)];refine OO bs (λp e=>?_) ?_
 ·subst e;refine ag (jx (dw s p.1 p.2) ?_);rw[if_pos (by decide)];refine ag (gj ?_);have e:Bytes.joined #[] ([p].map (·.1))=p.1:=by
   unfold Bytes.joined;simp
  rw[e] at h;exact aE ⟨_,rfl,h p.2 s.toks⟩
 ·refine ag (xH (bs:=bs) (by unfold tG;simp) _ (λi p l hp hl Q' q=>?_) ?_)
  ·refine ag (eM ho hd ?_);dsimp only;rw[vR,if_neg (by decide),AQ hp];refine ag (bS (cu Jz ?_));refine ag (eM ho hd ?_);dsimp only;rw[if_neg (by simp)];exact aE q
  ·dsimp only;refine ag (aE ?_);rw[show(#[]:Array UInt8).size=0 from rfl,Nat.zero_mul,hz,if_neg (by decide)];refine ag (wpAny_mkBytes ?_ WD);refine ag (bS (wpAny_point ?_));exact ag (vz _ (aE ⟨_,rfl,h _ _⟩) _)
noncomputable def strsOf:List PV->Option (List Str)
 |[]=>some []
 |.str x::l=>(strsOf l).map (x::·)
 |_=>none
noncomputable def gD:List PV->Option (List (List UInt8))
 |[]=>some []
 |.bytes x::l=>(gD l).map (x::·)
 |_=>none
def pF:PV->PV->M PV:=λv l st=>match l with
 |.ref i=>match st.hp[i]?with
  |some (.list l)=>if sz l.length then(match v with
   |.str x=>match strsOf l with
    |some ss=>if x=mO/\(ss.all λs=>s.length==1)=ah then .ok (.str ⟨(ss.flatMap λs=>s.cps.toList).toArray⟩) st else .bad
    |none=>.bad
   |.bytes b=>match gD l with
    |some ss=>if b=[]/\sz ss.flatten.length=ah then .ok (.bytes ss.flatten) st else .bad
    |none=>.bad
   |_=>.bad) else .bad
  |_=>.bad
 |_=>.bad
section
variable{C:Cx}{rel:eS->Heap->β->α->Prop}
theorem yG{p:PV}{ss:List Str}(e:strsOf (p::l)=some ss):∃x Og,p=.str x/\strsOf l=some Og/\ss=x::Og:=by
 cases p with
 |str x=>
  obtain⟨b,e1,e2⟩:=aS.mp (show(strsOf l).map (x::·)=some ss from e);exact⟨x,b,rfl,e1,e2.symm⟩
 |_=>exact nS e
theorem uH{p:PV}{ss:List (List UInt8)}(e:gD (p::l)=some ss):∃x Og,p=.bytes x/\gD l=some Og/\ss=x::Og:=by
 cases p with
 |bytes x=>
  obtain⟨b,e1,e2⟩:=aS.mp (show(gD l).map (x::·)=some ss from e);exact⟨x,b,rfl,e1,e2.symm⟩
 |_=>exact nS e
theorem yH:∀{vs:List Value} {ss:List Str},aR ρ h l vs->strsOf l=some ss->∃k:List (Str×Tok),vs=strValues k/\k.map (·.1)=ss:=by
 induction l with
 |nil=>intro vs ss r e;cases e;obtain rfl:=r;exact⟨[],rfl,rfl⟩
 |cons p l ih=>
  intro vs ss r e;obtain⟨V,u,rfl,r1,r2⟩:=r;obtain⟨x,Og,rfl,e1,rfl⟩:=yG e;obtain⟨t,rfl⟩:=r1;obtain⟨k,rfl,rfl⟩:=ih r2 e1;exact⟨(_,t)::k,rfl,rfl⟩
theorem uI:∀{vs:List Value} {ss:List (List UInt8)},aR ρ h l vs->gD l=some ss->∃k:G1,vs=tG k/\k.map (·.1)=ss.map iV:=by
 induction l with
 |nil=>intro vs ss r e;cases e;obtain rfl:=r;exact⟨[],rfl,rfl⟩
 |cons p l ih=>
  intro vs ss r e;refine gg λG k_=>?_
  obtain⟨V,u,rfl,r1,r2⟩:=r;obtain⟨x,Og,rfl,e1,rfl⟩:=uH e;obtain⟨t,rfl⟩:=r1;obtain⟨k,rfl,q⟩:=ih r2 e1;refine k_ ?_;exact⟨(_,t)::k,rfl,by rw[bH,q];rfl⟩
theorem pG(ss:List (List UInt8)):Bytes.joined #[] (ss.map iV)=ss.flatten.toArray:=by
 have key:∀(l:List (List UInt8)) (n:Nat) (acc:Array UInt8),((l.map iV).zipIdx n).foldl (λout (x:Array UInt8×Nat)=>(if x.2>0 then out++#[] else out)++x.1) acc=acc++l.flatten.toArray:=by
  intro l;induction l with
  |nil=>intro n acc;simp
  |cons x l ih=>
   intro n acc;simp only[bH,List.zipIdx_cons,kE,ih];simp
 have:=key ss 0 #[];unfold Bytes.joined;simp only[show(λ(out:Array UInt8) (x:Array UInt8×Nat)=>match x with|(p,i)=>(if i>0 then out++#[] else out)++p)=λout (x:Array UInt8×Nat)=>(if x.2>0 then out++#[] else out)++x.1 from rfl,this];simp
theorem yM(ss:List (List UInt8)):∀n:Nat,((ss.map iV).toArray).foldl (λa b=>a+b.size) n=n+ss.flatten.length:=by
 induction ss with
 |nil=>intro n;rfl
 |cons x l ih=>
  intro n;have:=ih (n+x.length);simp only[bH,An,kE,gO,pb,av] at this⊢;lia
theorem x_(ss:List Str):Ay mO ss=⟨(ss.flatMap λs=>s.cps.toList).toArray⟩:=by
 have key:∀(l:List Str) (acc:Array Nat),l.foldl (λ(acc:Array Nat) (p:Str)=>acc++mO.cps++p.cps) acc=acc++(l.flatMap λs=>s.cps.toList).toArray:=by
  intro l;induction l with
  |nil=>intro acc;simp
  |cons x l ih=>
   intro acc;simp only[kE,ih,Cy,<-Cw];simp[mO]
 delta Ay UQ;rw[key];cases ss with
 |nil=>rfl
 |cons x l=>simp
theorem vO{ss:List Str}(h:(ss.all λs=>s.length==1)=ah):∀n:Nat,ss.toArray.foldl (λa b=>a+b.length+mO.length) n=n+ss.length:=by
 induction ss with
 |nil=>intro n;rfl
 |cons x l ih=>
  intro n;rw[dJ,aI,beq_iff_eq] at h;have:=ih h.2 (n+1);simp only[An,kE,cA,h.1] at this⊢;show TX _ (n+1+0) l=_;simp only[f7,this];lia
theorem aG.join{x:PV}{X:Value}(I:Inv w H0 C ρ st s.heap)(r:a7 ρ s.heap v V)(rx:a7 ρ s.heap x X):aG w H0 C cv ρ st s (bU (.builtin (match v with|.str _=>"str.join"|_=>"bytes.join")) [V,X]) (pF v x):=by
 intro Q E p;cases x<;>first|exact p.elim|skip
 rename_i i;obtain⟨a,d,rfl,hr⟩:=rx;unfold pF at p;dsimp only at p;cases hi:st.hp[i]?with
 |none=>rw[hi] at p;exact p.elim
 |some o=>
  rw[hi] at p;cases o<;>first|exact p.elim|skip
  rename_i l;dsimp only at p;by_cases q:sz l.length=ah
  case neg=>rw[if_neg q] at p;exact p.elim
  rw[if_pos q] at p;obtain⟨a',d',gz,rfl,us,n,el,rl⟩:=I.objs i _ hi;rw[hr] at gz;cases gz;cases v<;>first|exact p.elim|skip
  ·rename_i x;obtain⟨t,rfl⟩:=r;dsimp only at p⊢;cases hs:strsOf l with
   |none=>rw[hs] at p;exact p.elim
   |some ss=>
    rw[hs] at p;dsimp only at p;by_cases c:x=mO/\(ss.all λs=>s.length==1)=ah
    case neg=>rw[if_neg c] at p;exact p.elim
    rw[if_pos c] at p;obtain⟨rfl,c⟩:=c;obtain⟨k,hk,En⟩:=yH rl hs;have hlen:ss.length=l.length:=by simp only[<-rl.length,hk,<-En];simp[strValues]
    refine PySem.SC.join (l:=k) (texts:=ss) ⟨_,el,rfl,n,by rw[<-hk]⟩ En ?_ λt' kk=>?_
    ·unfold JoinOk;simp only[vO c,aZ,hlen];unfold UR;have:=dQ q;simp;omega
    ·rw[x_];exact p ρ _ s.heap kk I (.refl ..) ⟨_,rfl⟩
  ·rename_i x;obtain⟨t,rfl⟩:=r;dsimp only at p⊢;cases hs:gD l with
   |none=>rw[hs] at p;exact p.elim
   |some ss=>
    rw[hs] at p;dsimp only at p;by_cases c:x=[]/\sz ss.flatten.length=ah
    case neg=>rw[if_neg c] at p;exact p.elim
    rw[if_pos c] at p;obtain⟨rfl,c⟩:=c;obtain⟨k,hk,En⟩:=uI rl hs;refine xo j' (dw _ _ _) oH (by unfold argsOk;kernel_rfl) (vS k) ⟨⟨_,el,rfl,n,by rw[<-hk]⟩,?_,?_,λt' kk=>?_⟩
    ·rw[En,yM,aZ];unfold Bytes.tooLong;have:=dQ c;exact decide_eq_false (by lia)
    ·rw[En,pG];have:=dQ c;simpa using this
    ·rw[En,pG];exact p ρ _ s.heap kk I (.refl ..) ⟨_,rfl⟩
end
end
section
open Builtin
theorem vg:typeLookup (.type "list") "keys"=pure none:=by rw[gR,eO];kernel_rfl
theorem yp:typeLookup (.type "list") "__getattr__"=pure none:=by rw[gR,eO];kernel_rfl
theorem yI:isSubtype (.type "AttributeError") (.type "AttributeError")=pure ah:=by rw[og];kernel_rfl
theorem E8{M:Model}{A:e_}{E:Value->aH->Prop}{e:Addr}{T o nm:Value}{Q:Unit->aH->Prop}(he:s.heap.get? e=some {cls:=.type "AttributeError",data:=.fields #[T,.none,.none,.none,.bool aj,.none,unsetMember,unsetMember]})
 (h:∀f:Array Value->Array Value,Q () {s with heap:=s.heap.update e (nX f)}):wpAny M A (noteAttr (.ref e) o nm) Q E s:=by
 have hT:s.TypeIs (.ref e) "AttributeError":=⟨_,he,rfl⟩;unfold noteAttr;refine ag ?_;unfold lacksNameAndObj;refine ag (eH hT yI ?_);rw[if_neg (by decide)];refine ag (qy he ?_);refine Ui (λq=>absurd q fj) λ_=>?_
 refine Ui (λq=>absurd q fj) λ_=>?_
 refine aE ?_;rw[if_pos rfl];refine ag (gj ?_);refine ag (jx hT ?_);unfold layMembers;refine ag (qy he ?_);exact wpAny_update he (h _)
section
variable{prog:fC}{g:Array sM}{d:Drawn}{t:Nat}{os:iX}{vs:Array Value}
theorem yn{tk:Tok}{Q:Fin->aH->Prop}(hh:A.handled=none)(hx:h.get? a=some {cls:=.type "list",data:=.seq vs n})
 (hq:∀h' tk e,(∀b o,h.get? b=some o->h'.get? b=some o)->h.objs.size<=h'.objs.size->(∃oe,h'.get? e=some oe/\oe.cls=.type "AttributeError")->E (.ref e) ⟨h',g,d,tk,os⟩):
  wpAny (model prog w) A (Builtin.«object.__getattribute__» ⟨[.ref a,.str "keys" tk],[]⟩) Q E ⟨h,g,d,t,os⟩:=by
 have hT:(⟨h,g,d,t,os⟩:aH).TypeIs (.ref a) "list":=⟨_,hx,rfl⟩;have f4:=vg
 repeat(any_goals (first|assumption|wp_step))
 unfold raiseAttrError;refine ag (oj ?_ (by decide));delta newExc newTuple;refine ag (ag (b5 ?_ (by size_fits)));refine ag (m:=firstArgMember _ _) (cu (a:=bT) (by kernel_rfl) ?_);refine b5 ?_ (by size_fits);refine ag (jw ?_);refine ag ?_;refine E8 (a8 _ rfl) λf=>?_
 refine J7 hh (hq _ _ _ (λb o hb=>?_) ?_ ⟨_,cD _ (a8 _ rfl) (lR (n6 rfl _)),GY _ _⟩)
 ·rw[cp _ _ (cO (aB (aK hb) (by simp)))];exact az _ (az _ hb)
 ·simp;lia
theorem Br{Q:Option Value->aH->Prop}(hh:A.handled=none)(hx:h.get? a=some {cls:=.type "list",data:=.seq vs n})
 (hq:∀h' tk,(∀b o,h.get? b=some o->h'.get? b=some o)->h.objs.size<=h'.objs.size->Q none ⟨h',g,d,tk,os⟩):
  wpAny (model prog w) A (getAttr? (.ref a) "keys") Q E ⟨h,g,d,t,os⟩:=by
 have hT:(⟨h,g,d,t,os⟩:aH).TypeIs (.ref a) "list":=⟨_,hx,rfl⟩;have f2:=eW.lookup;have f3:=eW.bind (.ref a);unfold getAttr? getAttrBy?
 repeat(any_goals (first|assumption|wp_step))
 refine i3 eW.plain PySem.F.entry_list_ga (eW.check _ _ _ _ _ _ _ _ hT (PySem.F.args_list_getattribute_2 _ _) (yn hh hx λh' tk e kp sz ae=>?_));obtain⟨oe,he,hc⟩:=ae;have Q9:(⟨h',g,d,tk,os⟩:aH).TypeIs (.ref e) "AttributeError":=⟨_,he,hc⟩;unfold getattributeRaised;refine ag (eH Q9 yI ?_);rw[if_pos rfl];refine ag (cu (a:=none) (show hookBehind (.type "list") none=pure none from yp) ?_);delta hookOrError attributeErrorLeaves;refine om ?_;refine ag (eH Q9 yI ?_);exact(if_pos rfl).symm▸aE (hq h' tk kp sz)
end
theorem tN:entryFor table "dict.update.loop"=some Builtin.«dict.update.loop»:=lS (by kernel_rfl)
theorem lD:plainId "dict.update.loop"=ah:=by decide+kernel
noncomputable def Ti:PV->Option Str
 |.str k=>some k
 |_=>none
def Fp:PV->Option (Str×PV)
 |.tup l=>(match l with|[a,v]=>(Ti a).map (·,v)|_=>none)
 |_=>none
def kZ:List PV->Option (List (Str×PV))
 |[]=>some []
 |p::l=>(Fp p).bind λkv=>(kZ l).map (kv::·)
def vY:PV->M PV:=λv st=>match v with
 |.ref i=>match st.hp[i]?with
  |some (.list l)=>if sz l.length then(match kZ l with
   |some kvs=>.ok (.ref st.hp.length) {st with hp:=st.hp++[.dict (jb [] kvs)]}
   |none=>.bad) else .bad
  |_=>.bad
 |_=>.bad
def xw(h:Heap)(U:Value)(k:Str)(V:Value):Prop:=∃t o n tk,U=.ref t/\h.get? t=some o/\o.cls=.type "tuple"/\o.data=.seq #[.str k tk,V] n
section
variable{C:Cx}{rel:eS->Heap->β->α->Prop}
theorem BN{p:PV}{kv:Str×PV}(e:Fp p=some kv):p=.tup [.str kv.1,kv.2]:=by
 cases p with
 |tup xs=>cases xs with
  |nil=>exact nS e
  |cons x xs=>cases xs with
   |nil=>exact nS e
   |cons y xs=>cases xs with
    |nil=>
     obtain⟨k,h1,h2⟩:=aS.mp (show(Ti x).map (·,y)=some kv from e);cases x with
     |str k'=>rw[<-h2,<-ao h1]
     |_=>exact nS h1
    |cons z xs=>exact nS e
 |_=>exact nS e
theorem yA{p:PV}{kvs:List (Str×PV)}(e:kZ (p::l)=some kvs):∃k v EF,p=.tup [.str k,v]/\kZ l=some EF/\kvs=(k,v)::EF:=by
 refine gg λG k_=>?_
 obtain⟨kv,h1,h2⟩:=aD.mp (show(Fp p).bind (λkv=>(kZ l).map (kv::·))=some kvs from e);refine k_ ?_;obtain⟨EF,e1,e2⟩:=aS.mp h2;exact⟨_,_,EF,BN h1,e1,e2.symm⟩
theorem BP:∀{us:List Value} {kvs:List (Str×PV)},aR ρ h l us->kZ l=some kvs->∃kvV:List (Str×Value),kvV.map (·.1)=kvs.map (·.1)/\aR ρ h (kvs.map (·.2)) (kvV.map (·.2))/\kvV.length=us.length/\∀(j:Nat) (U:Value),us[j]?=some U->∃k V,kvV[j]?=some (k,V)/\xw h U k V:=by
 induction l with
 |nil=>
  intro us kvs r e;cases e
  obtain rfl:=r;exact⟨[],rfl,rfl,rfl,λj U e=>nS e⟩
 |cons p l ih=>
  intro us kvs r e;refine gg λG k_=>?_
  obtain⟨U,us,rfl,r1,r2⟩:=r;obtain⟨k,v,EF,rfl,e1,rfl⟩:=yA e;obtain⟨kvV,z1,z2,z3,z4⟩:=ih r2 e1;refine k_ ?_;clear ih r2 e1 e;obtain⟨V,rV,hp⟩:∃V,a7 ρ h v V/\xw h U k V:=by
   refine gg λG k_=>?_
   obtain⟨t,o,vs,n,rfl,g,c,d,A,r3,q1,⟨tk,rfl⟩,V,r4,q2,rV,q3⟩:=r1;refine k_ ?_;subst q3;subst q2;have ev:vs=#[.str k tk,V]:=by rw[<-q1]
   subst ev;exact⟨V,rV,t,o,n,tk,rfl,g,c,d⟩
  refine⟨(k,V)::kvV,congrArg (k::·) z1,⟨V,_,rfl,rV,z2⟩,congrArg (·+1) z3,λj U' e=>?_⟩;cases j with
  |zero=>exact⟨k,V,rfl,(ao e)▸hp⟩
  |succ j=>exact z4 j U' e
theorem Dy{D I:Addr}{n0:Nat}{kvV:List (Str×Value)}{R:n8->aH->Prop}{s:aH}(hh:A.handled=none)(hlen:kvV.length=us.size)(hz:us.size<=sizeLine)
 (hp:∀(j:Nat) (U:Value),us[j]?=some U->∃k V,kvV[j]?=some (k,V)/\xw h₀ U k V) (hL:h₀.get? L=some {cls:=.type "list",data:=.seq us n0}) (hD:h₀.objs.size<=D) (hI:h₀.objs.size<=I) (Wd:D≠I)
 (hR:∀h' tk,h'.DictOf (strKind pw w) D (merged [] kvV)->(∀b o,h₀.get? b=some o->h'.get? b=some o)->R (.ok (.ret .none)) {s with heap:=h',toks:=tk}):
 ∀(k j:Nat) (h:Heap) (tk:Nat),us.size-j=k->j<=us.size->(∀b o,h₀.get? b=some o->h.get? b=some o)->h.DictOf (strKind pw w) D (merged [] (kvV.take j))->h.IsListIter I L j->
  ∀z:Int,codeAny (model pw w) A (.builtin "dict.update.loop" ⟨[.ref D,.ref I,.int z 0,.none],[]⟩) R {s with heap:=h,toks:=tk}:=by
 intro k;induction k with
 |zero=>
  intro j h tk hk hj kp hd hit z;obtain rfl:j=us.size:=by lia
  refine gQ tN ?_;rw[fM lD _];show wpAny _ A.in1 (pyNext (.ref I)>>=_) _ _ _;refine ag (mn (s:={s with heap:=h,toks:=tk}) hh hit ⟨_,kp _ _ hL,rfl,n0,rfl⟩ (by simp) λh' hs p_=>?_);dsimp only at hs;show wpAny _ _ (T5 D []>>=_) _ _ _;refine ag (aE (aE (hR h' tk ?_ λb o e=>hs b o (λq=>absurd (aK e) (by rw[q];exact b0.mpr hI)) (kp b o e))));rw[<-hlen,j0] at hd;exact hd.at λo e=>hs _ _ Wd e
 |succ k ih=>
  intro j h tk hk hj kp hd hit z;have pX:j<us.size:=by lia
  refine gg λG k_=>?_
  obtain⟨kk,V,Z3,t,o,n,fJ,hU,ht,hc,Uu⟩:=hp j us[j] (dv pX);refine k_ ?_;refine gQ tN ?_;rw[fM lD _];show wpAny _ A.in1 (pyNext (.ref I)>>=_) _ _ _;refine ag (CR (s:={s with heap:=h,toks:=tk}) hit ⟨_,kp _ _ hL,rfl,n0,rfl⟩ (dv pX) λbo yc fS=>?_);dsimp only at fS;have zt:bo.get? t=some o:=(fS.2 t (λq=>absurd (aK ht) (by rw[q];exact b0.mpr hI))).trans (kp _ _ ht);rw[hU];dsimp only;refine ag (bS (ag (wpAny_tryCatch ?_)));unfold T6;refine ag (jx (T:="tuple") ⟨o,zt,hc⟩ ?_);rw[if_pos (by decide)];refine ag (eM zt Uu (aE ?_));show wpAny _ _ (holding [.str kk fJ,V] (dictSet D (.str kk fJ) V)) _ _ _;have Ri:bo.DictOf (strKind pw w) D (merged [] (kvV.take j)):=hd.at λo e=>(fS.2 _ Wd).trans e
  refine bS (J6 (k:=kk) (LI _ _ kk fJ) Ri (λdc rE gE=>?_) ?_)
  ·dsimp only at gE;refine aE ⟨qg lD _,ih (j+1) dc _ (by lia) pX (λb o e=>?_) ?_ ?_ (z+1)⟩
   ·have lb:=aK e;exact(gE.2 b (λq=>absurd lb (by rw[q];exact b0.mpr hD))).trans ((fS.2 b (λq=>absurd lb (by rw[q];exact b0.mpr hI))).trans (kp b o e))
   ·simp only[merged_take_succ [] kvV j (kk,V) Z3];exact rE
   ·obtain⟨o',e,r⟩:=yc;exact⟨o',(gE.2 _ Wd.symm).trans e,r⟩
  ·have e1:=merged_length_le [] (kvV.take j);have e2:=Aq j kvV;simp only[bE,aZ] at e1;lia
theorem aG.dict(B:Base w H0)(K:C.Ok)(I:Inv w H0 C ρ st s.heap)(r:a7 ρ s.heap v V):aG w H0 C cv ρ st s (bU (.type "dict") [V]) (vY v):=by
 intro Q E p;unfold vY at p;cases v<;>first|exact p.elim|skip
 rename_i i;obtain⟨a,d,rfl,hr⟩:=r;dsimp only at p;cases hi:st.hp[i]?with
 |none=>rw[hi] at p;exact p.elim
 |some o=>
  rw[hi] at p;cases o<;>first|exact p.elim|skip
  rename_i l;dsimp only at p;by_cases q:sz l.length=ah
  case neg=>rw[if_neg q] at p;exact p.elim
  rw[if_pos q] at p;cases hk:kZ l with
  |none=>rw[hk] at p;exact p.elim
  |some kvs=>
   rw[hk] at p;dsimp only at p;refine gg λG k_=>?_
   obtain⟨a',d',gz,rfl,us,n,el,rl⟩:=I.objs i _ hi;refine k_ ?_;rw[hr] at gz;cases gz;refine gg λG k_=>?_
   obtain⟨kvV,z1,z2,z3,z4⟩:=BP rl hk;refine k_ ?_;have WQ:us.size=l.length:=by rw[<-cz,rl.length]
   refine UU (Q₁:=λobj cH=>obj=.ref s.heap.objs.size/\cH={s with heap:=s.heap.push {cls:=.type "dict",data:=.dict #[]}}) PySem.F.kt_called_dict (PySem.F.kt_typeCall_dict_1 _) PySem.F.entry_dict_init (kt_code_dict_new _ ⟨rfl,rfl⟩) ?_
   rintro obj cH ⟨rfl,rfl⟩
   have Na:(s.heap.push {cls:=.type "dict",data:=.dict #[]}).DictOf (strKind pw w) s.heap.objs.size []:=jr s.heap;have DB:(s.heap.push {cls:=.type "dict",data:=.dict #[]}).get? a=some {cls:=.type "list",data:=.seq us n}:=az _ el;refine⟨Na.typeIs,PySem.F.args_dict_init_2 _ _,?_⟩;unfold Builtin.«dict.__init__»;refine ag ?_;unfold T7;refine ag (wpAny_notOrdered_dict Na.typeIs ?_);show wpAny _ _ (bB (s.heap.objs.size,[cG a])) _ _ _;refine aE ?_;show wpAny _ _ (pO "dict.__init__" s.heap.objs.size (.ref a) [] .none) _ _ _;unfold pO;refine ag (jx (T:="list") ⟨_,DB,rfl⟩ ?_);rw[if_pos (by decide)];refine ag (Br K.hd DB λh' tk kp p_=>?_);dsimp only[if_pos (show(none:Option Value).isNone=ah from rfl)];refine ag (gj ?_);have QO:h'.get? a=some {cls:=.type "list",data:=.seq us n}:=kp _ _ DB;refine ag (O7 (s:={s with heap:=h',toks:=tk}) ⟨_,QO,rfl,n,rfl⟩ (aE ⟨qg lD _,?_⟩));have Í:∀b o,s.heap.get? b=some o->h'.get? b=some o:=λb o e=>kp _ _ (az _ e)
   have RV:s.heap.objs.size<h'.objs.size:=by rw[a9] at p_;lia
   have ZM:h'.DictOf (strKind pw w) s.heap.objs.size []:=Na.at λo e=>kp _ _ e
   have nm:(s.heap.objs.size==sysModules)=aj:=Inv.oP B I;show codeAny _ _ (.builtin "dict.update.loop" ⟨[.ref s.heap.objs.size,.ref h'.objs.size,.int 0 0,.none],[]⟩) _ _;refine Dy (A:=C.A.in1) (s:=s) (h₀:=s.heap) (n0:=n) (L:=a) (kvV:=kvV) (us:=us) K.hd (by simpa using z3) (by rw[WQ];exact dQ q) (λj U e=>z4 j U (by rw[<-ej] at e;exact e)) el (aC _) (aT RV) (aL RV) (λdc ew rE KW=>?_) _ 0 _ tk rfl (df _) (λb o e=>az _ (Í b o e)) ?_ ?_ 0
   ·refine⟨rfl,?_⟩;obtain⟨z5,z6⟩:=rQ (ρ:=ρ) (h:=s.heap) kvs (mv:=kvV) (l:=[]) (kvs:=[]) rfl rfl z1 z2;have WR:s.heap.objs.size<dc.objs.size:=by obtain⟨o,_,_,e,_⟩:=rE;exact aK e
    obtain⟨I',X'⟩:=I.new (a:=s.heap.objs.size) (d:=none) (o:=.dict (jb [] kvs)) (h':=dc) KW ⟨aC _,WR⟩ (λ_ e=>nomatch e)
     ⟨rfl,_,⟨rE,nm⟩,z5,aR.mono (λb o _ _ e _ _=>⟨o.slots,KW b o e⟩) (fk ..) _ _ z6⟩
    exact p _ (.ref s.heap.objs.size) dc ew I' X' ⟨_,none,rfl,by rw[<-I.len];simp⟩
   ·obtain⟨o,es,ep,e,r⟩:=ZM;exact⟨o,es,ep,az _ e,r⟩
   ·exact⟨_,a8 _ rfl,rfl,rfl⟩
end
end
set_option backward.match.sparseCases true
structure SC where
 names:List Str
 kinds:List (Str×eg)
 fn:Bool
 old:Option (Value×List PV)
structure fU(H0:Heap)(Γ:SC)(C:Cx):Prop where
 nm:C.names=Γ.names
 kd:∀x k,Γ.kinds.lookup x=some k->k≠.free->C.env.kindOf x=some k
 ce:Γ.fn=ah->∀x,Γ.kinds.lookup x=some .cell->(C.env.cells.lookup x).isSome=ah
 wc:Γ.fn=ah->C.wc=C.env.cells.map (·.2)
 fe:Γ.fn=ah->C.fV=C.env
 od:∀x,Γ.old=some x->j1 H0 x.1 x.2
noncomputable def kY(l:List Str)(x:Str):Option Nat:=l.findIdx? (·==x)
theorem gY{l:List Str}{x:Str}(h:kY l x=some i):l[i]?=some x:=by
 unfold kY at h;obtain⟨hl,h1,_⟩:=nZ.mp h;exact(bp hl).symm▸congrArg some (by simpa using h1)
noncomputable def MY:List (Str×PV):=[
 ("LINE_FEED",.int 10),("RETURN",.int 13),("COMMENT",.int 37),("MOST_FIGURES_decimals",.int 40),("PLUS",.int 43),("MINUS",.int 45),("POINT",.int 46),("ZERO",.int 48),
 ("PAREN",.int 40),("CLOSE_PAREN",.int 41),("LESS",.int 60),("GREATER",.int 62),("SLASH",.int 47),("BACKSLASH",.int 92),("HASH",.int 35),("MOST_DEPTH",.int 40),
 ("WHITE",.tup [.int 0,.int 9,.int 10,.int 12,.int 13,.int 32]),
 ("DELIMITERS",.tup [.int 40,.int 41,.int 60,.int 62,.int 91,.int 93,.int 123,.int 125,.int 47,.int 37]),
 ("SIGNS",.tup [.int 91,.int 93,.int 123,.int 125]),
 ("VALUE_WORDS",.tup [.bytes [116,114,117,101],.bytes [102,97,108,115,101],.bytes [110,117,108,108]]),
 ("Cursor",.obj (.ref 147))]
noncomputable def MZ:List (Str×PV):=[("Decimal",.obj (.ref 285)),("Name",.obj (.ref 397)),("String",.obj (.ref 419)),("Frame",.obj (.ref 515)),("Operation",.obj (.ref 590)),
 ("is_white",.obj (.ref 30)),("is_regular",.obj (.ref 37)),("read_decimal",.obj (.ref 303)),("hex_worth",.obj (.ref 311)),("plain_escape",.obj (.ref 318)),("name_text",.obj (.ref 326)),
 ("octal",.obj (.ref 333)),("escaped_codes",.obj (.ref 340)),("literal",.obj (.ref 347)),("hex_string",.obj (.ref 352)),("run_token",.obj (.ref 359)),("delimited_token",.obj (.ref 366)),
 ("next_token",.obj (.ref 373)),("is_sign",.obj (.ref 380)),("kind_of",.obj (.ref 479)),("told_plain",.obj (.ref 486)),("told",.obj (.ref 491)),("told_objects",.obj (.ref 491)),
 ("word_value",.obj (.ref 540)),("plain_value",.obj (.ref 547)),("dict_of",.obj (.ref 552)),("close_frame",.obj (.ref 559)),("object_from",.obj (.ref 567)),("is_operator",.obj (.ref 601)),
 ("word_text",.obj (.ref 606))]
noncomputable def M0:List (Str×PV):=[("image_head",.obj (.ref 613)),("ends_image",.obj (.ref 620)),("image_octets",.obj (.ref 627)),("read_image",.obj (.ref 634)),("read_content",.obj (.ref 641)),
 ("_law_pen",.obj (.ref 648)),("_law_draw",.obj (.ref 655)),("_law_pick",.obj (.ref 662)),("_law_told_of",.obj (.ref 669)),("_law_object",.obj (.ref 676)),("_law_objects",.obj (.ref 683)),
 ("_law_row",.obj (.ref 690)),("_law_read",.obj (.ref 695)),("_law_due",.obj (.ref 702)),("_law_heard",.obj (.ref 707)),("_law_row_right",.obj (.ref 714)),("_law_image_right",.obj (.ref 719)),
 ("len",.obj (.builtin "len")),("sorted",.obj (.builtin "sorted")),("abs",.obj (.builtin "abs")),("chr",.obj (.builtin "chr")),("isinstance",.obj (.builtin "isinstance")),("max",.obj (.builtin "max")),
 ("list",.obj (.type "list")),("tuple",.obj (.type "tuple")),("dict",.obj (.type "dict")),("bytes",.obj (.type "bytes")),("int",.obj (.type "int")),("bool",.obj (.type "bool"))]
def uY:List (Str×PV):=MY++MZ++M0
noncomputable def D8(p:PV)(V:Value):Bool:=match p with
 |.int i=>(match V with
  |.int j _=>i==j
  |_=>aj)
 |.bytes b=>(match V with
  |.bytes c _=>b.toArray==c
  |_=>aj)
 |_=>aj
def oJ:List PV->List Value->Bool
 |[],vs=>vs.isEmpty
 |p::l,vs=>match vs with
  |[]=>aj
  |V::vs=>D8 p V&&oJ l vs
def sm(P:bL)(l:List PV)(a:Addr):Bool:=match(KF pw P).lookup a with
 |some o=>o.cls==.type "tuple"&&(match o.data with
  |.seq vs _=>oJ l vs.toList
  |_=>aj)
 |none=>aj
def zW(P:bL)(v:PV)(V:Value):Bool:=match v with
 |.int i=>D8 (.int i) V
 |.obj U=>U==V
 |.tup l=>(match V with
  |.ref a=>sm P l a
  |_=>aj)
 |_=>aj
noncomputable def isObj(v:PV)(V:Value):Bool:=match v with
 |.obj U=>U==V
 |_=>aj
def Eb(P:bL)(x:Str×PV):Bool:=(match nsIn (KF pw P) mainGlobals x.1 with
 |some (some V)=>zW P x.2 V
 |some none=>(match bootBuiltins x.1 with
  |some V=>isObj x.2 V
  |none=>aj)&&decide (x.1≠"__name__")
 |none=>aj)&&!(x.1==("__debug__":Str))
theorem Ec(P:bL):uY.all (Eb P)=ah:=by kernel_rfl
theorem tO{p:PV}(e:D8 p V=ah):a7 ρ h p V:=by
 cases p with
 |int i=>cases V with
  |int j t=>exact⟨t,by rw[beq_iff_eq.mp e]⟩
  |_=>exact nB e
 |bytes i=>cases V with
  |bytes j t=>exact⟨t,by rw[beq_iff_eq.mp e]⟩
  |_=>exact nB e
 |_=>exact nB e
theorem s6:∀{vs:List Value},oJ l vs=ah->aR ρ h l vs:=by
 induction l with
 |nil=>
  intro vs e;cases vs with
  |nil=>rfl
  |cons=>exact nB e
 |cons p l ih=>
  intro vs e;cases vs with
  |nil=>exact nB e
  |cons V vs=>
   have e:=(aI _ _).mp e;exact⟨_,_,rfl,tO e.1,ih e.2⟩
theorem vy(B:Base w H0)(e:sm w.params l a=ah)(ρ:eS):a7 ρ H0 (.tup l) (.ref a):=by
 unfold sm at e;cases ho:(KF pw w.params).lookup a with
 |none=>rw[ho] at e;exact nB e
 |some o=>
  rw[ho] at e;obtain⟨e1,e2⟩:=(aI _ _).mp e;cases hd:o.data with
  |seq vs n=>
   rw[hd] at e2;exact⟨a,o,vs,n,rfl,B.K _ _ ho,by simpa using e1,hd,s6 e2⟩
  |_=>rw[hd] at e2;exact nB e2
theorem wN(B:Base w H0)(e:zW w.params v V=ah)(ρ:eS):a7 ρ H0 v V:=by
 cases v with
 |int i=>exact tO (p:=.int i) e
 |obj U=>exact(by simpa using(show(U==V)=ah from e):_=V).symm
 |tup l=>cases V with
  |ref a=>exact vy B e ρ
  |_=>exact nB e
 |_=>exact nB e
def wg(x:Str):M PV:=match uY.lookup x with
 |some v=>pure v
 |none=>M.bad
def nameP(Γ:SC)(x:Str):M PV:=match kY Γ.names x with
 |some i=>af i
 |none=>if Γ.kinds.lookup x=some .globalImplicit then wg x else M.bad
section
variable{C:Cx}{Γ:SC}
theorem lookup_mem{l:List (Str×α)}{x:Str}{v:α}(h:l.lookup x=some v):(x,v)∈l:=mem_of_lookup h
theorem bj.wg(B:Base w H0)(K:C.Ok){x:Str}(hx:C.env.kindOf x=some .globalImplicit):bj w H0 C (.Name x pos) (wg x):=by
 unfold Mine.wg;cases h:uY.lookup x with
 |none=>exactλ_ _ _ _ _ _ p=>p.elim
 |some v=>
  have e:=a6.mp (Ec w.params) _ (lookup_mem h);unfold Eb at e;rw[aI] at e;obtain⟨e,Yt⟩:=e;have hd:(x==("__debug__":Str))=aj:=by simpa using Yt
  clear Yt;dsimp only at e;split at e
  ·rename_i V hV;exact bj.glob B K hx hV (wN B e) hd
  ·rename_i hV;simp only[aI] at e;obtain⟨e,hn⟩:=e;split at e
   ·rename_i V hb;unfold isObj at e;split at e
    ·obtain rfl:_=V:=by simpa using e
     exact bj.Vl B K hx hV hb (by simpa using hn) hd
    ·cases e
   ·cases e
  ·cases e
theorem bj.nameP(B:Base w H0)(K:C.Ok)(S:fU H0 Γ C){x:Str}(hd:(x==("__debug__":Str))=aj)(hd2:(x==("__classdict__":Str))=aj):bj w H0 C (.Name x pos) (nameP Γ x):=by
 unfold Mine.nameP;cases h:kY Γ.names x with
 |some i=>exact bj.loc K (by rw[S.nm];exact gY h) hd hd2
 |none=>
  dsimp only;split
  ·rename_i e;exact bj.wg B K (S.kd x _ e (by decide))
  ·exactλ_ _ _ _ _ _ p=>p.elim
end
set_option backward.match.sparseCases false
noncomputable def yi:PV->Bool
 |.str _=>ah
 |_=>aj
noncomputable def rJ:PV->Bool
 |.bytes _=>ah
 |_=>aj
def Vj(id:String)(v:PV):M PV:=
 if id="len" then Bx v else if id="sorted" then iD v else if id="abs" then P_ v else if id="chr" then Dd v else if id="list.pop" then Fz v else M.bad
def Vk(id:String)(v x:PV):M PV:=
 if id="list.append" then gC v x else if id="isinstance" then yj v x else if id="max" then R4 v x else if id="bytes.decode" then ql v x else
 if id="str.join"/\yi v=ah then pF v x else if id="bytes.join"/\rJ v=ah then pF v x else M.bad
def vT(id:String):List PV->M PV
 |[v]=>Vj id v
 |[v,x]=>Vk id v x
 |[a,b,c,d]=>if id="bytes.find" then D7 a b c d else M.bad
 |_=>M.bad
def X5(T:String)(v:PV):M PV:=
 if T="list" then rN v else if T="tuple" then sr v else if T="dict" then vY v else if T="bytes" then qN v else if T="int" then RD v else M.bad
def Le(T:String):List PV->M PV
 |[v]=>X5 T v
 |_=>M.bad
section
variable{C:Cx}{rel:eS->Heap->β->α->Prop}
theorem aG.bad{t:Sem α}:aG w H0 C rel ρ st s t (M.bad:M β):=λ_ _ p=>p.elim
theorem aG.builtin{id:String}{vs:List PV}(B:Base w H0)(K:C.Ok)(I:Inv w H0 C ρ st s.heap)(r:aR ρ s.heap vs Vs):aG w H0 C cv ρ st s (bU (.builtin id) Vs []) (vT id vs):=by
 match vs,r with
 |[],_=>exact aG.bad
 |[v],rr=>
  refine gg λG k_=>?_
  obtain⟨V,_,rfl,q1,rfl⟩:=rr;refine k_ ?_;show aG w H0 C cv ρ st s _ (Vj id v);unfold Vj;refine dite (id="len") (λe=>?_) λe=>?_
  ·rw[if_pos e,e];exact aG.len I q1
  rw[if_neg e];clear e;refine dite (id="sorted") (λe=>?_) λe=>?_
  ·rw[if_pos e,e];exact aG.sorted B K I q1
  rw[if_neg e];clear e;refine dite (id="abs") (λe=>?_) λe=>?_
  ·rw[if_pos e,e];exact aG.abs I q1
  rw[if_neg e];clear e;refine dite (id="chr") (λe=>?_) λe=>?_
  ·rw[if_pos e,e];exact aG.chr I q1
  rw[if_neg e];clear e;refine dite (id="list.pop") (λe=>?_) λe=>?_
  ·rw[if_pos e,e];exact aG.pop I q1
  rw[if_neg e];exact aG.bad
 |[v,x],rr=>
  obtain⟨V,_,rfl,q1,X,_,rfl,rx,rfl⟩:=rr;show aG w H0 C cv ρ st s _ (Vk id v x);unfold Vk;refine dite (id="list.append") (λe=>?_) λe=>?_
  ·rw[if_pos e,e];exact aG.append I q1 rx
  rw[if_neg e];clear e;refine dite (id="isinstance") (λe=>?_) λe=>?_
  ·rw[if_pos e,e];exact aG.Ì B I q1 rx
  rw[if_neg e];clear e;refine dite (id="max") (λe=>?_) λe=>?_
  ·rw[if_pos e,e];exact aG.max K I q1 rx
  rw[if_neg e];clear e;refine dite (id="bytes.decode") (λe=>?_) λe=>?_
  ·rw[if_pos e,e];exact aG.decode I q1 rx
  rw[if_neg e];clear e;refine dite (id="str.join"/\yi v=ah) (λe=>?_) λe=>?_
  ·rw[if_pos e,e.1];have:=aG.join (v:=v) I q1 rx;obtain⟨_,e⟩:=e;unfold yi at e;split at e
   ·exact this
   ·cases e
  rw[if_neg e];clear e;refine dite (id="bytes.join"/\rJ v=ah) (λe=>?_) λe=>?_
  ·rw[if_pos e,e.1];have:=aG.join (v:=v) I q1 rx;obtain⟨_,e⟩:=e;unfold rJ at e;split at e
   ·exact this
   ·cases e
  rw[if_neg e];exact aG.bad
 |[_,_,_],_=>exact aG.bad
 |[a,b,c,d],rr=>
  obtain⟨V,_,rfl,r1,X,_,rfl,r2,Y,_,rfl,r3,Z,_,rfl,r4,rfl⟩:=rr;show aG w H0 C cv ρ st s _ (if id="bytes.find" then D7 a b c d else M.bad);refine dite (id="bytes.find") (λe=>?_) λe=>?_
  ·rw[if_pos e,e];exact aG.find I r1 r2 r3 r4
  rw[if_neg e];exact aG.bad
 |_::_::_::_::_::_,_=>exact aG.bad
theorem aG.type{T:String}{vs:List PV}(B:Base w H0)(K:C.Ok)(I:Inv w H0 C ρ st s.heap)(r:aR ρ s.heap vs Vs):aG w H0 C cv ρ st s (bU (.type T) Vs []) (Le T vs):=by
 match vs,r with
 |[],_=>exact aG.bad
 |[v],rr=>
  obtain⟨V,_,rfl,q1,rfl⟩:=rr;show aG w H0 C cv ρ st s _ (X5 T v);unfold X5;refine dite (T="list") (λe=>?_) λe=>?_
  ·rw[if_pos e,e];exact aG.list K I q1
  rw[if_neg e];clear e;refine dite (T="tuple") (λe=>?_) λe=>?_
  ·rw[if_pos e,e];exact aG.tuple I q1
  rw[if_neg e];clear e;refine dite (T="dict") (λe=>?_) λe=>?_
  ·rw[if_pos e,e];exact aG.dict B K I q1
  rw[if_neg e];clear e;refine dite (T="bytes") (λe=>?_) λe=>?_
  ·rw[if_pos e,e];exact aG.bytes K I q1
  rw[if_neg e];clear e;refine dite (T="int") (λe=>?_) λe=>?_
  ·rw[if_pos e,e];exact aG.int I q1
  rw[if_neg e];exact aG.bad
 |_::_::_,_=>exact aG.bad
end
noncomputable def okN(x:Str):Bool:=!(x==("__debug__":Str))&&!(x==("__classdict__":Str))
def Dm:Const->M PV
 |.none=>pure .none
 |.bool b=>pure (.bool b)
 |.int i=>pure (.int i)
 |.str x=>pure (.str x)
 |.bytes b=>pure (.bytes b)
 |_=>M.bad
def xJ(f:Expr->M PV)(op:n5):List Expr->M PV
 |[]=>M.bad
 |[e]=>f e
 |e::e'::es=>do
  let v<-f e
  let b<-dz v
  if b==(op==.And) then xJ f op (e'::es) else pure v
def y7(g:Expr->M Bool):n5->List Expr->M Bool
 |.And,[]=>pure ah
 |.Or,[]=>pure aj
 |.And,x::es=>do
  let b<-g x
  if b then y7 g .And es else pure aj
 |.Or,x::es=>do
  let b<-g x
  if b then pure ah else y7 g .Or es
def Qv(f:Expr->M PV)(l:Expr):List CmpOp->List Expr->M PV
 |[op],[r]=>if behindInMarks op r then M.bad else do
  let x<-f l
  let y<-f r
  fA op x y
 |[o,p],[x,y]=>if behindInMarks p y then M.bad else xM (f l) (f x) (f y) (fA o) (fA p)
 |_,_=>M.bad
def Kq(f:Expr->M PV)(l:Expr):List CmpOp->List Expr->M Bool
 |[op],[r]=>if behindInMarks op r then M.bad else do
  let x<-f l
  let y<-f r
  let c<-fA op x y
  dz c
 |[o,p],[x,y]=>if behindInMarks p y then M.bad else do
  let a<-f l
  let b<-f x
  let c<-fA o a b
  let t<-dz c
  if t then(do let d<-f y;let e<-fA p b d;dz e) else pure aj
 |_,_=>M.bad
def Dw(f:Expr->M PV)(ks:List (Option Expr))(vs:List Expr):M PV:=match ks with
 |[]=>if vs.isEmpty then newD else M.bad
 |k::ks=>(match qJ (k::ks) with
  |some bs=>if(k::ks).length=vs.length/\(k::ks).length<=15 then pB bs (xU f vs) else M.bad
  |none=>M.bad)
def NO(f:Expr->M PV):Option Expr->M PV
 |none=>pure .none
 |some e=>f e
def uC:Expr->Option (Option Expr×Option Expr×Pos)
 |.Slice l u s p=>if s.isNone then some (l,u,p) else none
 |_=>none
theorem uD{x:Option Expr×Option Expr×Pos}(h:uC e=some x):e=.Slice x.1 x.2.1 none x.2.2:=by
 cases e<;>first|exact nS h|skip
 rename_i s _;cases s with
 |none=>exact congrArg (λx:_×_×_=>Expr.Slice x.1 x.2.1 none x.2.2) (ao h)
 |some=>exact nS h
def Ol(f:Expr->M PV)(old:Option (Value×List PV))(e k:Expr):M PV:=match uC k with
 |some x=>do
  let v<-f e
  let a<-NO f x.1
  let b<-NO f x.2.1
  lh old v a b
 |none=>if nC k then(do
  let v<-f e
  let i<-f k
  km v i) else M.bad
noncomputable def uB:Expr->Option (Expr×Str×Pos)
 |.Attribute a b c=>some (a,b,c)
 |_=>none
theorem pn{x:Expr×Str×Pos}(h:uB e=some x):e=.Attribute x.1 x.2.1 x.2.2:=by
 cases e<;>first|exact nS h|exact congrArg (λx:_×_×_=>Expr.Attribute x.1 x.2.1 x.2.2) (ao h)
def Dc(ap:PV->List PV->M PV)(f:Expr->M PV)(es:List Expr)(pos:Pos)(g:Expr):M PV:=match uB g with
 |some a=>if es.all notStar&&g6 a.1&&vf a.2.2 pos&&decide (es.length<30) then(do
  let v<-f a.1
  let g<-methP a.2.1 v
  let vs<-xU f es
  ap g (v::vs)) else M.bad
 |none=>if es.all notStar then(do
  let v<-f g
  qP ap v (xU f es)) else M.bad
noncomputable def asName:Expr->Option (Str×Pos)
 |.Name x p=>some (x,p)
 |_=>none
theorem gr{x:Str×Pos}(h:asName e=some x):e=.Name x.1 x.2:=by
 cases e<;>first|exact nS h|exact congrArg (λx:_×_=>Expr.Name x.1 x.2) (ao h)
noncomputable def C0:Expr->Option (Expr×List Expr×Pos)
 |.Call f es ks p=>if ks.isEmpty then some (f,es,p) else none
 |_=>none
theorem vP{x:Expr×List Expr×Pos}(h:C0 e=some x):e=.Call x.1 x.2.1 [] x.2.2:=by
 cases e<;>first|exact nS h|skip
 rename_i ks _;cases ks with
 |nil=>exact congrArg (λx:_×_×_=>Expr.Call x.1 x.2.1 [] x.2.2) (ao h)
 |cons=>exact nS h
noncomputable def Kk:Expr->Option (Expr×Expr×Pos)
 |.Subscript a b p=>some (a,b,p)
 |_=>none
theorem xE{x:Expr×Expr×Pos}(h:Kk e=some x):e=.Subscript x.1 x.2.1 x.2.2:=by
 cases e<;>first|exact nS h|exact congrArg (λx:_×_×_=>Expr.Subscript x.1 x.2.1 x.2.2) (ao h)
noncomputable def Ki:Expr->Option (Expr×List CmpOp×List Expr×Pos)
 |.Compare a b c p=>some (a,b,c,p)
 |_=>none
theorem xB{x:Expr×List CmpOp×List Expr×Pos}(h:Ki e=some x):e=.Compare x.1 x.2.1 x.2.2.1 x.2.2.2:=by
 cases e<;>first|exact nS h|exact congrArg (λx:_×_×_×_=>Expr.Compare x.1 x.2.1 x.2.2.1 x.2.2.2) (ao h)
def pS(e:Expr):Option Str:=(asName e).map (·.1)
theorem gu{x:Str}(h:pS e=some x):e=.Name x e.pos:=by
 obtain⟨y,h1,rfl⟩:=aS.mp h;rw[gr h1];rfl
def D_(nm:Str)(Γ:SC)(e:Expr):Option (List Expr):=(C0 e).bind λc=>if pS c.1=some nm/\Γ.kinds.lookup nm=some .globalImplicit/\c.2.1.all notStar=ah then some c.2.1 else none
theorem rj{nm:Str}{Γ:SC}(h:D_ nm Γ e=some es):∃p pos,e=.Call (.Name nm p) es [] pos/\Γ.kinds.lookup nm=some .globalImplicit/\es.all notStar=ah:=by
 refine gg λG k_=>?_
 obtain⟨c,h1,h⟩:=aD.mp h;obtain⟨⟨q1,q2,q3⟩,h⟩:=iN h;obtain rfl:=ao h;refine k_ ?_;refine⟨c.1.pos,c.2.2,?_,q2,q3⟩;exact(gu q1)▸vP h1
def t6(Γ:SC)(e:Expr):Option (List Expr):=D_ "range" Γ e
def iM(f:Expr->M PV)(Γ:SC)(e:Expr):M It:=match t6 Γ e with
 |some es=>do
  let vs<-xU f es
  g9 vs
 |none=>do
  let v<-f e
  j4 v
def ri(scope:Scope):List Str:=(scope.names.filter λp=>p.2==.free).map (·.1)
def Dj(Γ:SC)(scope:Scope)(x:Str):SC:=⟨x::ri scope,scope.names,aj,Γ.old⟩
def oB(Γ:SC)(scope:Scope)(x:Str):Bool:=xP scope x (ri scope)&&Γ.fn&&(ri scope).all λy=>decide (Γ.kinds.lookup y=some .cell)&&(kY Γ.names y).isSome
def Gf(g:Expr->M Bool):List Expr->M Bool
 |[]=>pure ah
 |[c]=>g c
 |_=>M.bad
def Pg(F:SC->Expr->M PV)(G:SC->Expr->M Bool)(Γ:SC)(elt:Expr)(scope:Scope)(c:fa):M PV:=match asName c.target with
 |some (x,_)=>if oB Γ scope x&&jW c.iter&&decide (c.is_async=0) then
  fy ((ri scope).filterMap (kY Γ.names)) (iM (F Γ) Γ c.iter) (Gf (G (Dj Γ scope x)) c.ifs) (F (Dj Γ scope x) elt)
  else M.bad
 |none=>M.bad
noncomputable def one:List α->Option α
 |[a]=>some a
 |_=>none
theorem nH{l:List α}{a:α}(h:one l=some a):l=[a]:=by
 rcases l with _|⟨b,_|_⟩
 ·exact nS h
 ·rw[ao h]
 ·exact nS h
def xD(e:Expr):Option (Str×Str):=(Kk e).bind λs=>(pS s.1).bind λf=>(pS s.2.1).map λk=>(f,k)
inductive y4(x:Str×Str):Expr->Prop
 |mk (p1 p2 p3:Pos):y4 x (.Subscript (.Name x.1 p1) (.Name x.2 p2) p3)
theorem pq{x:Str×Str}(h:xD e=some x):y4 x e:=by
 obtain⟨s,h1,h⟩:=aD.mp h;obtain⟨f,h2,h⟩:=aD.mp h;obtain⟨k,h3,rfl⟩:=aS.mp h;rw[xE h1,gu h2,gu h3];exact .mk ..
inductive Hs(x:Str×Str):Expr->Prop
 |mk (p6 p7 p8:Pos) (n:Nat) (p9 Fn:Pos):Hs x (.Compare (.Subscript (.Name x.1 p6) (.Name x.2 p7) p8) [.IsNot] [.Constant .none n p9] Fn)
def Qf(t:Expr):Option (Str×Str):=(Ki t).bind λs=>(one s.2.2.1).bind λr=>(m4 r).bind λc=>if s.2.1=[.IsNot]/\c.1=.none then xD s.1 else none
theorem SG{l r:Expr}{rs:List Expr}{p:Pos}{x:Str×Str}(h:y4 x l)(ho:ops=[.IsNot])(hr:rs=[r]){c:Const×Nat×Pos}(h2:r=.Constant c.1 c.2.1 c.2.2)(hc:c.1=.none):Hs x (.Compare l ops rs p):=by
 simp only[ho,hr,h2,hc];cases h
 exact .mk ..
theorem AO{t:Expr}{x:Str×Str}(h:Qf t=some x):Hs x t:=by
 obtain⟨s,h1,h⟩:=aD.mp h;obtain⟨r,h2,h⟩:=aD.mp h;obtain⟨c,h3,h⟩:=aD.mp h;obtain⟨q,h⟩:=iN h;simp only[xB h1];exact SG (pq h) q.1 (nH h2) (jM h3) q.2
def uP(key value:Expr)(c:fa):Option (Str×Str):=(xD value).bind λx=>(one c.ifs).bind λt=>(Qf t).bind λy=>if(pS key=some x.2/\x=y)/\pS c.target=some x.2/\pS c.iter=some x.1/\c.is_async=0 then some x else none
inductive DC(x:Str×Str):Expr->Expr->fa->Prop
 |mk (p1 p2 p3 p4 p5 p6 p7 p8 p9 Fn px:Pos) (n:Nat):DC x (.Name x.2 p1) (.Subscript (.Name x.1 p2) (.Name x.2 p3) p4) ⟨.Name x.2 px,.Name x.1 p5,[.Compare (.Subscript (.Name x.1 p6) (.Name x.2 p7) p8) [.IsNot] [.Constant .none n p9] Fn],0⟩
theorem QA{key value target iter t:Expr}{ifs:List Expr}{n:Int}{x:Str×Str}(h1:y4 x value)(h2:ifs=[t])(h3:Hs x t)(q1:pS key=some x.2)(q2:pS target=some x.2)(q3:pS iter=some x.1)(q4:n=0):DC x key value ⟨target,iter,ifs,n⟩:=by
 rw[gu q1,gu q2,gu q3,h2,q4];cases h1
 cases h3
 exact .mk ..
theorem uQ{key value:Expr}{x:Str×Str}(h:uP key value c=some x):DC x key value c:=by
 cases c
 obtain⟨z,h1,h⟩:=aD.mp h;obtain⟨t,h2,h⟩:=aD.mp h;obtain⟨y,h3,h⟩:=aD.mp h;obtain⟨q,h⟩:=iN h;exact(ao h)▸QA (pq h1) (nH h2) (q.1.2▸AO h3) q.1.1 q.2.1 q.2.2.1 q.2.2.2
def V6(Γ:SC)(key value:Expr)(scope:Scope)(c:fa):M PV:=match uP key value c with
 |some x=>(match kY Γ.names x.1 with
  |some i=>if oB Γ scope x.2&&decide (ri scope=[x.1])&&okN x.2&&okN x.1 then(do let v<-af i;fG v) else M.bad
  |none=>M.bad)
 |none=>M.bad
def Aa(ap:PV->List PV->M PV)(F:SC->Expr->M PV)(G:SC->Expr->M Bool)(Γ:SC):Expr->M PV
 |.Constant c _ _=>Dm c
 |.Name x _=>if okN x then nameP Γ x else M.bad
 |.BinOp l op r _=>do
  let x<-F Γ l
  let y<-F Γ r
  iP op x y
 |.BoolOp op es _=>xJ (F Γ) op es
 |.UnaryOp .Not x _=>do
  let v<-F Γ x
  let b<-dz v
  pure (.bool (!b))
 |.UnaryOp .USub x _=>do
  let v<-F Γ x
  Ni v
 |.IfExp t a b _=>do
  let c<-G Γ t
  if c then F Γ a else F Γ b
 |.Compare l ops rs _=>Qv (F Γ) l ops rs
 |.List es _=>if es.all notStar then(do let l<-xU (F Γ) es;oO l) else M.bad
 |.Tuple es _ _=>if es.all notStar then(do let l<-xU (F Γ) es;E5 l) else M.bad
 |.Dict ks vs _=>Dw (F Γ) ks vs
 |.Attribute o x _=>if g6 o then(do let v<-F Γ o;j2 x v) else M.bad
 |.Subscript e k _=>Ol (F Γ) Γ.old e k
 |.Call f es [] pos=>Dc ap (F Γ) es pos f
 |.ListComp elt gs scope _=>(match one gs with
  |some c=>Pg F G Γ elt scope c
  |none=>M.bad)
 |.DictComp k v gs scope _=>(match one gs with
  |some c=>V6 Γ k v scope c
  |none=>M.bad)
 |_=>M.bad
def stepT(F:SC->Expr->M PV)(G:SC->Expr->M Bool)(Γ:SC):Expr->M Bool
 |.Compare l ops rs _=>Kq (F Γ) l ops rs
 |.UnaryOp .Not x _=>do
  let b<-G Γ x
  pure (!b)
 |.BoolOp op es _=>y7 (G Γ) op es
 |.Name x p=>do
  let v<-F Γ (.Name x p)
  dz v
 |.Call f es ks p=>do
  let v<-F Γ (.Call f es ks p)
  dz v
 |.Constant c k p=>do
  let v<-F Γ (.Constant c k p)
  dz v
 |_=>M.bad
def ev(ap:PV->List PV->M PV):Nat->(SC->Expr->M PV)×(SC->Expr->M Bool)
 |0=>(λ_ _=>M.bad,λ_ _=>M.bad)
 |n+1=>(Aa ap (ev ap n).1 (ev ap n).2,stepT (ev ap n).1 (ev ap n).2)
set_option backward.match.sparseCases true
section
variable{C:Cx}{Γ:SC}{ap:PV->List PV->M PV}
theorem c_.bad{rel:eS->Heap->β->α->Prop}{t:Sem α}:c_ w H0 C rel t (M.bad:M β):=λ_ _ _ _ _ _ p=>p.elim
theorem c_.eE{rel:eS->Heap->β->α->Prop}{t:Sem α}{m m':M β}(e:m=m')(h:c_ w H0 C rel t m'):c_ w H0 C rel t m:=e▸h
theorem nG{x:Str}(h:okN x=ah):(x==("__debug__":Str))=aj/\(x==("__classdict__":Str))=aj:=by
 unfold okN at h;simpa using h
theorem bj.const{c:Const}{k:Nat}:bj w H0 C (.Constant c k pos) (Dm c):=by
 cases c with
 |none=>exact bj.none_
 |bool=>exact bj.TH
 |int=>exact bj.int
 |str=>exact bj.str
 |bytes=>exact bj.bytes
 |_=>exact c_.bad
theorem pR.all{f:Expr->M PV}(hf:∀e,bj w H0 C e (f e)){op:n5}:∀es:List Expr,pR w H0 C op es (xJ f op es)
 |[]=>λ_=>c_.bad
 |[e]=>pR.one (hf e)
 |e::e'::es=>pR.cons (hf e) (pR.all hf (e'::es))
theorem d7.all{g:Expr->M Bool}(hg:∀e,d7 w H0 C e (g e)):∀(op:n5) (es:List Expr),c_ w H0 C iA (allTrue op es C.env) (y7 g op es)
 |.And,[]=>d7.Ma
 |.Or,[]=>d7.SX
 |.And,x::es=>d7.Hz (hg x) (d7.all hg .And es)
 |.Or,x::es=>d7.NP (hg x) (d7.all hg .Or es)
theorem bj.Mr{f:Expr->M PV}(hf:∀e,bj w H0 C e (f e))(hu:C.A.units+64<cLine){l:Expr}{rs:List Expr}:bj w H0 C (.Compare l ops rs pos) (Qv f l ops rs):=by
 rcases ops with _|⟨o,_|⟨p,_|_⟩⟩<;>rcases rs with _|⟨x,_|⟨y,_|_⟩⟩<;>first|exact c_.bad|skip
 ·cases h:behindInMarks o x with
  |false=>exact c_.eE (if_neg (by rw[h];nofun)) (bj.cmp (hf l) (hf x) (tW hu o) h)
  |true=>exact c_.eE (if_pos h) c_.bad
 ·cases h:behindInMarks p y with
  |false=>exact c_.eE (if_neg (by rw[h];nofun)) (bj.chain (hf l) (hf x) (hf y) (tW hu o) (tW hu p) h)
  |true=>exact c_.eE (if_pos h) c_.bad
theorem d7.Mr{f:Expr->M PV}(hf:∀e,bj w H0 C e (f e))(hu:C.A.units+64<cLine){l:Expr}{rs:List Expr}:d7 w H0 C (.Compare l ops rs pos) (Kq f l ops rs):=by
 rcases ops with _|⟨o,_|⟨p,_|_⟩⟩<;>rcases rs with _|⟨x,_|⟨y,_|_⟩⟩<;>first|exact c_.bad|skip
 ·cases h:behindInMarks o x with
  |false=>exact c_.eE (if_neg (by rw[h];nofun)) (d7.cmp (hf l) (hf x) (tW hu o) h)
  |true=>exact c_.eE (if_pos h) c_.bad
 ·cases h:behindInMarks p y with
  |false=>exact c_.eE (if_neg (by rw[h];nofun)) (d7.chain (hf l) (hf x) (hf y) (tW hu o) (tW hu p) h)
  |true=>exact c_.eE (if_pos h) c_.bad
theorem bj.QG{f:Expr->M PV}(B:Base w H0)(hf:∀e,bj w H0 C e (f e)){ks:List (Option Expr)}{vs:List Expr}:bj w H0 C (.Dict ks vs pos) (Dw f ks vs):=by
 rcases ks with _|⟨k,ks⟩
 ·rcases vs with _|_
  ·exact bj.HV B
  ·exact c_.bad
 ·unfold Dw;dsimp only;cases hb:qJ (k::ks) with
  |none=>exact c_.bad
  |some bs=>
   by_cases h:(k::ks).length=vs.length/\(k::ks).length<=15
   ·exact c_.eE (if_pos h) (bj.A_ B hf hb h.1 nofun h.2)
   ·exact c_.eE (if_neg h) c_.bad
theorem pQ.opt{f:Expr->M PV}(hf:∀e,bj w H0 C e (f e)):∀o:Option Expr,pQ w H0 C o (NO f o)
 |.none=>pQ.none
 |.some e=>pQ.some (hf e)
theorem bj.subs{f:Expr->M PV}(ho:∀x,old=some x->j1 H0 x.1 x.2)(hf:∀e,bj w H0 C e (f e)){k:Expr}:bj w H0 C (.Subscript e k pos) (Ol f old e k):=by
 unfold Ol;cases h:uC k with
 |some x=>simp only[uD h];exact bj.slice ho (hf e) (pQ.opt hf _) (pQ.opt hf _)
 |none=>
  dsimp only;cases h:nC k
  ·exact c_.bad
  ·exact bj.sub h (hf e) (hf k)
theorem bj.calls{f:Expr->M PV}(B:Base w H0)(ha:ur w H0 C ap)(hf:∀e,bj w H0 C e (f e)){g:Expr}:bj w H0 C (.Call g es [] pos) (Dc ap f es pos g):=by
 unfold Dc;cases Q_:uB g with
 |some a=>
  rw[pn Q_];dsimp only;cases h:es.all notStar&&g6 a.1&&vf a.2.2 pos&&decide (es.length<30) with
  |false=>exact c_.bad
  |true=>
   simp only[aI,decide_eq_true_eq] at h;exact bj.R5 B h.1.1.2 h.1.2 h.1.1.1 h.2 (hf _) (f_.all hf es h.1.1.1) ha
 |none=>
  dsimp only;cases h:es.all notStar
  ·exact c_.bad
  ·exact bj.call B (λo x p e=>by rw[e] at Q_;nomatch Q_) h (hf g) (f_.all hf es h) ha
theorem mz.any{f:Expr->M PV}(B:Base w H0)(K:C.Ok)(S:fU H0 Γ C)(hf:∀e,bj w H0 C e (f e)):mz w H0 C e (iM f Γ e):=by
 unfold iM;cases h:t6 Γ e with
 |none=>exact mz.of (hf e)
 |some es=>
  obtain⟨p,pos,rfl,q1,q2⟩:=rj h;exact mz.range B K (S.kd _ _ q1 (by decide)) q2 (f_.all hf _ q2)
theorem oC{x:Str}(S:fU H0 Γ C)(h:oB Γ scope x=ah):ik scope x (ri scope)/\(∀y∈scope.names,y.2=.free->C.env.kindOf y.1=some .cell/\(C.env.cells.lookup y.1).isSome=ah)/\
 ((ri scope).filterMap (kY Γ.names)).map (λi=>C.names[i]?)=(ri scope).map some:=by
 unfold oB at h;simp only[aI,a6,decide_eq_true_eq] at h;refine gg λG k_=>?_
 obtain⟨⟨h1,h2⟩,h3⟩:=h;refine k_ ?_;refine⟨ik.of h1,λy hy hf=>?_,?_⟩
 ·have:=h3 y.1 (bD.mpr ⟨y,Hb.mpr ⟨hy,by rw[hf];rfl⟩,rfl⟩);exact⟨S.kd _ _ this.1 (by decide),S.ce h2 _ this.1⟩
 ·rw[S.nm];generalize ri scope=l at h3;induction l with
  |nil=>rfl
  |cons y l ih=>
   obtain⟨i,hi⟩:=cy.mp (h3 y (.head _)).2;simp only[cR,hi,bH,bH,ih λz hz=>h3 z (.tail _ hz),gY hi]
theorem fU.comp(S:fU H0 Γ C){x:Str}:fU H0 (Dj Γ scope x) (C.comp scope x (ri scope) L) where
 od:=S.od
 nm:=rfl
 kd:=λy k h hk=>by
  show(relabel scope C.env).names.lookup y=some k;unfold relabel;simp only[fI,show scope.names.lookup y=some k from h];simp only[fp];rw[if_neg (by simp[hk])]
 ce:=λh=>nomatch h
 wc:=λh=>nomatch h
 fe:=λh=>nomatch h
def Ka(w:World)(H0:Heap)(uw:Cx)(F:SC->Expr->M PV):Prop:=∀Γ C,fU H0 Γ C->C.Ok->C.A=uw.A->∀e,bj w H0 C e (F Γ e)
def Kf(w:World)(H0:Heap)(uw:Cx)(G:SC->Expr->M Bool):Prop:=∀Γ C,fU H0 Γ C->C.Ok->C.A=uw.A->∀e,d7 w H0 C e (G Γ e)
theorem d7.ifs{g:Expr->M Bool}(hg:∀e,d7 w H0 C e (g e)):∀ifs:List Expr,c_ w H0 C iA (tests ifs C.env) (Gf g ifs)
 |[]=>B1
 |[c]=>B4 (hg c)
 |_::_::_=>c_.bad
theorem bj.lcs{F:SC->Expr->M PV}{G:SC->Expr->M Bool}(B:Base w H0)(K:C.Ok)(S:fU H0 Γ C)(hF:Ka w H0 C F)(hG:Kf w H0 C G):
 bj w H0 C (.ListComp elt [c] scope pos) (Pg F G Γ elt scope c):=by
 unfold Pg;obtain⟨target,iter,ifs,as⟩:=c;cases hn:asName target with
 |none=>exact c_.bad
 |some x=>
  obtain⟨x,px⟩:=x;rw[gr hn];dsimp only;split
  ·rename_i h;simp only[aI,decide_eq_true_eq] at h;obtain⟨⟨h1,h2⟩,rfl⟩:=h;obtain⟨q1,q2,q3⟩:=oC S h1;exact bj.EM K q1 q2 q3 h2 (mz.any B K S (hF Γ C S K rfl)) (λL K'=>d7.ifs (hG _ _ S.comp K' rfl) ifs) λL K'=>hF _ _ S.comp K' rfl elt
  ·exact c_.bad
theorem bj.Zt(B:Base w H0)(K:C.Ok)(S:fU H0 Γ C){key value:Expr}:bj w H0 C (.DictComp key value [c] scope pos) (V6 Γ key value scope c):=by
 unfold V6;cases h:uP key value c with
 |none=>exact c_.bad
 |some x=>
  have D:=uQ h;clear h;dsimp only;cases hi:kY Γ.names x.1 with
  |none=>exact c_.bad
  |some i=>
   cases q:oB Γ scope x.2&&decide (ri scope=[x.1])&&okN x.2&&okN x.1 with
   |false=>exact c_.bad
   |true=>
    simp only[aI,decide_eq_true_eq] at q;have z:=oC S q.1.1.1;rw[q.1.1.2] at z;cases D
    exact bj.xQ B K z.1 z.2.1 (by rw[S.nm];exact gY hi) (nG q.1.2).1 (nG q.2).1
theorem bj.Ï{F:SC->Expr->M PV}{G:SC->Expr->M Bool}(B:Base w H0)(K:C.Ok)(S:fU H0 Γ C)(hF:Ka w H0 C F)(hG:Kf w H0 C G){gs:List fa}:bj w H0 C (.ListComp elt gs scope pos) (Aa ap F G Γ (.ListComp elt gs scope pos)):=by
 rcases gs with _|⟨c,_|_⟩
 ·exact c_.bad
 ·exact bj.lcs B K S hF hG
 ·exact c_.bad
theorem bj.Zs{F:SC->Expr->M PV}{G:SC->Expr->M Bool}(B:Base w H0)(K:C.Ok)(S:fU H0 Γ C){k v:Expr}{gs:List fa}:bj w H0 C (.DictComp k v gs scope pos) (Aa ap F G Γ (.DictComp k v gs scope pos)):=by
 rcases gs with _|⟨c,_|_⟩
 ·exact c_.bad
 ·exact bj.Zt B K S
 ·exact c_.bad
theorem bj.step{F:SC->Expr->M PV}{G:SC->Expr->M Bool}(B:Base w H0)(K:C.Ok)(S:fU H0 Γ C)(ha:∀C',C'.Ok->C'.A=C.A->ur w H0 C' ap)(hu:C.A.units+64<cLine)(hF:Ka w H0 C F)(hG:Kf w H0 C G)(e:Expr):bj w H0 C e (Aa ap F G Γ e):=by
 have hf:=hF Γ C S K rfl;have hg:=hG Γ C S K rfl;cases e with
 |Constant=>exact bj.const
 |Name x p=>
  cases h:okN x with
  |false=>exact c_.eE (if_neg (by rw[h];nofun)) c_.bad
  |true=>exact c_.eE (if_pos h) (bj.nameP B K S (nG h).1 (nG h).2)
 |BinOp=>exact bj.bin (hf _) (hf _) (SQ _)
 |BoolOp=>exact bj.boolOp (pR.all hf _)
 |UnaryOp op=>
  cases op with
  |Not=>exact bj.not (hf _)
  |USub=>exact bj.neg (hf _)
  |_=>exact c_.bad
 |IfExp=>exact bj.ite (hg _) (hf _) (hf _)
 |Compare=>exact bj.Mr hf hu
 |List es p=>
  cases h:es.all notStar with
  |false=>exact c_.eE (if_neg (by rw[h];nofun)) c_.bad
  |true=>exact c_.eE (if_pos h) (bj.list (f_.all hf es h))
 |Tuple es k p=>
  cases h:es.all notStar with
  |false=>exact c_.eE (if_neg (by rw[h];nofun)) c_.bad
  |true=>exact c_.eE (if_pos h) (bj.tuple (f_.all hf es h))
 |Dict=>exact bj.QG B hf
 |Attribute o x p=>
  cases h:g6 o with
  |false=>exact c_.eE (if_neg (by rw[h];nofun)) c_.bad
  |true=>exact c_.eE (if_pos h) (bj.attr B h (hf o))
 |Subscript=>exact bj.subs S.od hf
 |Call f es ks p=>
  cases ks with
  |nil=>exact bj.calls B (ha C K rfl) hf
  |cons=>exact c_.bad
 |ListComp elt gs scope p=>exact bj.Ï B K S hF hG
 |DictComp k v gs scope p=>exact bj.Zs B K S
 |_=>exact c_.bad
theorem d7.step{F:SC->Expr->M PV}{G:SC->Expr->M Bool}(K:C.Ok)(S:fU H0 Γ C)(hu:C.A.units+64<cLine)(hF:Ka w H0 C F)(hG:Kf w H0 C G)(e:Expr):d7 w H0 C e (stepT F G Γ e):=by
 have hf:=hF Γ C S K rfl;have hg:=hG Γ C S K rfl;cases e with
 |Compare=>exact d7.Mr hf hu
 |UnaryOp op=>
  cases op with
  |Not=>exact d7.not (hg _)
  |_=>exact c_.bad
 |BoolOp=>exact d7.bool (d7.all hg _ _)
 |Name=>exact d7.val (hf _) λ_=>rfl
 |Call=>exact d7.val (hf _) λ_=>rfl
 |Constant=>exact d7.val (hf _) λ_=>rfl
 |_=>exact c_.bad
theorem DN(B:Base w H0)(uw:Cx)(ha:∀C',C'.Ok->C'.A=uw.A->ur w H0 C' ap)(hu:uw.A.units+64<cLine):∀n,Ka w H0 uw (ev ap n).1/\Kf w H0 uw (ev ap n).2
 |0=>⟨λ_ _ _ _ _ _=>c_.bad,λ_ _ _ _ _ _=>c_.bad⟩
 |n+1=>by
  obtain⟨h1,h2⟩:=DN B uw ha hu n;refine⟨λΓ C S K hA e=>?_,λΓ C S K hA e=>?_⟩
  ·exact bj.step B K S (λC' K' Ib=>ha C' K' (Ib.trans hA)) (by rw[hA];exact hu) (λOW C' S' K' Ib=>h1 OW C' S' K' (Ib.trans hA)) (λOW C' S' K' Ib=>h2 OW C' S' K' (Ib.trans hA)) e
  ·exact d7.step K S (by rw[hA];exact hu) (λOW C' S' K' Ib=>h1 OW C' S' K' (Ib.trans hA)) (λOW C' S' K' Ib=>h2 OW C' S' K' (Ib.trans hA)) e
end
def iq(Γ:SC)(x:Str):PV->M Unit:=match kY Γ.names x with
 |some i=>if Γ.kinds.lookup x=some .local\/(Γ.kinds.lookup x=some .cell/\Γ.fn=ah) then aX i elseλ_=>M.bad
 |none=>λ_=>M.bad
def tS(Γ:SC)(e:Expr):PV->M Unit:=match asName e with
 |some (x,_)=>iq Γ x
 |none=>λ_=>M.bad
noncomputable def asTuple:Expr->Option (List Expr×Nat×Pos)
 |.Tuple es k p=>some (es,k,p)
 |_=>none
theorem iz{x:List Expr×Nat×Pos}(h:asTuple e=some x):e=.Tuple x.1 x.2.1 x.2.2:=by
 cases e<;>first|exact nS h|exact congrArg (λx:_×_×_=>Expr.Tuple x.1 x.2.1 x.2.2) (ao h)
def Gr(Γ:SC)(es:List Expr):PV->M Unit:=if es.all (λe=>(asName e).isSome) thenλv=>do
 let l<-gI es.length v
 fP (es.map (tS Γ)) l elseλ_=>M.bad
def Me(f:Expr->M PV)(Γ:SC):Expr->PV->M Unit
 |.Name x _=>iq Γ x
 |.Attribute o x _=>λp=>do
  let v<-f o
  fi x v p
 |.Subscript o i _=>λp=>do
  let v<-f o
  let k<-f i
  gc v k p
 |.Tuple es _ _=>Gr Γ es
 |_=>λ_=>M.bad
noncomputable def lG:Expr->Bool
 |.List ..=>ah
 |_=>aj
def NA(Γ:SC)(line:Nat)(e:Expr):Option Str:=match asName e with
 |some (x,p)=>if Γ.kinds.lookup x==some .local&&p.line==line then some x else none
 |none=>none
def jB(Γ:SC)(e:Expr):Bool:=match asName e with
 |some (x,_)=>Γ.kinds.lookup x==some .local||Γ.kinds.lookup x==some .cell
 |none=>aj
noncomputable def zu:Expr->Bool
 |.Starred ..=>ah
 |_=>aj
def F9(Γ:SC)(ts vs:List Expr):Option (Option (List Str)):=if ts.all (jB Γ) then(
 if !(ts.length==2||ts.length==3)||vs.length !=ts.length then some none
 else if vs.any zu then some none
 else
  let names:=ts.filterMap (NA Γ ((ts.head?.map (·.pos.line)).getD 0))
  if names.length !=ts.length||names.eraseDups.length !=names.length then some none
  else if vs.all (foldedForSure 8) then some none
  else if vs.all (constantsAlone 8) then none
  else some (some names)) else none
def t_(Γ:SC)(t e:Expr):Option (Option (List Str)):=match asTuple t,asTuple e with
 |some ts,some vs=>F9 Γ ts.1 vs.1
 |_,_=>if lG t then none else some none
noncomputable def gv:Expr->Option Scope
 |.ListComp _ _ s _=>some s
 |.SetComp _ _ s _=>some s
 |.DictComp _ _ _ s _=>some s
 |_=>none
def Ac(Γ:SC)(e t:Expr):Option Bool:=match gv e with
 |none=>some aj
 |some scope=>(match asName t with
  |some (x,p)=>if jB Γ t then some (Γ.kinds.lookup x==some .local&&p.line==e.pos.line&&!(scope.names.any λ(n,k)=>n==x&&(k==.local||k==.cell))) else none
  |none=>some aj)
noncomputable def Md:Expr->Option (Expr×List fa×Scope×Pos)
 |.ListComp a b c d=>some (a,b,c,d)
 |_=>none
theorem AN{x:Expr×List fa×Scope×Pos}(h:Md e=some x):e=.ListComp x.1 x.2.1 x.2.2.1 x.2.2.2:=by
 cases e<;>first|exact nS h|exact congrArg (λx:_×_×_×_=>Expr.ListComp x.1 x.2.1 x.2.2.1 x.2.2.2) (ao h)
def Mf(F:SC->Expr->M PV)(G:SC->Expr->M Bool)(Γ:SC)(t e:Expr):M PF:=if notStar t then(match Ac Γ e t with
 |some aj=>(match t_ Γ t e with
  |some none=>do
   let v<-F Γ e
   Me (F Γ) Γ t v
   pure .next
  |some (some names)=>do
   let v<-F Γ e
   let l<-gI names.length v
   fP (names.reverse.map (iq Γ)) l.reverse
   pure .next
  |none=>M.bad)
 |some ah=>(match Md e,asName t with
  |some (elt,gs,scope,_),some (x,_)=>(match one gs,kY Γ.names x with
   |some c,some i=>if Γ.kinds.lookup x=some .local then do
    let v<-Pg F G Γ elt scope c
    aX i v
    pure .next else M.bad
   |_,_=>M.bad)
  |_,_=>M.bad)
 |none=>M.bad) else M.bad
def qK(f:Stmt->M PF):List Stmt->M PF
 |[]=>pure .next
 |x::l=>do
  let r<-f x
  match r with
  |.next=>qK f l
  |r=>pure r
noncomputable def Kj:Stmt->Option (Option Expr×Pos)
 |.Return e p=>some (e,p)
 |_=>none
theorem xC{e:Stmt}{x:Option Expr×Pos}(h:Kj e=some x):e=.Return x.1 x.2:=by
 cases e<;>first|exact nS h|exact congrArg (λx:_×_=>Stmt.Return x.1 x.2) (ao h)
noncomputable def two:List α->Option (α×α)
 |[a,b]=>some (a,b)
 |_=>none
theorem Gu{l:List α}{a:α×α}(h:two l=some a):l=[a.1,a.2]:=by
 rcases l with _|⟨b,_|⟨c,_|_⟩⟩
 ·exact nS h
 ·exact nS h
 ·rw[<-ao h]
 ·exact nS h
noncomputable def vV:Const->Option Str
 |.str x=>some x
 |_=>none
theorem sW{c:Const}{x:Str}(h:vV c=some x):c=.str x:=by
 cases c<;>first|exact nS h|exact congrArg _ (ao h)
def wQ(r:Stmt):Option (Str×Str):=(Kj r).bind λr=>r.1.bind λv=>(asTuple v).bind λt=>(two t.1).bind λab=>(m4 ab.1).bind λc=>(vV c.1).bind λx=>(uB ab.2).bind λo=>(pS o.1).bind λn=>if o.2.1=("at":Str) then some (n,x) else none
inductive y3(x:Str×Str):Stmt->Prop
 |mk (p1 p2 p3 p4 p5:Pos) (k1 k2:Nat):y3 x (.Return (some (.Tuple [.Constant (.str x.2) k1 p1,.Attribute (.Name x.1 p2) "at" p3] k2 p4)) p5)
theorem N6{r:Stmt}{v:Expr}{t:List Expr×Nat×Pos}{ab:Expr×Expr}{c:Const×Nat×Pos}{x n:Str}{o:Expr×Str×Pos}{q:Option Expr×Pos}(h1:r=.Return q.1 q.2)(h2:q.1=some v)(h3:v=.Tuple t.1 t.2.1 t.2.2)(h4:t.1=[ab.1,ab.2])(h5:ab.1=.Constant c.1 c.2.1 c.2.2)(h6:c.1=.str x)(h7:ab.2=.Attribute o.1 o.2.1 o.2.2)(h8:o.1=.Name n o.1.pos)(h9:o.2.1=("at":Str)):y3 (n,x) r:=by
 rw[h1,h2,h3,h4,h5,h6,h7,h8,h9];exact .mk ..
theorem th{r:Stmt}{x:Str×Str}(h:wQ r=some x):y3 x r:=by
 refine gg λG k_=>?_
 obtain⟨q,e1,h⟩:=aD.mp h;obtain⟨v,e2,h⟩:=aD.mp h;obtain⟨t,e3,h⟩:=aD.mp h;obtain⟨ab,e4,h⟩:=aD.mp h;obtain⟨c,e5,h⟩:=aD.mp h;obtain⟨y,e6,h⟩:=aD.mp h;obtain⟨o,e7,h⟩:=aD.mp h;obtain⟨n,e8,h⟩:=aD.mp h;obtain⟨q9,h⟩:=iN h;refine k_ ?_;exact(ao h)▸N6 (xC e1) e2 (iz e3) (Gu e4) (jM e5) (sW e6) (pn e7) (gu e8) q9
def sj:kH->Option (Str×Str)
 |.ExceptHandler t n b _=>t.bind λt=>n.bind λn=>(one b).bind λr=>(wQ r).bind λx=>if pS t=some ("SyntaxFault":Str)/\x.1=n then some x else none
inductive Kb(x:Str×Str):kH->Prop
 |mk (np:Pos) {r:Stmt} (hr:y3 x r) (hp:Pos):Kb x (.ExceptHandler (some (.Name "SyntaxFault" np)) (some x.1) [r] hp)
theorem tj{h:kH}{x:Str×Str}(e:sj h=some x):Kb x h:=by
 refine gg λG k_=>?_
 cases h
 obtain⟨t,e1,h1⟩:=aD.mp e;obtain⟨n,e2,h2⟩:=aD.mp h1;obtain⟨r,e3,h3⟩:=aD.mp h2;obtain⟨y,e4,h4⟩:=aD.mp h3;obtain⟨q,h5⟩:=iN h4;obtain rfl:=ao h5;refine k_ ?_;rw[e1,e2,gu q.1,<-q.2,nH e3];exact .mk _ (th e4) _
def oU(Γ:SC)(e:Expr):Option (List Expr):=D_ "SyntaxFault" Γ e
def OF(FB:List Stmt->M PF)(Γ:SC)(body:List Stmt)(h:kH):M PF:=match sj h with
 |some x=>(match kY Γ.names x.1 with
  |some i=>if Γ.fn=ah/\Γ.kinds.lookup x.1=some .local/\Γ.kinds.lookup ("SyntaxFault":Str)=some .globalImplicit/\okN x.1=ah then B5 (FB body) x.2 i else M.bad
  |none=>M.bad)
 |none=>M.bad
def K_(F:SC->Expr->M PV)(G:SC->Expr->M Bool)(FB:SC->List Stmt->M PF)(Γ:SC):Stmt->M PF
 |.Expr e _=>if(gv e).isNone then(do
  let _<-F Γ e
  pure .next) else M.bad
 |.Assign ts e _=>(match one ts with
  |some t=>Mf F G Γ t e
  |none=>M.bad)
 |.Return e _=>(match e with
  |some e=>do
   let v<-F Γ e
   pure (.ret v)
  |none=>pure (.ret .none))
 |.If t a b _=>do
  let c<-G Γ t
  if c then FB Γ a else FB Γ b
 |.While t b DA _=>if DA.isEmpty then bM (G Γ t) (FB Γ b) else M.bad
 |.For t e b DA _=>if DA.isEmpty&&jU t&&jW e then(do
  let it<-iM (F Γ) Γ e
  iC dR it (Me (F Γ) Γ t) (FB Γ b)) else M.bad
 |.Raise e c _=>if c.isNone then(match e.bind (oU Γ) with
  |some es=>cZ (xU (F Γ) es)
  |none=>M.bad) else M.bad
 |.Try body hs DA fin _=>if DA.isEmpty&&fin.isEmpty then(match one hs with
  |some h=>OF (FB Γ) Γ body h
  |none=>M.bad) else M.bad
 |.Continue _=>pure .cont
 |_=>M.bad
def Uq(ap:PV->List PV->M PV):Nat->SC->Stmt->M PF
 |0=>λ_ _=>M.bad
 |n+1=>K_ (ev ap 24).1 (ev ap 24).2 λΓ l=>qK (Uq ap n Γ) l
section
variable{C:Cx}{Γ:SC}{ap:PV->List PV->M PV}
theorem fF.bad{t:Expr}:fF w H0 C t (λ_=>M.bad):=λ_ _ _ _ _ _ _ _ _ p=>p.elim
theorem fF.iq(K:C.Ok)(S:fU H0 Γ C){x:Str}:fF w H0 C (.Name x pos) (iq Γ x):=by
 unfold Mine.iq;cases h:kY Γ.names x with
 |none=>exact fF.bad
 |some i=>
  dsimp only;have hi:C.names[i]?=some x:=by rw[S.nm];exact gY h
  split
  ·rename_i q;rcases q with q|⟨q,hf⟩
   ·exact fF.name K hi (S.kd _ _ q (by decide))
   ·exact fF.cell K hi (S.kd _ _ q (by decide)) (S.wc hf) (S.ce hf _ q)
  ·exact fF.bad
theorem qi.bind(K:C.Ok)(S:fU H0 Γ C){x:Str}(hx:Γ.kinds.lookup x=some .local):qi w H0 C (λv=>bindName C.env x v) (Mine.iq Γ x):=by
 unfold Mine.iq;cases h:kY Γ.names x with
 |none=>exactλ_ _ _ _ _ _ _ _ _ p=>p.elim
 |some i=>
  dsimp only;rw[if_pos (.inl hx)];exactλρ st s v V I r=>aG.wp (λQ E q=>oh q) (aG.oX K I (by rw[S.nm];exact gY h) (S.kd _ _ hx (by decide)) r)
theorem xS(K:C.Ok)(S:fU H0 Γ C):es.all (λe=>(asName e).isSome)=ah->(assignEach es C.env).length=es.length/\(assignEach es C.env).findIdx? (·.1)=none/\gb w H0 C ((assignEach es C.env).map (·.2)) (es.map (tS Γ)):=by
 induction es with
 |nil=>exactλ_=>⟨rfl,rfl,.nil⟩
 |cons e es ih=>
  intro h;simp only[dJ,aI] at h;obtain⟨x,hx⟩:=cy.mp h.1;obtain⟨h1,h2,h3⟩:=ih h.2;exact(gr hx).symm▸⟨congrArg Ly h1,(List.findIdx?_cons ..).trans (congrArg (sE Ly) h2),.cons (λρ st s v V I r=>fF.iq K S ρ st s v V I r) h3⟩
theorem fF.all{f:Expr->M PV}(B:Base w H0)(K:C.Ok)(S:fU H0 Γ C)(hf:∀e,bj w H0 C e (f e))(t:Expr):fF w H0 C t (Me f Γ t):=by
 cases t with
 |Name=>exact fF.iq K S
 |Attribute=>exact fF.attr B (hf _)
 |Subscript=>exact fF.sub (hf _) (hf _)
 |Tuple es k p=>
  by_cases h:es.all (λe=>(asName e).isSome)=ah
  ·obtain⟨h1,h2,h3⟩:=xS (w:=w) (H0:=H0) K S h;have e:Gr Γ es=_:=if_pos h;show fF w H0 C (.Tuple es k p) (Gr Γ es);exact e▸fF.tuple K h1 h2 h3
  ·have e:Gr Γ es=_:=if_neg h;show fF w H0 C (.Tuple es k p) (Gr Γ es);exact e▸fF.bad
 |_=>exact fF.bad
theorem m7(K:C.Ok):C.env.blockKind=.function:=by
 unfold Env.blockKind;rw[K.fn];rfl
theorem rM(S:fU H0 Γ C){x:Str}(h:(Γ.kinds.lookup x==some .local||Γ.kinds.lookup x==some .cell)=ah):(C.env.kindOf x==some .local)=(Γ.kinds.lookup x==some .local):=by
 rw[iF,beq_iff_eq,beq_iff_eq] at h;rcases h with h|h
 ·rw[h,S.kd _ _ h (by decide)]
 ·rw[h,S.kd _ _ h (by decide)]
noncomputable def Pj(env:Env)(line:Nat):Expr->Option Str
 |.Name id pos=>if env.kindOf id==some .local&&pos.line==line then some id else none
 |_=>none
theorem E2(S:fU H0 Γ C)(line:Nat){ts:List Expr}:ts.all (jB Γ)=ah->ts.filterMap (Pj C.env line)=ts.filterMap (NA Γ line):=by
 induction ts with
 |nil=>exactλ_=>rfl
 |cons t ts ih=>
  intro h;simp only[dJ,aI] at h;have h1:=h.1;unfold jB at h1;rw[cR,cR,ih h.2];cases hn:asName t with
  |none=>rw[hn] at h1;cases h1
  |some x=>
   rw[hn] at h1;have e:NA Γ line t=if C.env.kindOf x.1==some .local&&x.2.line==line then some x.1 else none:=by
    unfold NA;rw[hn];rw[rM S h1]
   rw[e,gr hn];rfl
theorem w5{ts vs:List Expr}{k k':Nat}{p p':Pos}:swappedStores [.Tuple ts k p] (.Tuple vs k' p') env=
 (if !(ts.length==2||ts.length==3)||vs.length !=ts.length||env.blockKind !=.function then bB none
 else if vs.any zu then bB none
 else if(ts.filterMap (Pj env ((ts.head?.map (·.pos.line)).getD 0))).length !=ts.length||(ts.filterMap (Pj env ((ts.head?.map (·.pos.line)).getD 0))).eraseDups.length !=(ts.filterMap (Pj env ((ts.head?.map (·.pos.line)).getD 0))).length then bB none
 else if vs.all (foldedForSure 8) then bB none
 else if vs.all (constantsAlone 8) then(do unsupported "assign.tuple-of-constant-expressions:order-of-the-stores";bB (some (ts.filterMap (Pj env ((ts.head?.map (·.pos.line)).getD 0)))))
 else bB (some (ts.filterMap (Pj env ((ts.head?.map (·.pos.line)).getD 0))))):=rfl
theorem w4{t:Expr}(h:asTuple t=none\/asTuple e=none)(hl:lG t=aj):swappedStores [t] e env=bB none:=by
 cases t<;>first|rfl|cases hl|skip
 cases e<;>first|rfl|skip
 rcases h with h|h<;>cases h
theorem UE{α β:Type}{c:Prop}[Decidable c]{a o:α}{b':Option α}{f:α->β}{b:β}(h:(if c then some a else b')=some o)(k:b'=some o->b=f o):(if c then f a else b)=f o:=by
 by_cases q:c
 ·rw[if_pos q] at h⊢;rw[ao h]
 ·rw[if_neg q] at h⊢;exact k h
theorem F_(K:C.Ok)(S:fU H0 Γ C){ts vs:List Expr}{k k':Nat}{p p':Pos}{o:Option (List Str)}(h:F9 Γ ts vs=some o):swappedStores [.Tuple ts k p] (.Tuple vs k' p') C.env=bB o:=by
 obtain⟨hk,h⟩:=iN h;rw[w5,m7 K,E2 S _ hk,show(ScopeKind.function !=.function)=aj from rfl,gq];generalize ts.filterMap (NA Γ _)=names at h⊢;refine UE h λh=>UE h λh=>UE h λh=>UE h λh=>?_
 by_cases c:vs.all (constantsAlone 8)=ah
 ·exact nS ((if_pos c).symm.trans h)
 ·simp only[<-ao ((if_neg c).symm.trans h)];exact if_neg c
theorem w0(K:C.Ok)(S:fU H0 Γ C){t:Expr}{o:Option (List Str)}(h:t_ Γ t e=some o):swappedStores [t] e C.env=bB o:=by
 have no:(asTuple t=none\/asTuple e=none)->(if lG t then none else some none)=some o->swappedStores [t] e C.env=bB o:=λq h=>by
  cases hl:lG t with
  |false=>rw[hl] at h;rw[<-ao h];exact w4 q hl
  |true=>rw[hl] at h;exact nS h
 unfold t_ at h;cases ht:asTuple t with
 |none=>rw[ht] at h;exact no (.inl ht) h
 |some x=>
  rw[ht] at h;cases he:asTuple e with
  |none=>rw[he] at h;exact no (.inr he) h
  |some y=>
   rw[he] at h;rw[iz ht,iz he];exact F_ K S h
theorem wU(e:Expr):LJ (λ_=>Option Scope) e (λ_ _ s _=>some s) (λ_ _ s _=>some s) (λ_ _ _ s _=>some s) (λ_=>none)=gv e:=rfl
theorem yJ{line:Nat}(h:gv e=none):swapsWith e none line env=bB aj:=by
 unfold swapsWith;rw[wU,h]
theorem yt{t:Expr}{a:Unit->α}{f:Str->Pos->α}{d:α}:LM (λ_=>α) (some t) a f (λ_=>d)=(match asName t with
 |some x=>f x.1 x.2
 |none=>d):=by cases t<;>rfl
theorem Gb{t:Expr}{line:Nat}:swapsWith e (some t) line env=(match gv e with
 |none=>bB aj
 |some scope=>(match asName t with
  |some x=>bB (env.blockKind==.function&&env.kindOf x.1==some .local&&x.2.line==e.pos.line&&!(scope.names.any λ(n,k)=>n==x.1&&(k==.local||k==.cell)))
  |none=>bB aj)):=by
 unfold swapsWith;dsimp only[wU];cases gv e with
 |none=>rfl
 |some=>exact yt
theorem F8{t:Expr}{line:Nat}(K:C.Ok)(S:fU H0 Γ C){b:Bool}(h:Ac Γ e t=some b):swapsWith e (some t) line C.env=bB b:=by
 simp only[Gb];delta Ac at h;dsimp only at h;cases hs:gv e with
 |none=>rw[hs] at h;rw[<-ao h]
 |some scope=>
  rw[hs] at h;dsimp only at h⊢;cases hn:asName t with
  |none=>rw[hn] at h;rw[<-ao h]
  |some x=>
   rw[hn] at h;obtain⟨hk,h⟩:=iN h;unfold jB at hk;rw[hn] at hk;simp only[m7 K,rM S hk,<-ao h];rfl
theorem gb.names(K:C.Ok)(S:fU H0 Γ C){l:List Str}:(∀n∈l,Γ.kinds.lookup n=some .local)->gb w H0 C (l.map λn=>bindName C.env n) (l.map (iq Γ)):=by
 induction l with
 |nil=>exactλ_=>.nil
 |cons n l ih=>exactλh=>.cons (qi.bind K S (h n (.head _))) (ih λm hm=>h m (.tail _ hm))
theorem iE{c:Prop}[Decidable c]{α:Type}{f:Option (Option α)}{x:α}(h:(if c then some none else f)=some (some x)):f=some (some x):=by
 by_cases q:c
 ·exact nS (ao ((if_pos q).symm.trans h))
 ·exact(if_neg q).symm.trans h
theorem BG{line:Nat}{n:Str}(h:NA Γ line e=some n):Γ.kinds.lookup n=some .local:=by
 unfold NA at h;cases q:asName e with
 |none=>rw[q] at h;exact nS h
 |some x=>
  rw[q] at h;obtain⟨q,h⟩:=iN h;simp only[aI] at q;exact(ao h)▸beq_iff_eq.mp q.1
theorem w3{ts vs:List Expr}{names:List Str}(h:F9 Γ ts vs=some (some names)):∀n∈names,Γ.kinds.lookup n=some .local:=λn hn=>by
 have h:=iE (iE (iE (iE (iN h).2)));by_cases c:vs.all (constantsAlone 8)=ah
 ·exact nS ((if_pos c).symm.trans h)
 ·rw[<-ao (ao ((if_neg c).symm.trans h))] at hn;obtain⟨a,_,ha⟩:=nU.mp hn;exact BG ha
theorem dr.Vg(K:C.Ok)(S:fU H0 Γ C){m:M PV}{t:Expr}{names:List Str}(hf:bj w H0 C e m)(hl:t_ Γ t e=some (some names))(hc:swapsWith e (some t) pos.line C.env=bB aj):dr w H0 C (.Assign [t] e pos) (do
 let v<-m
 let l<-gI names.length v
 fP (names.reverse.map (iq Γ)) l.reverse
 pure .next):=by
 have hw:=w0 K S hl;have no:(if lG t then none else some none)=some (some names)->False:=λh=>by
  cases q:lG t with
  |false=>rw[q] at h;exact nS (ao h)
  |true=>rw[q] at h;exact nS h
 unfold t_ at hl;cases ht:asTuple t with
 |none=>rw[ht] at hl;exact(no hl).elim
 |some x=>
  rw[ht] at hl;cases he:asTuple e with
  |none=>rw[he] at hl;exact(no hl).elim
  |some y=>
   simp only[he] at hl;obtain rfl:=iz ht;exact dr.xG K hf hc hw (gb.names K S λn hn=>w3 hl n (List.mem_reverse.mp hn))
theorem dr.Vf{F:SC->Expr->M PV}{G:SC->Expr->M Bool}(B:Base w H0)(K:C.Ok)(S:fU H0 Γ C)(hF:Ka w H0 C F)(hG:Kf w H0 C G){p2 p:Pos}{x:Str}(hi:kY Γ.names x=some i)(hk:Γ.kinds.lookup x=some .local)(hc:swapsWith (.ListComp elt [c] scope p2) (some (.Name x p)) pos.line C.env=bB ah):dr w H0 C (.Assign [.Name x p] (.ListComp elt [c] scope p2) pos) (do
 let v<-Pg F G Γ elt scope c
 aX i v
 pure .next):=by
 unfold Pg;obtain⟨target,iter,ifs,as⟩:=c;cases ht:asName target with
 |none=>exact c_.bad
 |some z=>
  obtain rfl:=gr ht;dsimp only;cases h:oB Γ scope z.1&&jW iter&&decide (as=0) with
  |false=>exact c_.bad
  |true=>
   refine gg λG k_=>?_
   simp only[aI,decide_eq_true_eq] at h;obtain⟨⟨h1,h2⟩,rfl⟩:=h;obtain⟨q1,q2,q3⟩:=oC S h1;refine k_ ?_;exact dr.xF K q1 q2 q3 h2 (mz.any B K S (hF Γ C S K rfl)) (λL K'=>d7.ifs (hG _ _ S.comp K' rfl) ifs) (λL K'=>hF _ _ S.comp K' rfl elt) (by rw[S.nm];exact gY hi) (S.kd _ _ hk (by decide)) hc
theorem dr.asg{F:SC->Expr->M PV}{G:SC->Expr->M Bool}(B:Base w H0)(K:C.Ok)(S:fU H0 Γ C)(hF:Ka w H0 C F)(hG:Kf w H0 C G){t:Expr}:dr w H0 C (.Assign [t] e pos) (Mf F G Γ t e):=by
 have hf:=hF Γ C S K rfl;unfold Mf;cases Wx:notStar t with
 |false=>exact c_.bad
 |true=>
  rw[if_pos rfl];cases hc:Ac Γ e t with
  |none=>exact c_.bad
  |some b=>
   have hc:=F8 (line:=pos.line) K S hc;cases b with
   |false=>
    dsimp only;cases hl:t_ Γ t e with
    |none=>exact c_.bad
    |some o=>
     cases o with
     |none=>exact dr.HA Wx (hf e) (fF.all B K S hf t) hc (w0 K S hl)
     |some names=>exact dr.Vg K S (hf e) hl hc
   |true=>
    dsimp only;cases Z6:Md e with
    |none=>exact c_.bad
    |some z=>
     cases hn:asName t with
     |none=>exact c_.bad
     |some y=>
      obtain rfl:=gr hn;obtain rfl:=AN Z6;dsimp only;cases ho:one z.2.1 with
      |none=>exact c_.bad
      |some c=>
       rw[nH ho] at hc⊢;cases hi:kY Γ.names y.1 with
       |none=>exact c_.bad
       |some i=>
        dsimp only;by_cases hk:Γ.kinds.lookup y.1=some .local
        ·rw[if_pos hk];exact dr.Vf B K S hF hG hi hk hc
        ·rw[if_neg hk];exact c_.bad
theorem i4.all{f:Stmt->M PF}(hf:∀x,dr w H0 C x (f x)):∀l:List Stmt,i4 w H0 C l (qK f l)
 |[]=>i4.nil
 |x::l=>i4.cons (hf x) (i4.all hf l)
theorem dr.tries{FB:List Stmt->M PF}(B:Base w H0)(K:C.Ok)(S:fU H0 Γ C)(hb:∀l,i4 w H0 C l (FB l)){h:kH}:dr w H0 C (.Try body [h] [] [] pos) (OF FB Γ body h):=by
 unfold OF;cases ht:sj h with
 |none=>exact c_.bad
 |some x=>
  have T:=tj ht;clear ht;dsimp only;cases hi:kY Γ.names x.1 with
  |none=>exact c_.bad
  |some i=>
   dsimp only;by_cases q:Γ.fn=ah/\Γ.kinds.lookup x.1=some .local/\Γ.kinds.lookup ("SyntaxFault":Str)=some .globalImplicit/\okN x.1=ah
   ·rw[if_pos q];cases T with
    |mk np hr hp=>
     cases hr
     exact dr.OG B K (S.fe q.1) (S.kd _ _ q.2.2.1 (by decide)) (by rw[S.nm];exact gY hi) (S.kd _ _ q.2.1 (by decide)) (nG q.2.2.2).1 (hb body)
   ·rw[if_neg q];exact c_.bad
theorem dr.raises{f:Expr->M PV}(B:Base w H0)(K:C.Ok)(S:fU H0 Γ C)(room:C.A.depth+1<recursionLimit)(hf:∀e,bj w H0 C e (f e)):dr w H0 C (.Raise (some e) none pos) (match oU Γ e with
 |some es=>cZ (xU f es)
 |none=>M.bad):=by
 cases h:oU Γ e with
 |none=>exact c_.bad
 |some es=>
  obtain⟨p,pos,rfl,q1,q2⟩:=rj h;exact dr.N1 B K room (S.kd _ _ q1 (by decide)) q2 (f_.all hf _ q2)
theorem rZ(K:C.Ok):interactive C.env=aj:=by
 unfold interactive;rw[K.fn];rfl
theorem dr.step{F:SC->Expr->M PV}{G:SC->Expr->M Bool}{FB:SC->List Stmt->M PF}(B:Base w H0)(K:C.Ok)(S:fU H0 Γ C)(room:C.A.depth+1<recursionLimit)(hF:Ka w H0 C F)(hG:Kf w H0 C G)(hb:∀l,i4 w H0 C l (FB Γ l))(x:Stmt):dr w H0 C x (K_ F G FB Γ x):=by
 have hf:=hF Γ C S K rfl;have hg:=hG Γ C S K rfl;cases x with
 |Expr e p=>
  cases h:gv e with
  |some s=>exact c_.eE (if_neg (by rw[h];nofun)) c_.bad
  |none=>exact c_.eE (if_pos (by rw[h];rfl)) (dr.expr (hf e) (rZ K) (yJ h))
 |Assign ts e p=>
  rcases ts with _|⟨t,_|_⟩
  ·exact c_.bad
  ·exact dr.asg B K S hF hG
  ·exact c_.bad
 |Return e p=>
  cases e with
  |some=>exact dr.ret (hf _)
  |none=>exact dr.Jk
 |If=>exact dr.Ê (hg _) (hb _) (hb _)
 |While t b DA p=>
  cases DA with
  |nil=>exact dr.dt K (hg _) (hb _)
  |cons=>exact c_.bad
 |For t e b DA p=>
  cases DA with
  |cons=>exact c_.bad
  |nil=>
   cases h:(jU t&&jW e) with
   |false=>exact c_.eE (if_neg (by rw[JT,h];nofun)) c_.bad
   |true=>
    refine c_.eE (if_pos (by rw[JT,h];rfl)) ?_;simp only[aI] at h;exact dr.D9 K h.1 h.2 (mz.any B K S hf) (fF.all B K S hf t) (hb b)
 |Raise e c p=>
  cases c with
  |some=>exact c_.bad
  |none=>
   cases e with
   |none=>exact c_.bad
   |some=>exact dr.raises B K S room hf
 |Try body hs DA fin p=>
  cases DA with
  |cons=>exact c_.bad
  |nil=>
   cases fin with
   |cons=>exact c_.bad
   |nil=>
    rcases hs with _|⟨h,_|_⟩
    ·exact c_.bad
    ·exact dr.tries B K S hb
    ·exact c_.bad
 |Continue=>exact dr.cont
 |_=>exact c_.bad
theorem xV(B:Base w H0)(K:C.Ok)(S:fU H0 Γ C)(room:C.A.depth+1<recursionLimit)(hu:C.A.units+64<cLine)(ha:∀C',C'.Ok->C'.A=C.A->ur w H0 C' ap):∀n (x:Stmt),dr w H0 C x (Uq ap n Γ x)
 |0,_=>c_.bad
 |n+1,x=>dr.step B K S room (DN B C ha hu 24).1 (DN B C ha hu 24).2 (λl=>i4.all (xV B K S room hu ha n) l) x
end
set_option backward.match.sparseCases false
def H9(old:Option (Value×List PV))(e:FE):SC:=⟨e.names,(fScope e.st).names,ah,old⟩
noncomputable def Ks:List (Addr×Nat×List PV):=[(59,2,[.int 0,.int (-1)]),(74,1,[.int 0]),(416,2,[.bool aj])]
def jA(a:Addr)(vs:List PV):List PV:=match Ks.find? (λd=>d.1==a&&d.2.1==vs.length) with
 |some d=>vs++d.2.2
 |none=>vs
def Mb(old:Option (Value×List PV))(ap:PV->List PV->M PV)(e:FE)(vs:List PV):M PV:=
 if(jA e.a vs).length=e.ps.length then jR e.names.length (jA e.a vs) (qK (Uq ap 24 (H9 old e)) (fBody e.st)) else M.bad
def xA(old:Option (Value×List PV))(ap:PV->List PV->M PV)(a:Addr)(vs:List PV):M PV:=match mA.find? (λe=>e.a==a) with
 |some e=>Mb old ap e vs
 |none=>M.bad
noncomputable def wq:List (Addr×Addr):=[(147,59),(285,205),(397,394),(419,416),(515,505),(590,582)]
def qF(old:Option (Value×List PV))(ap:PV->List PV->M PV)(a:Addr)(vs:List PV):M PV:=match wq.find? (λm=>m.1==a) with
 |some m=>wH a (xA old ap m.2) vs
 |none=>xA old ap a vs
def aY(old:Option (Value×List PV)):Nat->PV->List PV->M PV
 |0=>λ_ _=>M.bad
 |k+1=>λf vs=>match f with
  |.obj (.builtin id)=>vT id vs
  |.obj (.type T)=>Le T vs
  |.obj (.ref a)=>qF old (aY old k) a vs
  |_=>M.bad
theorem Om(ho:∀x,old=some x->j1 H0 x.1 x.2){C:Cx}{e:FE}(F:e.Ok):fU H0 (H9 old e) (C.sub e L) where
 od:=ho
 nm:=rfl
 kd:=λ_ _ h _=>h
 ce:=λ_ _ h=>cellsFrom_some _ _ _ _ F.sn (.inl h)
 wc:=λ_=>rfl
 fe:=λ_=>rfl
noncomputable def QD(P:bL)(e:FE):Bool:=match e.sX with
 |.none=>ah
 |.ref T=>(match(KF pw P).lookup T with
  |some o=>(match o.data with
   |.seq _ _=>ah
   |_=>aj)
  |none=>aj)
 |_=>aj
theorem HS(P:bL):mA.all (QD P)=ah:=by kernel_rfl
def room(k:Nat)(A:e_):Prop:=A.depth+2*k+2<recursionLimit/\A.units+4*k+70<cLine
noncomputable def tm(vs:Array Value):Obj:=⟨.type "tuple",none,.seq vs 0,#[]⟩
theorem Zp(P:bL):(KF pw P).lookup 52=some (tm #[.int 0 255,.int (-1) 257]):=by kernel_rfl
theorem Zq(P:bL):(KF pw P).lookup 67=some (tm #[.int 0 275]):=by kernel_rfl
theorem V5(P:bL):(KF pw P).lookup 409=some (tm #[.bool aj]):=by kernel_rfl
def QY:FE:=⟨59,58,c7 (bx pw 11) 0,"__init__","Cursor.__init__",.ref 52,vF,258,265,19,4,ah⟩
def QZ:FE:=⟨74,73,c7 (bx pw 11) 2,"peek","Cursor.peek",.ref 67,vF,276,282,27,2,ah⟩
def Kx:FE:=⟨416,415,c7 (bx pw 46) 0,"__init__","String.__init__",.ref 409,Jb,743,749,320,3,ah⟩
theorem D5:mA.map (·.a)=mA.map (·.a)/\(mA.map (·.a)).Nodup:=⟨rfl,by decide+kernel⟩
theorem uW{e e':FE}(h:e∈mA)(h':e'∈mA)(ha:e.a=e'.a):e=e':=by
 have hn:=D5.2;revert hn h h';generalize mA=l;intro h h' hn;induction l with
 |nil=>cases h
 |cons x l ih=>
  rw[bH,bF] at hn;rcases aP.mp h with q|q
  ·rcases aP.mp h' with q'|q'
   ·rw[q,q']
   ·exact absurd (bD.mpr ⟨e',q',by rw[<-ha,q]⟩) hn.1
  ·rcases aP.mp h' with q'|q'
   ·exact absurd (bD.mpr ⟨e,q,by rw[ha,q']⟩) hn.1
   ·exact ih q q' hn.2
theorem D1:QY∈mA:=cm (i:=3) (by kernel_rfl)
theorem D2:QZ∈mA:=cm (i:=5) (by kernel_rfl)
theorem Bf:Kx∈mA:=cm (i:=44) (by kernel_rfl)
noncomputable def NV:List Str:=["self","data","at","end"]
noncomputable def NW:List Str:=["self","ahead"]
noncomputable def FD:List Str:=["self","octets","is_hex"]
theorem S7:QY.ps=NV:=by kernel_rfl
theorem S8:QZ.ps=NW:=by kernel_rfl
theorem NX:Kx.ps=FD:=by kernel_rfl
section
variable{e:FE}
theorem Ed{T:Addr}{vs:Array Value}(he:e.sX=.ref T)(ho:s.heap.get? T=some (tm vs)):∀(M:Model) (A:e_) (E:Value->aH->Prop) (Q:Option (Array Value)->aH->Prop),Q (some vs) s->wpAny M A (seqItems? e.fd.defaults) Q E s:=λM A E Q h=>by
 show wpAny M A (seqItems? e.sX) Q E s;rw[he];exact eM ho rfl h
theorem Vh(F:e.Ok)(hp:e.ps=NV)(he:e.sX=.ref 52)(ho:s.heap.get? 52=some (tm #[.int 0 255,.int (-1) 257]))(a b:Value):pg s e.fd ⟨[a,b],[]⟩ (e.ps.zip [a,b,.int 0 255,.int (-1) 257]):=by
 rw[hp];exact m6 F.p1 F.p2 F.p3 F.p4 hp (Ed he ho) (ds:=[.int 0 255,.int (-1) 257]) rfl (by decide:2<=4) (by kernel_rfl) (by kernel_rfl) (by kernel_rfl)
theorem Vi(F:e.Ok)(hp:e.ps=NW)(he:e.sX=.ref 67)(ho:s.heap.get? 67=some (tm #[.int 0 275]))(a:Value):pg s e.fd ⟨[a],[]⟩ (e.ps.zip [a,.int 0 275]):=by
 rw[hp];exact m6 F.p1 F.p2 F.p3 F.p4 hp (Ed he ho) (ds:=[.int 0 275]) rfl (by decide:1<=2) (by kernel_rfl) (by kernel_rfl) (by kernel_rfl)
theorem Qi(F:e.Ok)(hp:e.ps=FD)(he:e.sX=.ref 409)(ho:s.heap.get? 409=some (tm #[.bool aj]))(a b:Value):pg s e.fd ⟨[a,b],[]⟩ (e.ps.zip [a,b,.bool aj]):=by
 rw[hp];exact m6 F.p1 F.p2 F.p3 F.p4 hp (Ed he ho) (ds:=[.bool aj]) rfl (by decide:2<=3) (by kernel_rfl) (by kernel_rfl) (by kernel_rfl)
end
section
variable{C:Cx}
theorem aR.snoc(r:aR ρ h l vs){k:List PV}{ws:List Value}(q:∀ρ h,aR ρ h k ws):aR ρ h (l++k) (vs++ws):=r.append (q ρ h)
end
theorem RP{l:List α}(h:l.length=2):∃a b,l=[a,b]:=by
 rcases l with _|⟨a,_|⟨b,_|⟨c,l⟩⟩⟩<;>first|exact⟨_,_,rfl⟩|simp at h
theorem WO{l:List α}(h:l.length=1):∃a,l=[a]:=by
 rcases l with _|⟨a,_|⟨b,l⟩⟩<;>first|exact⟨_,rfl⟩|simp at h
section
variable{C:Cx}
theorem HQ(B:Base w H0)(I:Inv w H0 C ρ st s.heap){e:FE}(he:e∈mA):∃o,∀(M:Model) (A:e_) (E:Value->aH->Prop) (Q:Option (Array Value)->aH->Prop),Q o s->wpAny M A (seqItems? e.fd.defaults) Q E s:=by
 have hk:=a6.mp (HS w.params) e he;show∃o,∀(M:Model) (A:e_) (E:Value->aH->Prop) (Q:Option (Array Value)->aH->Prop),Q o s->wpAny M A (seqItems? e.sX) Q E s;change(match e.sX with|.none=>ah|.ref T=>_|_=>aj)=ah at hk;cases q:e.sX with
 |none=>exact⟨none,λM A E Q h=>aE h⟩
 |ref T=>
  rw[q] at hk;change(match(KF pw w.params).lookup T with|some o=>_|none=>aj)=ah at hk;cases ho:(KF pw w.params).lookup T with
  |none=>rw[ho] at hk;exact nB hk
  |some o=>
   rw[ho] at hk;change(match o.data with|.seq _ _=>ah|_=>aj)=ah at hk;cases Uu:o.data with
   |seq us n=>exact⟨some us,λM A E Q h=>eM (I.old _ _ (B.K _ _ ho)) Uu h⟩
   |_=>rw[Uu] at hk;exact nB hk
 |_=>rw[q] at hk;exact nB hk
inductive uv(ρ:eS)(s:aH)(e:FE)(Vs:List Value)(full:List PV):Prop
 |mk (G5:List Value) (h1:G5.length=e.ps.length) (h2:aR ρ s.heap full G5) (h3:pg s e.fd ⟨Vs,[]⟩ (e.ps.zip G5))
theorem Qb{e:FE}(F:e.Ok)(hp:e.ps=NV)(hd:e.sX=.ref 52)(ho:s.heap.get? 52=some (tm #[.int 0 255,.int (-1) 257])){vs:List PV}(r:aR ρ s.heap vs Vs)(hv:2=vs.length):uv ρ s e Vs (vs++[.int 0,.int (-1)]):=by
 obtain⟨a,b,rfl⟩:=RP hv.symm;obtain⟨A,_,rfl,ra,Bv,_,rfl,rb,rfl⟩:=r;exact⟨[A,Bv,.int 0 255,.int (-1) 257],by rw[hp];rfl,⟨_,_,rfl,ra,_,_,rfl,rb,_,_,rfl,⟨_,rfl⟩,_,_,rfl,⟨_,rfl⟩,rfl⟩,Vh F hp hd ho A Bv⟩
theorem Qc{e:FE}(F:e.Ok)(hp:e.ps=NW)(hd:e.sX=.ref 67)(ho:s.heap.get? 67=some (tm #[.int 0 275])){vs:List PV}(r:aR ρ s.heap vs Vs)(hv:1=vs.length):uv ρ s e Vs (vs++[.int 0]):=by
 obtain⟨a,rfl⟩:=WO hv.symm;obtain⟨A,_,rfl,ra,rfl⟩:=r;exact⟨[A,.int 0 275],by rw[hp];rfl,⟨_,_,rfl,ra,_,_,rfl,⟨_,rfl⟩,rfl⟩,Vi F hp hd ho A⟩
theorem L_{e:FE}(F:e.Ok)(hp:e.ps=FD)(hd:e.sX=.ref 409)(ho:s.heap.get? 409=some (tm #[.bool aj])){vs:List PV}(r:aR ρ s.heap vs Vs)(hv:2=vs.length):uv ρ s e Vs (vs++[.bool aj]):=by
 obtain⟨a,b,rfl⟩:=RP hv.symm;obtain⟨A,_,rfl,ra,Bv,_,rfl,rb,rfl⟩:=r;exact⟨[A,Bv,.bool aj],by rw[hp];rfl,⟨_,_,rfl,ra,_,_,rfl,rb,_,_,rfl,rfl,rfl⟩,Qi F hp hd ho A Bv⟩
theorem C4(B:Base w H0)(I:Inv w H0 C ρ st s.heap){e:FE}(he:e∈mA){vs:List PV}(r:aR ρ s.heap vs Vs)(hl:(jA e.a vs).length=e.ps.length):uv ρ s e Vs (jA e.a vs):=by
 have F:=FE.okIn he;unfold jA at hl⊢;cases hd:Ks.find? (λd=>d.1==e.a&&d.2.1==vs.length) with
 |none=>
  rw[hd] at hl;have G9:Vs.length=e.ps.length:=r.length.trans hl;obtain⟨o,h⟩:=HQ B I he;exact⟨Vs,G9,r,oy F.p1 F.p2 F.p3 F.p4 rfl F.nd G9 h⟩
 |some d=>
  clear hl;have hm:=eK hd;have hq:=iG hd;rw[aI] at hq;have q1:=beq_iff_eq.mp hq.1;have q2:=beq_iff_eq.mp hq.2;clear hd hq;have kd:∀{T:Addr} {o:Obj},(KF pw w.params).lookup T=some o->s.heap.get? T=some o:=λh=>I.old _ _ (B.K _ _ h)
  rcases hm with _|⟨_,_|⟨_,_|⟨_,hm⟩⟩⟩
  ·obtain rfl:=uW he D1 q1.symm;exact Qb F S7 rfl (kd (Zp _)) r q2
  ·obtain rfl:=uW he D2 q1.symm;exact Qc F S8 rfl (kd (Zq _)) r q2
  ·obtain rfl:=uW he Bf q1.symm;exact L_ F NX rfl (kd (V5 _)) r q2
  ·cases hm
theorem Eu:wq.all (λm=>fx.contains (m.1,("__init__":Str),m.2))=ah:=by decide+kernel
theorem room.le{a b m r:Nat}(h:a+n<r)(h1:b<=a)(h2:m<=n):b+m<r:=aA (bQ h1 h2) h
theorem room.Uo{k:Nat}(h:room (k+1) A):A.depth+3<recursionLimit/\A.units+70<cLine:=
 ⟨room.le (n:=2*k+4) h.1 (aC _) (ai (by decide) (aQ 4 _)),room.le (n:=4*(k+1)+70) ((aN ..).symm▸h.2) (aC _) (aQ _ _)⟩
theorem room.sub{k:Nat}{B:e_}(h:room (k+1) A)(h1:B.depth=A.depth+i)(h2:B.units=A.units+j)(hi:i<=2)(hj:j<=4):room k B:=by
 unfold room;rw[h1,h2,aN,aN,aN,aN];exact⟨room.le (n:=2+(2*k+2)) (bz 2 (2*k+2)▸h.1) (aC _) (bR hi _),room.le (n:=4+(4*k+70)) (by have:=h.2;rwa[Pp,bz (4*k),aN,aN] at this) (aC _) (bR hj _)⟩
theorem fu.fn(ho:∀x,old=some x->j1 H0 x.1 x.2)(B:Base w H0)(K:C.Ok){ap:PV->List PV->M PV}(ha:∀C':Cx,C'.Ok->C'.A.depth=C.A.depth+1->C'.A.units=C.A.units+3->ur w H0 C' ap)(hr:C.A.depth+3<recursionLimit)(hu:C.A.units+70<cLine)
 (I:Inv w H0 C ρ st s.heap) {e:FE} (he:e∈mA) {vs:List PV} {Vs:List Value} (r:aR ρ s.heap vs Vs):fu w H0 C ρ st s (.call (.ref e.a) ⟨Vs,[]⟩) (Mb old ap e vs):=by
 unfold Mb;by_cases hl:(jA e.a vs).length=e.ps.length
 ·rw[if_pos hl];obtain⟨G5,h1,h2,h3⟩:=C4 B I he r hl;have F:=FE.okIn he;refine fu.Mp B he K I (room.le hr (aC _) (df 3)) h3 h1 h2 λL K'=>?_
  exact i4.all (xV B K' (Om ho F) (show C.A.depth+2<recursionLimit from room.le hr (aC _) (by decide)) (show C.A.units+67<cLine from room.le hu (aC _) (by decide)) (λC' k hA=>ha C' k (by rw[hA];rfl) (by rw[hA];rfl)) 24) _
 ·rw[if_neg hl];exactλ_ _ p=>p.elim
theorem fu.at(ho:∀x,old=some x->j1 H0 x.1 x.2)(B:Base w H0)(K:C.Ok){ap:PV->List PV->M PV}(ha:∀C':Cx,C'.Ok->C'.A.depth=C.A.depth+1->C'.A.units=C.A.units+3->ur w H0 C' ap)(hr:C.A.depth+3<recursionLimit)(hu:C.A.units+70<cLine)
 (I:Inv w H0 C ρ st s.heap) {a:Addr} {vs:List PV} {Vs:List Value} (r:aR ρ s.heap vs Vs):fu w H0 C ρ st s (.call (.ref a) ⟨Vs,[]⟩) (xA old ap a vs):=by
 unfold xA;cases h:mA.find? (λe=>e.a==a) with
 |none=>exactλ_ _ p=>p.elim
 |some e=>
  have he:=eK h;have Q_:e.a=a:=by simpa using iG h
  subst Q_;exact fu.fn ho B K ha hr hu I he r
theorem CZ(ho:∀x,old=some x->j1 H0 x.1 x.2)(B:Base w H0):∀(k:Nat) (C:Cx),C.Ok->room k C.A->ur w H0 C (aY old k)
 |0,_,_,_=>λ_ _ _ _ _ _ _ _ _ _ p=>p.elim
 |k+1,C,K,hr=>by
  intro ρ st s V vs Vs I r;cases V with
  |builtin id=>exact aG.builtin B K I r
  |type T=>exact aG.type B K I r
  |ref a=>
   refine fu.sim ?_;show fu w H0 C ρ st s _ (qF old (aY old k) a vs);unfold qF;cases h:wq.find? (λm=>m.1==a) with
   |none=>exact fu.at ho B K (λC' K' h1 h2=>CZ ho B k C' K' (hr.sub h1 h2 (by decide) (by decide))) hr.Uo.1 hr.Uo.2 I r
   |some m=>
    obtain⟨c,f⟩:=m;have hm:=eK h;have hc:c=a:=by simpa using iG h
    subst hc;have:=a6.mp Eu _ hm;refine fu.make B K I (f:=f) (by simpa using this) r λA' d9 st' s' vs' G5 K' d1 d2 I' r'=>?_
    exact fu.at ho B K' (λC' Y' h1 h2=>CZ ho B k C' Y' (hr.sub (i:=2) (j:=4) (h1.trans (congrArg (·+1) d1)) (h2.trans (congrArg (·+3) d2)) (by decide) (by decide))) (show A'.depth+3<_ by rw[d1];exact room.le (m:=4) (n:=2*k+4) hr.1 (aC _) (aQ 4 _)) (show A'.units+70<_ by rw[d2];exact room.le (m:=71) (n:=4*(k+1)+70) (by rw[<-aN];exact hr.2) (aC _) (bR (n:=1) (aQ 1 (4*k+3)) 70)) I' r'
  |_=>exactλ_ _ p=>p.elim
end
set_option backward.match.sparseCases true
noncomputable abbrev yo:RowW:=CO (J2 eR)
def dp:FE:=⟨726,725,bx pw 86,"law","law",.none,zU,1172,1178,639,1,ah⟩
theorem lF:dp∈mA:=cm (i:=mA.length-1) (by kernel_rfl)
theorem wb:dp.names=["script","pen","turn"].map b_:=by kernel_rfl
theorem wd:dp.ps=["script"].map b_:=by kernel_rfl
theorem kP(L:Addr):(callEnvC dp.fd L 726).cells=[]:=by kernel_rfl
theorem x5(L:Addr):(callEnvC dp.fd L 726).kindOf (b_ "script")=some .local:=by kernel_rfl
def EG(old:Option (Value×List PV))(k:Nat):M PF:=qK (Uq (aY old k) 24 (H9 old dp)) (fBody dp.st)
def Ah(L:Addr):Cx:=⟨callerA.deeper (callEnvC dp.fd L 726),callEnvC dp.fd L 726,[],dp.names,callEnvC dp.fd L 726,[]⟩
theorem AR{x:Str}{v:Value}(h:k x=some .local):bindL k [(x,v)] (λ_=>none) x=some v:=by
 unfold bindL bindL;rw[h];simp
theorem Gn(hH:s.heap=H0)
 (x:InCallC s s.heap.objs.size (bindL (callEnvC dp.fd s.heap.objs.size 726).kindOf (dp.ps.zip [V]) λ_=>none) (callEnvC dp.fd s.heap.objs.size 726).cells (bindC (callEnvC dp.fd s.heap.objs.size 726).kindOf (dp.ps.zip [V]) λ_=>none) cH):
 (Ah s.heap.objs.size).Ok/\Inv w H0 (Ah s.heap.objs.size) [] ⟨[some (.obj V),none,none],[]⟩ cH.heap:=by
 have F:=FE.okIn lF;have hk:=x5 s.heap.objs.size;have ha:dp.a=726:=rfl;have nn:H0.get? s.heap.objs.size=none:=by rw[hH];exact yY (aC _)
 refine⟨⟨F.fn,rfl,rfl,rfl,rfl,F.nn,?_,rfl⟩,λb o q=>x.toInCall.keep b o (by rw[hH];exact q),⟨?_,⟨s.heap.objs.size,?_⟩,trivial⟩,⟨_,x.toInCall.ns,?_⟩,rfl,?_,?_,?_,rfl,?_,i8,?_,nn,?_⟩
 ·show(pd _ (callEnvC dp.fd s.heap.objs.size 726).cells).Nodup;rw[kP];exact i8
 ·show(fScope dp.st).kind≠.module;rw[F.fn];decide
 ·obtain⟨o,es,ep,q,d,_⟩:=x.toInCall.ns;exact⟨o,rfl,nn,q,by rw[d];simp⟩
 ·intro i v q
  match i,q with
  |0,q=>
   cases q
   refine⟨b_ "script",V,by show dp.names[0]?=_;rw[wb];rfl,rfl,.inl ⟨hk,?_⟩⟩;rw[wd];exact AR hk
  |1,q=>cases q
  |2,q=>cases q
  |_+3,q=>cases q
 ·exactλh=>nomatch h
 ·exactλL hL h=>nomatch h
 ·intro p hp;have:p∈(callEnvC dp.fd s.heap.objs.size 726).cells:=hp;rw[kP] at this;cases this
 ·exactλi o e=>nomatch e
 ·exactλa h=>nomatch h
 ·exactλc h=>nomatch h
theorem Jf{args:List WData}(h:yo.claim.pre args=ah):∃ns:List Int,args=[.list (ns.map .int)]/\ns.length<=63:=by
 obtain⟨h1,h2⟩:=pre_splitW h;obtain⟨d,r,rfl,h3,h4⟩:=hasAllW_cons (show WShape.hasAll [] args [.list .int]=ah from h1);obtain rfl:=hasAllW_nil h4;obtain⟨xs,rfl,hi⟩:=hasW_list h3;obtain⟨ns,rfl⟩:=items_int hi;refine⟨ns,rfl,?_⟩;have h5:Hf [] (.and (.not (.lt (.lit (.int 63)) (.len (.arg 0)))) (.lit (.bool ah))) {args:=[.list (ns.map .int)]}=ah:=h2;by_cases q:ns.length<=63
 ·exact q
 ·have l:mP [] (.lt (.lit (.int 63)) (.len (.arg 0))) {args:=[.list (ns.map .int)]}=some (.bool ah):=by
   have e:mP [] (.lt (.lit (.int 63)) (.len (.arg 0))) {args:=[.list (ns.map .int)]}=some (WData.bool (decide ((63:Int)<((ns.map WData.int).length:Nat)))):=rfl;rw[e,aW,decide_eq_true (by lia)]
  have e:mP [] (.and (.not (.lt (.lit (.int 63)) (.len (.arg 0)))) (.lit (.bool ah))) {args:=[.list (ns.map .int)]}=some (.bool aj):=by
   have e2:mP [] (.not (.lt (.lit (.int 63)) (.len (.arg 0)))) {args:=[.list (ns.map .int)]}=some (.bool aj):=by
    rw[mP,l];rfl
   rw[mP,e2]
  unfold Hf at h5;rw[e] at h5;cases h5
theorem FA(ns:List Int):yo.claim.post [.list (ns.map .int)] (.bool ah) [.list (ns.map .int)]=ah:=by
 show(WShape.has [] (.bool ah) .bool&&Hf [] (.eq .res (.lit (.bool ah))) {args:=[.list (ns.map .int)],res:=some (.bool ah),after:=[.list (ns.map .int)]})=ah;kernel_rfl
theorem yD{R:WRecords}{ns:List Int}:∀{vs:List Value} {as:List Addr},ReadsAllW R cl h vs (ns.map .int) as->∀(ρ:eS) (h':Heap),aR ρ h' (ns.map .int) vs:=by
 induction ns with
 |nil=>exactλr _ _=>(O4 r).1
 |cons n ns ih=>
  intro vs as r ρ h';refine gg λG k_=>?_
  obtain⟨v,ws,_,_,rfl,_,r1,r2⟩:=LF r;refine k_ ?_;obtain⟨t,e,_⟩:=readsW_int_inv r1;exact⟨_,_,rfl,⟨t,e⟩,ih r2 ρ h'⟩
theorem EJ(P:bL):nsIn (KF pw P) mainGlobals "law"=some (some (.ref 726)):=by kernel_rfl
theorem PT(P:bL):KA=(KF pw P).map (·.1):=by kernel_rfl
theorem BK:importsNone (pK pw)=ah:=by kernel_rfl
theorem IG(B:Base w cH.heap){b:Addr}{ns:List Int}(hO:j1 cH.heap (.ref b) (ns.map .int)){stF:St}(hm:EG (some (.ref b,ns.map .int)) 300 ⟨[some (.obj (.ref b)),none,none],[]⟩=.ok (.ret (.bool ah)) stF)
 (fin:∀h tk,(∀b o,cH.heap.get? b=some o->h.get? b=some o)->Q (.bool ah) {cH with heap:=h,toks:=tk}):wpAny (model pw w) callerA (bU (.ref 726) [.ref b]) Q E cH:=by
 have Rw:∀x,some (cG b,ns.map PV.int)=some x->j1 cH.heap x.1 x.2:=λx e=>by rw[<-ao e];exact hO
 have F:=FE.okIn lF;refine gg λG k_=>?_
 obtain⟨oc,Qz,ct,c1,c2,c3⟩:=FE.Di lF w.params;refine k_ ?_;refine my ?_;refine GZ (o:=Pa dp.st dp.nm dp.qn dp.sX dp.pm (.ref dp.c)) (fd:=dp.fd) (body:=fBody dp.st) (by decide) (B.K _ _ (FE.at_ lF w.params)) rfl F.co F.ge rfl ⟨dp.c,oc,Qz,ct,rfl,B.K _ _ c1,c2,c3⟩ ?_;refine oy (fd:=dp.fd) (ps:=dp.ps) (o:=none) F.p1 F.p2 F.p3 F.p4 rfl F.nd (by rw[wd];rfl) (λM A E Q h=>aE h) _ _ _ _ ?_;refine xp F.fn (λx hx=>?_) λenv Cp Ge x=>?_
 ·have hm:x.1∈dp.ps:=(gy (show(x.1,x.2)∈dp.ps.zip _ from hx)).1;exact(F.kinds _ hm).imp id λk=>⟨k,cellsFrom_some _ _ _ _ F.sn (.inl k)⟩
 obtain rfl:env=callEnvC dp.fd cH.heap.objs.size 726:=Cp;obtain⟨bo,b8,rfl,kp⟩:=x.done;obtain⟨K',I'⟩:=Gn (H0:=cH.heap) rfl x;refine⟨B.lim.keeps x.toInCall.keep,codeAny_func ?_⟩;have S:fU cH.heap (H9 (some (cG b,ns.map PV.int)) dp) (Ah cH.heap.objs.size):=⟨rfl,λ_ _ h _=>h,λ_ _ h=>cellsFrom_some _ _ _ _ F.sn (.inl h),λ_=>by show[]=pd _ (callEnvC dp.fd cH.heap.objs.size 726).cells;rw[kP];rfl,λ_=>rfl,Rw⟩;have body:i4 w cH.heap (Ah cH.heap.objs.size) (fBody dp.st) (EG (some (.ref b,ns.map .int)) 300):=
  i4.all (xV B K' S (by decide:(301+1)+1<recursionLimit) (by decide:(4+3)+64<cLine) (λC' k hA=>CZ Rw B 300 C' k (by rw[hA];exact⟨(by decide:(301+1)+2*300+2<recursionLimit),(by decide:(4+3)+4*300+70<cLine)⟩)) 24) _
 refine body _ _ _ I' _ _ ?_;rw[hm];intro d9 f' h' fJ dg dS gm;obtain⟨V,rfl,gm⟩:=gm;obtain rfl:V=.bool ah:=gm;exact fin h' fJ dg.old
theorem BS{R:WRecords}{ns:List Int}{as:List Addr}(hr:ReadsAllW R cl h vs [.list (ns.map .int)] as):∃b,vs=[.ref b]/\j1 h (.ref b) (ns.map .int):=by
 obtain⟨v,ws,_,_,rfl,_,r1,r2⟩:=LF hr;refine gg λG k_=>?_
 obtain⟨l,o,us,m,_,rfl,h1,h2,h3,h4,_⟩:=readsW_list_open r1;refine k_ ?_;exact((O4 r2).1).symm▸⟨l,rfl,l,us,rfl,⟨o,h1,h2,m,h3⟩,yD h4⟩
theorem TQ(main:∀(a:Addr) (ns:List Int),ns.length<=63->∃st',EG (some (.ref a,ns.map .int)) 300 ⟨[some (.obj (.ref a)),none,none],[]⟩=.ok (.ret (.bool ah)) st'):
 WalkX (pK pw) loose (λ_ _=>True) yf (ya pw) yo ⟨"law",fArgs (bx pw 86),fBody (bx pw 86),fScope (bx pw 86),⟨639,0,644,15⟩⟩ [] λf vs=>bU f vs:=by
 intro w s₀ cH mg mb G hy a o pm cd doc dV kV ho _ _ _ Z_ Rm args vals as L Wu Z5 hr YD Z7;have X:(KF pw w.params).In cH.heap:=(Frag.in_of (PT w.params) hy).keeps L.keeps;have B:Base w cH.heap:=⟨X,⟨mg,G.T.g⟩,⟨mb,G.T.b,G.T.builtins⟩,G.T.nolimit,G.T.seer BK⟩;have ha:a=726:=by
  have:=mg_of X G.T.g (EJ w.params);rw[Z_] at this
  injection this with this
  injection this
 rw[ha];refine gg λG k_=>?_
 obtain⟨ns,e,hn⟩:=Jf Wu;refine k_ ?_;rw[e] at hr⊢;refine gg λG k_=>?_
 obtain⟨b,e,hO⟩:=BS hr;refine k_ ?_;rw[e];obtain⟨stF,hm⟩:=main b ns hn;exact IG B hO hm λh tk k=>⟨.inl ⟨.bool ah,.bool ah,[],rfl,λ_=>rfl,.bool ah,FA ns,λ_=>⟨i8,λ_ h=>nomatch h⟩⟩,.of_keep k,rfl,.of_eq Rm⟩
end
section
variable{E:Int->List PO->Prop}{QB:Bool->St->Prop}{Q:PV->St->Prop}{QF:PF->St->Prop}{hp ay hp0:List PO}{d w mark s cl rest:List UInt8}{old:Old}{l kvs:List (Str×PV)}{v x0 x1 tok x2:PV}{vs L items fs L':List PV}{acc:List Tr}{Z S ix:List Nat}{k n a c j f li p i kf W:Nat}{st:St}{QS:St->Prop}{ts full:TS}{t:Tk}{fl:List (Str×List Tr)}{α:Type}{y o7 o8 o4 o1 o2 o6:Option PV}{T:Value}{QI:It->St->Prop}{D:Due}{l0:List (Option PV)}{QL:List PV->St->Prop}{xs:List (Tk×List UInt8)}
noncomputable abbrev Ap:=PV->List PV->M PV
noncomputable abbrev Old:=Option (Value×List PV)
def eB(op:sN)(a b:M PV):M PV:=do
 let x<-a
 let y<-b
 iP op x y
def eC(op:CmpOp)(a b:M PV):M PV:=do
 let x<-a
 let y<-b
 fA op x y
def ă(o p:CmpOp)(a b c:M PV):M PV:=xM a b c (fA o) (fA p)
def zg(op:n5)(a r:M PV):M PV:=do
 let v<-a
 let b<-dz v
 if b==(op==.And) then r else pure v
def QK(a:M PV):M PV:=do
 let v<-a
 let b<-dz v
 pure (.bool (!b))
def m_(a:M PV):M PV:=do
 let v<-a
 Ni v
noncomputable def m9(c:M Bool)(a b:M PV):M PV:=do
 let c<-c
 if c then a else b
def eh(a:M PV)(x:Str):M PV:=do
 let v<-a
 j2 x v
def bt(a k:M PV):M PV:=do
 let v<-a
 let i<-k
 km v i
def iB(old:Old)(a l u:M PV):M PV:=do
 let v<-a
 let l<-l
 let u<-u
 lh old v l u
def eList(es:M (List PV)):M PV:=do
 let l<-es
 oO l
def bq(es:M (List PV)):M PV:=do
 let l<-es
 E5 l
def aa(a:M PV)(r:M (List PV)):M (List PV):=do
 let v<-a
 let vs<-r
 pure (v::vs)
def ax(ap:Ap)(g:M PV)(es:M (List PV)):M PV:=do
 let v<-g
 qP ap v es
def bV(ap:Ap)(o:M PV)(x:Str)(es:M (List PV)):M PV:=do
 let v<-o
 let g<-methP x v
 let vs<-es
 ap g (v::vs)
def Zx(i:Nat):M PV:=do
 let v<-af i
 fG v
def mH(es:M (List PV)):M It:=do
 let vs<-es
 g9 vs
def nv(a:M PV):M It:=do
 let v<-a
 j4 v
def tC(op:CmpOp)(a b:M PV):M Bool:=do
 let x<-a
 let y<-b
 let c<-fA op x y
 dz c
def XZ(o p:CmpOp)(a b c:M PV):M Bool:=do
 let a<-a
 let b<-b
 let t<-fA o a b
 let t<-dz t
 if t then(do let d<-c;let e<-fA p b d;dz e) else pure aj
def eT(a:M Bool):M Bool:=do
 let b<-a
 pure (!b)
def bY(a r:M Bool):M Bool:=do
 let b<-a
 if b then r else pure aj
def hJ(a r:M Bool):M Bool:=do
 let b<-a
 if b then pure ah else r
def tV(a:M PV):M Bool:=do
 let v<-a
 dz v
def aq(a b:M PF):M PF:=do
 let r<-a
 match r with
 |.next=>b
 |r=>pure r
def mR(a:M PV):M PF:=do
 let _<-a
 pure .next
def bg(a:M PV)(g:PV->M Unit):M PF:=do
 let v<-a
 g v
 pure .next
def j8(a:M PV)(n:Nat)(gs:List (PV->M Unit)):M PF:=do
 let v<-a
 let l<-gI n v
 fP gs l.reverse
 pure .next
def bw(a:M PV):M PF:=do
 let v<-a
 pure (.ret v)
noncomputable def cI(c:M Bool)(a b:M PF):M PF:=do
 let c<-c
 if c then a else b
def pZ(it:M It)(g:PV->M Unit)(b:M PF):M PF:=do
 let it<-it
 iC dR it g b
def pW(o:M PV)(x:Str)(p:PV):M Unit:=do
 let v<-o
 fi x v p
def rn(o i:M PV)(p:PV):M Unit:=do
 let v<-o
 let k<-i
 gc v k p
def x7(n:Nat)(gs:List (PV->M Unit))(v:PV):M Unit:=do
 let l<-gI n v
 fP gs l
set_option backward.match.sparseCases false
def X(m:M α)(st:St)(Q:α->St->Prop)(E:Int->List PO->Prop):Prop:=match m st with
 |.ok a s=>Q a s
 |.exc n s=>E n s.hp
 |.bad=>False
def Ev(m:M α)(st:St)(a:α):Prop:=m st=.ok a st
def K(b:M PF)(QF:PF->St->Prop)(E:Int->List PO->Prop)(f:PF)(s:St):Prop:=match f with
 |.next=>X b s QF E
 |f=>QF f s
def Lp(c:M Bool)(b:M PF)(QF:PF->St->Prop)(E:Int->List PO->Prop)(f:PF)(s:St):Prop:=match f with
 |.next=>X (bM c b) s QF E
 |.cont=>X (bM c b) s QF E
 |.brk=>QF .next s
 |.ret v=>QF (.ret v) s
def Lf(k:Nat)(it:It)(g:PV->M Unit)(b:M PF)(QF:PF->St->Prop)(E:Int->List PO->Prop)(f:PF)(s:St):Prop:=match f with
 |.next=>X (iC k it g b) s QF E
 |.cont=>X (iC k it g b) s QF E
 |.brk=>QF .next s
 |.ret v=>QF (.ret v) s
noncomputable def XN:PF->PV
 |.ret v=>v
 |_=>.none
def Rt(Q:PV->St->Prop)(loc:List (Option PV))(f:PF)(s:St):Prop:=Q (XN f) ⟨loc,s.hp⟩
section
variable{β:Type}{s:St}{QU:Unit->St->Prop}
theorem X.bind{m:M α}{f:α->M β}{Q:β->St->Prop}(h:X m st (λa s=>X (f a) s Q E) E):X (m>>=f) st Q E:=by
 unfold X at h⊢;dsimp only[M.b6];cases hm:m st with
 |ok a s=>rw[hm] at h;exact h
 |exc n s=>rw[hm] at h;exact h
 |bad=>rw[hm] at h;exact h
theorem X.mono{m:M α}{Q Q':α->St->Prop}{E':Int->List PO->Prop}(h:X m st Q E)(q:∀a s,Q a s->Q' a s)(e:∀n s,E n s->E' n s):X m st Q' E':=by
 unfold X at h⊢;cases hm:m st with
 |ok a s=>rw[hm] at h;exact q _ _ h
 |exc n s=>rw[hm] at h;exact e _ _ h
 |bad=>rw[hm] at h;exact h
theorem X.ok{m:M α}{a:α}{Q:α->St->Prop}(e:m st=.ok a s)(h:Q a s):X m st Q E:=by
 unfold X;rw[e];exact h
theorem X.exc{m:M α}{n:Int}{Q:α->St->Prop}(e:m st=.exc n s)(h:E n s.hp):X m st Q E:=by
 unfold X;rw[e];exact h
theorem X.run{m:M α}{P:α->St->Prop}(h:X m st P (λ_ _=>False)):∃a s,m st=.ok a s/\P a s:=by
 delta X at h;dsimp only at h;cases hm:m st with
 |ok a s=>rw[hm] at h;exact⟨a,s,rfl,h⟩
 |exc n s=>rw[hm] at h;exact h.elim
 |bad=>rw[hm] at h;exact h.elim
theorem X.ev{m:M α}{a:α}{Q:α->St->Prop}(e:Ev m st a)(h:Q a st):X m st Q E:=X.ok e h
theorem X.dP{m:M α}{f:α->M β}{a:α}{Q:β->St->Prop}(e:Ev m st a)(h:X (f a) st Q E):X (m>>=f) st Q E:=X.bind (X.ok e h)
theorem Ev.bind{m:M α}{f:α->M β}{a:α}{b:β}(e:Ev m st a)(h:Ev (f a) st b):Ev (m>>=f) st b:=by
 unfold Ev at*;simp only[M.b6,e];exact h
theorem Ev.B{op:sN}{a b:M PV}{x y z:PV}(h1:Ev a st x)(h2:Ev b st y)(h3:Ev (iP op x y) st z):Ev (eB op a b) st z:=h1.bind (h2.bind h3)
theorem Ev.C{op:CmpOp}{a b:M PV}{x y z:PV}(h1:Ev a st x)(h2:Ev b st y)(h3:Ev (fA op x y) st z):Ev (eC op a b) st z:=h1.bind (h2.bind h3)
theorem Ev.tC{op:CmpOp}{a b:M PV}{x y:PV}{z:Bool}(h1:Ev a st x)(h2:Ev b st y)(h3:Ev (fA op x y) st (.bool z)):Ev (tC op a b) st z:=h1.bind (h2.bind (h3.bind rfl))
theorem Ev.eT{a:M Bool}{z:Bool}(h:Ev a st z):Ev (eT a) st (!z):=h.bind rfl
theorem Ev.bY{a r:M Bool}{y z:Bool}(h:Ev a st y)(h2:y=ah->Ev r st z):Ev (bY a r) st (y&&z):=h.bind (by
 cases y
 ·rfl
 ·exact h2 rfl)
theorem Ev.hJ{a r:M Bool}{y z:Bool}(h:Ev a st y)(h2:y=aj->Ev r st z):Ev (hJ a r) st (y||z):=h.bind (by
 cases y
 ·exact h2 rfl
 ·rfl)
theorem Ev.tV{a:M PV}{z:Bool}(h:Ev a st (.bool z)):Ev (tV a) st z:=h.bind rfl
theorem Ev.QK{a:M PV}{z:Bool}(h:Ev a st (.bool z)):Ev (QK a) st (.bool (!z)):=h.bind rfl
theorem Ev.m_{a:M PV}{z:Int}(h:Ev a st (.int z)):Ev (m_ a) st (.int (-z)):=h.bind rfl
theorem Ev.bA{a r:M PV}{y z:Bool}(h:Ev a st (.bool y))(h2:y=ah->Ev r st (.bool z)):Ev (zg .And a r) st (.bool (y&&z)):=h.bind (by
 cases y
 ·rfl
 ·exact h2 rfl)
theorem Ev.bO{a r:M PV}{y z:Bool}(h:Ev a st (.bool y))(h2:y=aj->Ev r st (.bool z)):Ev (zg .Or a r) st (.bool (y||z)):=h.bind (by
 cases y
 ·exact h2 rfl
 ·rfl)
theorem Ev.nq{c:M Bool}{a b:M PV}{t:Bool}(h:Ev c st t)(e:t=ah)(h2:Ev a st v):Ev (m9 c a b) st v:=h.bind (by rw[e];exact h2)
theorem Ev.gF{c:M Bool}{a b:M PV}{t:Bool}(h:Ev c st t)(e:t=aj)(h2:Ev b st v):Ev (m9 c a b) st v:=h.bind (by rw[e];exact h2)
theorem Ev.at_{a:M PV}{w:PV}{x:Str}(h:Ev a st v)(h2:Ev (j2 x v) st w):Ev (eh a x) st w:=h.bind h2
theorem Ev.sub{a b:M PV}{x y z:PV}(h1:Ev a st x)(h2:Ev b st y)(h3:Ev (km x y) st z):Ev (bt a b) st z:=h1.bind (h2.bind h3)
theorem Ev.sl{a b c:M PV}{x y z w:PV}(h1:Ev a st x)(h2:Ev b st y)(h3:Ev c st z)(h4:Ev (lh old x y z) st w):Ev (iB old a b c) st w:=h1.bind (h2.bind (h3.bind h4))
theorem Ev.nil:Ev (pure []:M (List PV)) st []:=rfl
theorem Ev.cons{a:M PV}{r:M (List PV)}{l:List PV}(h:Ev a st v)(h2:Ev r st l):Ev (aa a r) st (v::l):=h.bind (h2.bind rfl)
theorem Ev.tup{es:M (List PV)}{l:List PV}(h:Ev es st l)(z:sz l.length=ah):Ev (bq es) st (.tup l):=h.bind (if_pos z)
theorem Ev.call{ap:Ap}{g:PV}{es:M (List PV)}(c:m8 g=ah)(h:Ev es st vs)(h2:Ev (ap g vs) st v):Ev (ax ap (pure g) es) st v:=Ev.bind (a:=g) rfl (by
 unfold qP;rw[if_pos c];exact h.bind h2)
theorem Ev.int{i j:Int}{m:M PV}(h:Ev m st (.int i))(e:i=j):Ev m st (.int j):=e▸h
theorem X.list{es:M (List PV)}{l:List PV}(h:Ev es st l)(z:sz l.length=ah)(q:Q (.ref st.hp.length) ⟨st.loc,st.hp++[.list l]⟩):X (eList es) st Q E:=X.dP h (X.ok (if_pos z) q)
theorem X.call{ap:Ap}{g:PV}{es:M (List PV)}(c:m8 g=ah)(h:Ev es st vs)(h2:X (ap g vs) st Q E):X (ax ap (pure g) es) st Q E:=X.dP (a:=g) rfl (by
 unfold qP;rw[if_pos c];exact X.dP h h2)
theorem X.iw{ap:Ap}{g:PV}{es:M (List PV)}(c:m8 g=ah)(h:X es st (λvs s=>X (ap g vs) s Q E) E):X (ax ap (pure g) es) st Q E:=X.dP (a:=g) rfl (by
 unfold qP;rw[if_pos c];exact X.bind h)
theorem X.fh{ap:Ap}{o:M PV}{x:Str}{g:PV}{es:M (List PV)}(ho:Ev o st v)(hg:Ev (methP x v) st g)(h:Ev es st vs)(h2:X (ap g (v::vs)) st Q E):X (bV ap o x es) st Q E:=
 X.dP ho (X.dP hg (X.dP h h2))
theorem X.EU{ap:Ap}{o:M PV}{x:Str}{g:PV}{es:M (List PV)}(ho:Ev o st v)(hg:Ev (methP x v) st g)(h:X es st (λvs s=>X (ap g (v::vs)) s Q E) E):X (bV ap o x es) st Q E:=
 X.dP ho (X.dP hg (X.bind h))
theorem Ev.fh{ap:Ap}{o:M PV}{x:Str}{g w:PV}{es:M (List PV)}(ho:Ev o st v)(hg:Ev (methP x v) st g)(h:Ev es st vs)(h2:Ev (ap g (v::vs)) st w):Ev (bV ap o x es) st w:=
 ho.bind (hg.bind (h.bind h2))
theorem X.cX{a:M PV}{r:M (List PV)}(h:X a st (λv s=>X r s (λvs s'=>QL (v::vs) s') E) E):X (aa a r) st QL E:=X.bind (h.mono (λ_ _ h=>X.bind h) λ_ _ e=>e)
theorem X.jz{a:M PV}{r:M (List PV)}(h:Ev a st v)(h2:X r st (λvs s'=>QL (v::vs) s') E):X (aa a r) st QL E:=X.dP h (X.bind h2)
theorem X.tup{es:M (List PV)}(h:X es st (λl s=>sz l.length=ah/\Q (.tup l) s) E):X (bq es) st Q E:=X.bind (h.mono (λ_ _ h=>X.ok (if_pos h.1) h.2) λ_ _ e=>e)
theorem X.EN{es:M (List PV)}(h:X es st (λl s=>sz l.length=ah/\Q (.ref s.hp.length) ⟨s.loc,s.hp++[.list l]⟩) E):X (eList es) st Q E:=X.bind (h.mono (λ_ _ h=>X.ok (if_pos h.1) h.2) λ_ _ e=>e)
theorem X.B{op:sN}{a b:M PV}(h:X a st (λx s=>X b s (λy s'=>X (iP op x y) s' Q E) E) E):X (eB op a b) st Q E:=X.bind (h.mono (λ_ _ h=>X.bind h) λ_ _ e=>e)
theorem X.C{op:CmpOp}{a b:M PV}(h:X a st (λx s=>X b s (λy s'=>X (fA op x y) s' Q E) E) E):X (eC op a b) st Q E:=X.bind (h.mono (λ_ _ h=>X.bind h) λ_ _ e=>e)
theorem X.tC{op:CmpOp}{a b:M PV}(h:X a st (λx s=>X b s (λy s'=>X (fA op x y) s' (λc Pm=>X (dz c) Pm QB E) E) E) E):X (tC op a b) st QB E:=X.bind (h.mono (λ_ _ h=>X.bind (h.mono (λ_ _ h=>X.bind h) λ_ _ e=>e)) λ_ _ e=>e)
theorem X.eT{a:M Bool}(h:X a st (λb s=>QB (!b) s) E):X (eT a) st QB E:=X.bind h
theorem X.tV{a:M PV}(h:X a st (λv s=>X (dz v) s QB E) E):X (tV a) st QB E:=X.bind h
theorem X.bY{a r:M Bool}(h:X a st (λb s=>(b=ah->X r s QB E)/\(b=aj->QB aj s)) E):X (bY a r) st QB E:=
 X.bind (h.mono (λb _ h=>by cases b;exact h.2 rfl;exact h.1 rfl) λ_ _ e=>e)
theorem X.Ae{a r:M Bool}{b:Bool}(e:Ev a st b)(h1:b=ah->X r st QB E)(h2:b=aj->QB aj st):X (Mine.bY a r) st QB E:=X.bY (X.ok e ⟨h1,h2⟩)
theorem X.hJ{a r:M Bool}(h:X a st (λb s=>(b=ah->QB ah s)/\(b=aj->X r s QB E)) E):X (hJ a r) st QB E:=
 X.bind (h.mono (λb _ h=>by cases b;exact h.2 rfl;exact h.1 rfl) λ_ _ e=>e)
theorem X.m9{c:M Bool}{a b:M PV}(h:X c st (λt s=>(t=ah->X a s Q E)/\(t=aj->X b s Q E)) E):X (m9 c a b) st Q E:=
 X.bind (h.mono (λb _ h=>by cases b;exact h.2 rfl;exact h.1 rfl) λ_ _ e=>e)
theorem X.sub{a k:M PV}(h:X a st (λv s=>X k s (λi s'=>X (km v i) s' Q E) E) E):X (bt a k) st Q E:=X.bind (h.mono (λ_ _ h=>X.bind h) λ_ _ e=>e)
theorem X.truth{b:Bool}(h:QB b st):X (dz (.bool b)) st QB E:=h
section
variable{b:M PF}
theorem X.seq{a:M PF}(h:X a st (K b QF E) E):X (aq a b) st QF E:=X.bind (h.mono (λr s h=>by cases r<;>exact h) λ_ _ e=>e)
theorem X.asg{a:M PV}{g:PV->M Unit}(h:X a st (λv s=>X (g v) s (λ_ s'=>X b s' QF E) E) E):X (aq (bg a g) b) st QF E:=X.seq (X.bind (h.mono (λ_ _ h=>X.bind h) λ_ _ e=>e))
theorem X.dm{a:M PV}(h:X a st (λv s=>X b ⟨s.loc.set i (some v),s.hp⟩ QF E) E):X (aq (bg a (aX i)) b) st QF E:=X.asg h
theorem X.hY{a:M PV}(e:Ev a st v)(h:X b ⟨st.loc.set i (some v),st.hp⟩ QF E):X (aq (bg a (aX i)) b) st QF E:=X.dm (X.ok e h)
theorem X.ret{a:M PV}(h:X a st (λv s=>QF (.ret v) s) E):X (aq (bw a) b) st QF E:=X.seq (X.bind h)
theorem X.c6{a:M PV}(e:Ev a st v)(h:QF (.ret v) st):X (aq (bw a) b) st QF E:=X.ret (X.ok e h)
theorem X.XM(h:QF (.ret v) st):X (aq (pure (.ret v)) b) st QF E:=X.seq (X.ok rfl h)
theorem X.cont(h:QF .cont st):X (aq (pure .cont) b) st QF E:=X.seq (X.ok rfl h)
theorem X.nx(h:QF .next st):X (pure .next) st QF E:=h
theorem X.ex{a:M PV}(h:X a st (λ_ s=>X b s QF E) E):X (aq (mR a) b) st QF E:=X.seq (X.bind h)
theorem X.qp{c:M Bool}{a a':M PF}(h:X c st (λt s=>(t=ah->X a s (K b QF E) E)/\(t=aj->X a' s (K b QF E) E)) E):X (aq (cI c a a') b) st QF E:=
 X.seq (X.bind (h.mono (λb _ h=>by cases b;exact h.2 rfl;exact h.1 rfl) λ_ _ e=>e))
theorem X.tP{c:M Bool}{a a':M PF}{t:Bool}(e:Ev c st t)(h1:t=ah->X a st (K b QF E) E)(h2:t=aj->X a' st (K b QF E) E):X (aq (cI c a a') b) st QF E:=X.qp (X.ok e ⟨h1,h2⟩)
theorem X.nq{c:M Bool}{a a':M PF}{t:Bool}(e:Ev c st t)(q:t=ah)(h:X a st (K b QF E) E):X (aq (cI c a a') b) st QF E:=X.tP e (λ_=>h) λz=>jX (q.symm.trans z)
theorem X.gF{c:M Bool}{a a':M PF}{t:Bool}(e:Ev c st t)(q:t=aj)(h:X a' st (K b QF E) E):X (aq (cI c a a') b) st QF E:=X.tP e (λz=>jX (z.symm.trans q)) λ_=>h
theorem X.ff{c:M Bool}{a:M PF}(e:Ev c st aj)(h:X b st QF E):X (aq (cI c a (pure .next)) b) st QF E:=X.gF e rfl h
theorem X.tt{c:M Bool}{a a':M PF}(e:Ev c st ah)(h:X a st (K b QF E) E):X (aq (cI c a a') b) st QF E:=X.nq e rfl h
theorem X.raise{es:M (List PV)}{x:Str}{n:Int}(e:Ev es st [.str x,.int n])(h:E n st.hp):X (aq (cZ es) b) st QF E:=X.seq (X.dP e h)
theorem X.swap{a:M PV}{gs:List (PV->M Unit)}{l:List PV}(h:Ev a st (.tup l))(hl:l.length=n)(q:X (fP gs l.reverse) st (λ_ s=>X b s QF E) E):X (aq (j8 a n gs) b) st QF E:=
 X.seq (X.dP h (X.dP (if_pos hl) (X.bind (q.mono (λ_ _ h=>h) λ_ _ e=>e))))
theorem X.Ga{a:M PV}{gs:List (PV->M Unit)}(h:X a st (λv s=>∃l,v=.tup l/\l.length=n/\X (fP gs l.reverse) s (λ_ s'=>X b s' QF E) E) E):X (aq (j8 a n gs) b) st QF E:=
 X.seq (X.bind (h.mono (λv s h=>by
  obtain⟨l,rfl,hl,h⟩:=h;exact X.dP (if_pos hl) (X.bind (h.mono (λ_ _ h=>h) λ_ _ e=>e))) λ_ _ e=>e))
theorem X.D9{it:M It}{i:It}{g:PV->M Unit}{c:M PF}(h:Ev it st i)(q:X (iC dR i g c) st (K b QF E) E):X (aq (pZ it g c) b) st QF E:=X.seq (X.dP h q)
theorem X.MU{it:M It}{g:PV->M Unit}{c:M PF}(h:X it st (λi s=>X (iC dR i g c) s (K b QF E) E) E):X (aq (pZ it g c) b) st QF E:=X.seq (X.bind h)
theorem X.yF{cl:Nat}{x:Str}{o a:M PV}(ha:Ev a st v)(ho:Ev o st (.ref c))(h:st.hp[c]?=some (.inst cl fs))(f:dY cl x=some j)(g:j<fs.length)(q:X b ⟨st.loc,st.hp.set c (.inst cl (fs.set j v))⟩ QF E):X (aq (bg a (pW o x)) b) st QF E:=
 X.asg (X.ok ha (X.dP ho (X.ok (a:=()) (s:=⟨st.loc,st.hp.set c (.inst cl (fs.set j v))⟩) (by unfold fi;simp only[h,f,g,if_true]) q)))
theorem X.rR{cl:Nat}{x:Str}{o a:M PV}(ha:Ev a st v)(ho:Ev o st (.ref c))(h:st.hp[c]?=some (.inst cl fs))(f:dY cl x=some fs.length)(q:X b ⟨st.loc,st.hp.set c (.inst cl (fs++[v]))⟩ QF E):X (aq (bg a (pW o x)) b) st QF E:=
 X.asg (X.ok ha (X.dP ho (X.ok (a:=()) (s:=⟨st.loc,st.hp.set c (.inst cl (fs++[v]))⟩) (by unfold fi;simp only[h,f,dM,if_false,if_true]) q)))
end
theorem K.nx{b:M PF}(h:X b st QF E):K b QF E .next st:=h
theorem K.rt{b:M PF}(h:QF (.ret v) st):K b QF E (.ret v) st:=h
theorem K.ct{b:M PF}(h:QF .cont st):K b QF E .cont st:=h
theorem Rt.rt{loc:List (Option PV)}(h:Q v ⟨loc,st.hp⟩):Rt Q loc (.ret v) st:=h
theorem Rt.nx{loc:List (Option PV)}(h:Q .none ⟨loc,st.hp⟩):Rt Q loc .next st:=h
theorem Lp.nx{c:M Bool}{b:M PF}(h:X (bM c b) st QF E):Lp c b QF E .next st:=h
theorem Lp.ct{c:M Bool}{b:M PF}(h:X (bM c b) st QF E):Lp c b QF E .cont st:=h
theorem Lp.rt{c:M Bool}{b:M PF}(h:QF (.ret v) st):Lp c b QF E (.ret v) st:=h
theorem X.gT{g:PV->M Unit}{gs:List (PV->M Unit)}{l:List PV}(h:X (g v) st (λ_ s=>X (fP gs l) s QU E) E):X (fP (g::gs) (v::l)) st QU E:=X.bind h
theorem X.sy{c:M Bool}{b:M PF}(h:X c st (λt s=>(t=ah->X b s (Lp c b QF E) E)/\(t=aj->QF .next s)) E):X (bM c b) st QF E:=by
 rw[Cc];refine X.bind (h.mono (λt s h=>?_) λ_ _ e=>e);cases t
 ·exact h.2 rfl
 ·exact X.bind ((h.1 rfl).mono (λf s h=>by cases f<;>exact h) λ_ _ e=>e)
theorem X.dt{c:M Bool}{b:M PF}{t:Bool}(e:Ev c st t)(h1:t=ah->X b st (Lp c b QF E) E)(h2:t=aj->QF .next st):X (bM c b) st QF E:=X.sy (X.ok e ⟨h1,h2⟩)
theorem X.Bi{it:It}{g:PV->M Unit}{b:M PF}(e:cY st it=some none)(h:QF .next st):X (iC (k+1) it g b) st QF E:=X.ok (by rw[rg,e]) h
theorem X.Bj{it it':It}{g:PV->M Unit}{b:M PF}(e:cY st it=some (some (v,it')))(h:X (g v) st (λ_ s=>X b s (Lf k it' g b QF E) E) E):X (iC (k+1) it g b) st QF E:=by
 unfold X;rw[rg,e];dsimp only;delta X at h;dsimp only at h;cases ht:g v st with
 |bad=>rw[ht] at h;exact h
 |exc n s=>rw[ht] at h;exact h
 |ok u s=>
  rw[ht] at h;dsimp only at h⊢;cases hb:b s with
  |bad=>rw[hb] at h;exact h
  |exc n s=>rw[hb] at h;exact h
  |ok f s'=>simp only[hb] at h;cases f<;>exact h
theorem X.OG{b:M PF}{x:Str}(h:X b st QF (λn hp=>∀loc,QF (.ret (.tup [.str x,.int n])) ⟨loc,hp⟩)):X (B5 b x i) st QF E:=by
 unfold X B5 at*;cases hb:b st with
 |ok f s=>rw[hb] at h;exact h
 |exc n s=>rw[hb] at h;exact h _
 |bad=>rw[hb] at h;exact h
theorem X.frame{m:M PF}(h:X m ⟨vs.map some++dO (n-vs.length) none,st.hp⟩ (Rt Q st.loc) E):X (jR n vs m) st Q E:=by
 unfold X jR at*;cases hm:m ⟨vs.map some++dO (n-vs.length) none,st.hp⟩ with
 |ok f s=>simp only[hm] at h;cases f<;>exact h
 |exc k s=>rw[hm] at h;exact h
 |bad=>rw[hm] at h;exact h
theorem X.fn{vs':List PV}{l:List (Option PV)}{m:M PF}(e:xA old (aY old k) a vs=jR n vs' m)(hi:wq.find? (λm=>m.1==a)=none)(hl:vs'.map some++dO (n-vs'.length) none=l)
 (h:X m ⟨l,st.hp⟩ (Rt Q st.loc) E):X (aY old (k+1) (.obj (.ref a)) vs) st Q E:=by
 have:aY old (k+1) (.obj (.ref a)) vs=jR n vs' m:=by
  show qF old (aY old k) a vs=_;unfold qF;exact hi.symm▸e
 rw[this];subst hl;exact X.frame h
theorem X.make{vs':List PV}{l:List (Option PV)}{m:M PF}(e:xA old (aY old k) f (.ref st.hp.length::vs)=jR n vs' m)(hi:wq.find? (λm=>m.1==c)=some (c,f))(hl:vs'.map some++dO (n-vs'.length) none=l)
 (h:X m ⟨l,st.hp++[.inst c []]⟩ (Rt (λv s=>v=.none/\Q (.ref st.hp.length) s) st.loc) E):X (aY old (k+1) (.obj (.ref c)) vs) st Q E:=by
 have e2:aY old (k+1) (.obj (.ref c)) vs=wH c (xA old (aY old k) f) vs:=by
  show qF old (aY old k) c vs=_;unfold qF;rw[hi]
 rw[e2];delta X wH;rw[e];subst hl;have h:=X.frame (st:={st with hp:=st.hp++[.inst c []]}) (Q:=λv s=>v=.none/\Q (.ref st.hp.length) s) (E:=E) h;unfold X at h;cases hm:jR n vs' m {st with hp:=st.hp++[.inst c []]} with
 |ok v s=>
  rw[hm] at h;obtain⟨rfl,h⟩:=h;exact h
 |exc k s=>rw[hm] at h;exact h
 |bad=>rw[hm] at h;exact h
end
set_option backward.match.sparseCases true
def Ù(eA:Old)(xx:Ap):M PF:=(aq (bw (eC .In (af 0) (pure (.tup [.int 0,.int 9,.int 10,.int 12,.int 13,.int 32])))) (pure .next))
def Ú(eA:Old)(xx:Ap):M PF:=(aq (bw (zg .And (eC .GtE (af 0) (pure (.int 0))) (zg .And (eC .NotIn (af 0) (pure (.tup [.int 0,.int 9,.int 10,.int 12,.int 13,.int 32]))) (eC .NotIn (af 0) (pure (.tup [.int 40,.int 41,.int 60,.int 62,.int 91,.int 93,.int 123,.int 125,.int 47,.int 37])))))) (pure .next))
def Xk(eA:Old)(ap:Ap):M PF:=(aq (bg (af 1) (pW (af 0) "data")) (aq (bg (af 2) (pW (af 0) "at")) (aq (bg (m9 (tC .Lt (af 3) (pure (.int 0))) (ax ap (pure (.obj (.builtin "len"))) (aa (af 1) (pure []))) (ax ap M.bad (aa (af 3) (aa (ax ap (pure (.obj (.builtin "len"))) (aa (af 1) (pure []))) (pure []))))) (pW (af 0) "end")) (pure .next))))
def Û(eA:Old)(xx:Ap):M PF:=(aq (bw (eC .GtE (eh (af 0) "at") (eh (af 0) "end"))) (pure .next))
def YM(eA:Old)(xx:Ap):M PF:=(aq (bg (eB .Add (eh (af 0) "at") (af 1)) (aX 2)) (aq (bw (m9 (tC .Lt (af 2) (eh (af 0) "end")) (bt (eh (af 0) "data") (af 2)) (m_ (pure (.int 1))))) (pure .next)))
def Ü(eA:Old)(xx:Ap):M PF:=(aq (cI (tC .GtE (eh (af 0) "at") (eh (af 0) "end")) (aq (bw (m_ (pure (.int 1)))) (pure .next)) (pure .next)) (aq (bg (bt (eh (af 0) "data") (eh (af 0) "at")) (aX 1)) (aq (bg (eB .Add (eh (af 0) "at") (pure (.int 1))) (pW (af 0) "at")) (aq (bw (af 1)) (pure .next)))))
def Ý(old:Old)(ap:Ap):M PF:=(aq (bw (zg .And (eC .LtE (eB .Add (eh (af 0) "at") (ax ap (pure (.obj (.builtin "len"))) (aa (af 1) (pure [])))) (eh (af 0) "end")) (eC .Eq (iB old (eh (af 0) "data") (eh (af 0) "at") (eB .Add (eh (af 0) "at") (ax ap (pure (.obj (.builtin "len"))) (aa (af 1) (pure []))))) (af 1)))) (pure .next))
def Þ(eA:Old)(ap:Ap):M PF:=(aq (cI (eT (tV (bV ap (af 0) "starts" (aa (af 1) (pure []))))) (aq (bw (pure (.bool aj))) (pure .next)) (pure .next)) (aq (bg (eB .Add (eh (af 0) "at") (ax ap (pure (.obj (.builtin "len"))) (aa (af 1) (pure [])))) (pW (af 0) "at")) (aq (bw (pure (.bool ah))) (pure .next))))
def W3(eA:Old)(xx:Ap):M PF:=(aq (bM (tC .Lt (eh (af 0) "at") (eh (af 0) "end")) (aq (bg (bt (eh (af 0) "data") (eh (af 0) "at")) (aX 1)) (aq (cI (tC .Eq (af 1) (pure (.int 37))) (aq (bM (bY (tC .Lt (eh (af 0) "at") (eh (af 0) "end")) (bY (tC .NotIn (bt (eh (af 0) "data") (eh (af 0) "at")) (bq (aa (pure (.int 10)) (aa (pure (.int 13)) (pure []))))) (pure ah))) (aq (bg (eB .Add (eh (af 0) "at") (pure (.int 1))) (pW (af 0) "at")) (pure .next))) (pure .next)) (aq (cI (tC .In (af 1) (pure (.tup [.int 0,.int 9,.int 10,.int 12,.int 13,.int 32]))) (aq (bg (eB .Add (eh (af 0) "at") (pure (.int 1))) (pW (af 0) "at")) (pure .next)) (aq (pure (.ret .none)) (pure .next))) (pure .next))) (pure .next)))) (pure .next))
def W4(old:Old)(ap:Ap):M PF:=(aq (bg (eh (af 0) "at") (aX 1)) (aq (bM (bY (tC .Lt (eh (af 0) "at") (eh (af 0) "end")) (bY (tV (ax ap (pure (.obj (.ref 37))) (aa (bt (eh (af 0) "data") (eh (af 0) "at")) (pure [])))) (pure ah))) (aq (bg (eB .Add (eh (af 0) "at") (pure (.int 1))) (pW (af 0) "at")) (pure .next))) (aq (bw (iB old (eh (af 0) "data") (af 1) (eh (af 0) "at"))) (pure .next))))
def Sb(eA:Old)(ap:Ap):M PF:=(aq (cI (tC .Eq (bV ap (af 0) "peek" (pure [])) (pure (.int 13))) (aq (bg (eB .Add (eh (af 0) "at") (pure (.int 1))) (pW (af 0) "at")) (aq (cI (tC .Eq (bV ap (af 0) "peek" (pure [])) (pure (.int 10))) (aq (bg (eB .Add (eh (af 0) "at") (pure (.int 1))) (pW (af 0) "at")) (pure .next)) (pure .next)) (aq (bw (pure (.bool ah))) (pure .next)))) (pure .next)) (aq (cI (tC .Eq (bV ap (af 0) "peek" (pure [])) (pure (.int 10))) (aq (bg (eB .Add (eh (af 0) "at") (pure (.int 1))) (pW (af 0) "at")) (aq (bw (pure (.bool ah))) (pure .next))) (pure .next)) (aq (bw (pure (.bool aj))) (pure .next))))
def Sd(eA:Old)(ap:Ap):M PF:=(aq (bw (bV ap (eh (af 0) "data") "find" (aa (af 1) (aa (ax ap (pure (.obj (.builtin "max"))) (aa (af 2) (aa (pure (.int 0)) (pure [])))) (aa (eh (af 0) "end") (pure [])))))) (pure .next))
def Se(eA:Old)(xx:Ap):M PF:=(aq (bM (bY (tC .Gt (af 2) (pure (.int 0))) (bY (tC .Eq (eB .Mod (af 1) (pure (.int 10))) (pure (.int 0))) (pure ah))) (aq (bg (eB .FloorDiv (af 1) (pure (.int 10))) (aX 1)) (aq (bg (eB .Sub (af 2) (pure (.int 1))) (aX 2)) (pure .next)))) (aq (bg (af 1) (pW (af 0) "top")) (aq (bg (af 2) (pW (af 0) "places")) (pure .next))))
def Sf(old:Old)(ap:Ap):M PF:=(aq (bg (pure (.int 0)) (aX 1)) (aq (cI (bY (tC .Gt (ax ap (pure (.obj (.builtin "len"))) (aa (af 0) (pure []))) (pure (.int 0))) (bY (hJ (tC .Eq (bt (af 0) (pure (.int 0))) (pure (.int 43))) (hJ (tC .Eq (bt (af 0) (pure (.int 0))) (pure (.int 45))) (pure aj))) (pure ah))) (aq (bg (pure (.int 1)) (aX 1)) (pure .next)) (pure .next)) (aq (bg (pure (.int 0)) (aX 2)) (aq (bg (pure (.int 0)) (aX 3)) (aq (bg (m_ (pure (.int 1))) (aX 4)) (aq (pZ (nv (iB old (af 0) (af 1) (pure .none))) (aX 5) (aq (cI (bY (tC .Eq (af 5) (pure (.int 46))) (bY (tC .Lt (af 4) (pure (.int 0))) (pure ah))) (aq (bg (pure (.int 0)) (aX 4)) (pure .next)) (aq (cI (XZ .LtE .LtE (pure (.int 48)) (af 5) (eB .Add (pure (.int 48)) (pure (.int 9)))) (aq (bg (eB .Sub (eB .Add (eB .Mult (pure (.int 10)) (af 2)) (af 5)) (pure (.int 48))) (aX 2)) (aq (bg (eB .Add (af 3) (pure (.int 1))) (aX 3)) (aq (cI (tC .GtE (af 4) (pure (.int 0))) (aq (bg (eB .Add (af 4) (pure (.int 1))) (aX 4)) (pure .next)) (pure .next)) (pure .next)))) (aq (bw (pure .none)) (pure .next))) (pure .next))) (pure .next))) (aq (cI (hJ (tC .Eq (af 3) (pure (.int 0))) (hJ (tC .Gt (af 3) (pure (.int 40))) (pure aj))) (aq (bw (pure .none)) (pure .next)) (pure .next)) (aq (cI (tC .Eq (bt (af 0) (pure (.int 0))) (pure (.int 45))) (aq (bg (m_ (af 2)) (aX 2)) (pure .next)) (pure .next)) (aq (bw (m9 (tC .Lt (af 4) (pure (.int 0))) (af 2) (ax ap (pure (.obj (.ref 285))) (aa (af 2) (aa (af 4) (pure [])))))) (pure .next))))))))))
def Sh(eA:Old)(ap:Ap):M PF:=(aq (bg (eList (pure [])) (aX 2)) (aq (bg (pure (.int 0)) (aX 3)) (aq (bM (tC .Lt (af 3) (ax ap (pure (.obj (.builtin "len"))) (aa (af 0) (pure [])))) (aq (bg (bt (af 0) (af 3)) (aX 4)) (aq (bg (eB .Add (af 3) (pure (.int 1))) (aX 3)) (aq (cI (bY (tC .Eq (af 4) (pure (.int 35))) (bY (tC .Lt (eB .Add (af 3) (pure (.int 1))) (ax ap (pure (.obj (.builtin "len"))) (aa (af 0) (pure [])))) (pure ah))) (aq (bg (ax ap (pure (.obj (.ref 311))) (aa (bt (af 0) (af 3)) (pure []))) (aX 5)) (aq (bg (ax ap (pure (.obj (.ref 311))) (aa (bt (af 0) (eB .Add (af 3) (pure (.int 1)))) (pure []))) (aX 6)) (aq (cI (bY (tC .GtE (af 5) (pure (.int 0))) (bY (tC .GtE (af 6) (pure (.int 0))) (pure ah))) (aq (bg (eB .Add (eB .Mult (pure (.int 16)) (af 5)) (af 6)) (aX 4)) (aq (bg (eB .Add (af 3) (pure (.int 2))) (aX 3)) (pure .next))) (pure .next)) (pure .next)))) (pure .next)) (aq (cI (tC .Eq (af 4) (pure (.int 0))) (aq (cZ (aa (pure (.str "a name with the code 0")) (aa (af 1) (pure [])))) (pure .next)) (pure .next)) (aq (mR (bV ap (af 2) "append" (aa (ax ap (pure (.obj (.builtin "chr"))) (aa (af 4) (pure []))) (pure [])))) (pure .next))))))) (aq (bw (bV ap (pure (.str "")) "join" (aa (af 2) (pure [])))) (pure .next)))))
def Si(eA:Old)(ap:Ap):M PF:=(aq (bg (eB .Sub (eh (af 0) "at") (pure (.int 1))) (aX 1)) (aq (bg (eList (pure [])) (aX 2)) (aq (bg (pure (.int 1)) (aX 3)) (aq (bM (eT (tV (bV ap (af 0) "is_done" (pure [])))) (aq (cI (tV (bV ap (af 0) "skip_line_end" (pure []))) (aq (mR (bV ap (af 2) "append" (aa (pure (.int 10)) (pure [])))) (aq (pure .cont) (pure .next))) (pure .next)) (aq (bg (bV ap (af 0) "take" (pure [])) (aX 4)) (aq (cI (tC .Eq (af 4) (pure (.int 92))) (aq (mR (bV ap (af 2) "extend" (aa (ax ap (pure (.obj (.ref 340))) (aa (af 0) (pure []))) (pure [])))) (aq (pure .cont) (pure .next))) (pure .next)) (aq (cI (tC .Eq (af 4) (pure (.int 40))) (aq (bg (eB .Add (af 3) (pure (.int 1))) (aX 3)) (pure .next)) (pure .next)) (aq (cI (tC .Eq (af 4) (pure (.int 41))) (aq (bg (eB .Sub (af 3) (pure (.int 1))) (aX 3)) (aq (cI (tC .Eq (af 3) (pure (.int 0))) (aq (bw (ax ap (pure (.obj (.type "bytes"))) (aa (af 2) (pure [])))) (pure .next)) (pure .next)) (pure .next))) (pure .next)) (aq (mR (bV ap (af 2) "append" (aa (af 4) (pure [])))) (pure .next)))))))) (aq (cZ (aa (pure (.str "a string without its end")) (aa (af 1) (pure [])))) (pure .next))))))
def W5(eA:Old)(ap:Ap):M PF:=(aq (bg (bV ap (af 0) "take_regular" (pure [])) (aX 2)) (aq (bg (ax ap (pure (.obj (.ref 303))) (aa (af 2) (pure []))) (aX 3)) (aq (cI (tC .Is (af 3) (pure .none)) (aq (bw (bq (aa (pure (.str "word")) (aa (af 2) (aa (af 1) (pure [])))))) (pure .next)) (pure .next)) (aq (cI (tV (ax ap (pure (.obj (.builtin "isinstance"))) (aa (af 3) (aa (pure (.obj (.type "int"))) (pure []))))) (aq (bw (bq (aa (pure (.str "int")) (aa (af 3) (aa (af 1) (pure [])))))) (pure .next)) (pure .next)) (aq (bw (bq (aa (pure (.str "real")) (aa (af 3) (aa (af 1) (pure [])))))) (pure .next))))))
def W6(eA:Old)(ap:Ap):M PF:=(aq (cI (tC .Eq (af 1) (pure (.int 47))) (aq (mR (bV ap (af 0) "take" (pure []))) (aq (bw (bq (aa (pure (.str "name")) (aa (ax ap (pure (.obj (.ref 326))) (aa (bV ap (af 0) "take_regular" (pure [])) (aa (af 2) (pure [])))) (aa (af 2) (pure [])))))) (pure .next))) (pure .next)) (aq (cI (tC .Eq (af 1) (pure (.int 40))) (aq (mR (bV ap (af 0) "take" (pure []))) (aq (bw (bq (aa (pure (.str "string")) (aa (ax ap (pure (.obj (.ref 347))) (aa (af 0) (pure []))) (aa (af 2) (pure [])))))) (pure .next))) (pure .next)) (aq (cI (tV (bV ap (af 0) "skip" (aa (pure (.bytes [60,60])) (pure [])))) (aq (bw (bq (aa (pure (.str "sign")) (aa (pure (.bytes [60,60])) (aa (af 2) (pure [])))))) (pure .next)) (pure .next)) (aq (cI (tV (bV ap (af 0) "skip" (aa (pure (.bytes [62,62])) (pure [])))) (aq (bw (bq (aa (pure (.str "sign")) (aa (pure (.bytes [62,62])) (aa (af 2) (pure [])))))) (pure .next)) (pure .next)) (aq (cI (tC .Eq (af 1) (pure (.int 60))) (aq (mR (bV ap (af 0) "take" (pure []))) (aq (bw (bq (aa (pure (.str "hex")) (aa (ax ap (pure (.obj (.ref 352))) (aa (af 0) (pure []))) (aa (af 2) (pure [])))))) (pure .next))) (pure .next)) (aq (cI (tC .In (af 1) (pure (.tup [.int 91,.int 93,.int 123,.int 125]))) (aq (mR (bV ap (af 0) "take" (pure []))) (aq (bw (bq (aa (pure (.str "sign")) (aa (ax ap (pure (.obj (.type "bytes"))) (aa (eList (aa (af 1) (pure []))) (pure []))) (aa (af 2) (pure [])))))) (pure .next))) (pure .next)) (aq (cZ (aa (pure (.str "a closing sign without its opening one")) (aa (af 2) (pure [])))) (pure .next))))))))
def W7(eA:Old)(ap:Ap):M PF:=(aq (mR (bV ap (af 0) "skip_white" (pure []))) (aq (bg (eh (af 0) "at") (aX 1)) (aq (bg (bV ap (af 0) "peek" (pure [])) (aX 2)) (aq (cI (tC .Eq (af 2) (m_ (pure (.int 1)))) (aq (bw (bq (aa (pure (.str "end")) (aa (pure (.bytes [])) (aa (af 1) (pure [])))))) (pure .next)) (pure .next)) (aq (cI (hJ (tC .Eq (af 2) (pure (.int 47))) (hJ (tC .Eq (af 2) (pure (.int 40))) (hJ (tC .Eq (af 2) (pure (.int 41))) (hJ (tC .Eq (af 2) (pure (.int 60))) (hJ (tC .Eq (af 2) (pure (.int 62))) (hJ (tC .In (af 2) (pure (.tup [.int 91,.int 93,.int 123,.int 125]))) (pure aj))))))) (aq (bw (ax ap (pure (.obj (.ref 366))) (aa (af 0) (aa (af 2) (aa (af 1) (pure [])))))) (pure .next)) (pure .next)) (aq (bw (ax ap (pure (.obj (.ref 359))) (aa (af 0) (aa (af 1) (pure []))))) (pure .next)))))))
def W8(eA:Old)(xx:Ap):M PF:=(aq (bw (zg .And (eC .Eq (bt (af 0) (pure (.int 0))) (pure (.str "sign"))) (eC .Eq (bt (af 0) (pure (.int 1))) (af 1)))) (pure .next))
def W9(eA:Old)(xx:Ap):M PF:=(aq (bg (af 1) (pW (af 0) "text")) (pure .next))
def Sj(eA:Old)(xx:Ap):M PF:=(aq (bg (af 1) (pW (af 0) "octets")) (aq (bg (af 2) (pW (af 0) "is_hex")) (pure .next)))
def W_(eA:Old)(ap:Ap):M PF:=(aq (cI (tC .Is (af 0) (pure .none)) (aq (bw (pure (.str "null"))) (pure .next)) (pure .next)) (aq (cI (tV (ax ap (pure (.obj (.builtin "isinstance"))) (aa (af 0) (aa (pure (.obj (.type "bool"))) (pure []))))) (aq (bw (pure (.str "truth"))) (pure .next)) (pure .next)) (aq (cI (tV (ax ap (pure (.obj (.builtin "isinstance"))) (aa (af 0) (aa (pure (.obj (.type "int"))) (pure []))))) (aq (bw (pure (.str "int"))) (pure .next)) (pure .next)) (aq (cI (tV (ax ap (pure (.obj (.builtin "isinstance"))) (aa (af 0) (aa (pure (.obj (.ref 285))) (pure []))))) (aq (bw (pure (.str "real"))) (pure .next)) (pure .next)) (aq (cI (tV (ax ap (pure (.obj (.builtin "isinstance"))) (aa (af 0) (aa (pure (.obj (.ref 397))) (pure []))))) (aq (bw (pure (.str "name"))) (pure .next)) (pure .next)) (aq (cI (tV (ax ap (pure (.obj (.builtin "isinstance"))) (aa (af 0) (aa (pure (.obj (.ref 419))) (pure []))))) (aq (bw (pure (.str "string"))) (pure .next)) (pure .next)) (aq (cI (tV (ax ap (pure (.obj (.builtin "isinstance"))) (aa (af 0) (aa (pure (.obj (.type "list"))) (pure []))))) (aq (bw (pure (.str "array"))) (pure .next)) (pure .next)) (aq (cI (tV (ax ap (pure (.obj (.builtin "isinstance"))) (aa (af 0) (aa (pure (.obj (.type "dict"))) (pure []))))) (aq (bw (pure (.str "dict"))) (pure .next)) (pure .next)) (aq (cI (tV (ax ap (pure (.obj (.builtin "isinstance"))) (aa (af 0) (aa M.bad (pure []))))) (aq (bw (pure (.str "stream"))) (pure .next)) (pure .next)) (aq (cI (tV (ax ap (pure (.obj (.builtin "isinstance"))) (aa (af 0) (aa M.bad (pure []))))) (aq (bw (pure (.str "ref"))) (pure .next)) (pure .next)) (aq (cZ (aa (pure (.str "no object")) (pure []))) (pure .next))))))))))))
def Xa(eA:Old)(ap:Ap):M PF:=(aq (cI (tC .Eq (af 0) (pure (.str "null"))) (aq (bw (bq (aa (pure (.str "null")) (pure [])))) (pure .next)) (pure .next)) (aq (cI (tC .Eq (af 0) (pure (.str "truth"))) (aq (bw (bq (aa (pure (.str "truth")) (aa (m9 (tV (af 1)) (pure (.int 1)) (pure (.int 0))) (pure []))))) (pure .next)) (pure .next)) (aq (cI (tC .Eq (af 0) (pure (.str "int"))) (aq (bw (bq (aa (pure (.str "int")) (aa (af 1) (pure []))))) (pure .next)) (pure .next)) (aq (cI (tC .Eq (af 0) (pure (.str "real"))) (aq (bw (bq (aa (pure (.str "real")) (aa (eh (af 1) "top") (aa (eh (af 1) "places") (pure [])))))) (pure .next)) (pure .next)) (aq (cI (tC .Eq (af 0) (pure (.str "name"))) (aq (bw (bq (aa (pure (.str "name")) (aa (eh (af 1) "text") (pure []))))) (pure .next)) (pure .next)) (aq (cI (tC .Eq (af 0) (pure (.str "string"))) (aq (bw (bq (aa (pure (.str "string")) (aa (ax ap (pure (.obj (.type "bytes"))) (aa (eh (af 1) "octets") (pure []))) (pure []))))) (pure .next)) (pure .next)) (aq (bw (bq (aa (pure (.str "ref")) (aa (eh (af 1) "number") (aa (eh (af 1) "generation") (pure [])))))) (pure .next))))))))
def Xb(eA:Old)(ap:Ap):M PF:=(aq (bg (ax ap (pure (.obj (.ref 479))) (aa (af 0) (pure []))) (aX 1)) (aq (cI (tC .Eq (af 1) (pure (.str "array"))) (aq (bw (eB .Add (bq (aa (pure (.str "array")) (pure []))) (ax ap (pure (.obj (.type "tuple"))) (aa (fy [] (nv (af 0)) (pure ah) (ax ap (pure (.obj (.ref 491))) (aa (af 0) (pure [])))) (pure []))))) (pure .next)) (pure .next)) (aq (cI (tC .Eq (af 1) (pure (.str "dict"))) (aq (bw (eB .Add (bq (aa (pure (.str "dict")) (pure []))) (ax ap (pure (.obj (.type "tuple"))) (aa (fy [0] (nv (ax ap (pure (.obj (.builtin "sorted"))) (aa (af 0) (pure [])))) (tC .IsNot (bt (af 1) (af 0)) (pure .none)) (bq (aa (af 0) (aa (ax ap (pure (.obj (.ref 491))) (aa (bt (af 1) (af 0)) (pure []))) (pure []))))) (pure []))))) (pure .next)) (pure .next)) (aq (cI (tC .Eq (af 1) (pure (.str "stream"))) (aq (bw (bq (aa (pure (.str "stream")) (aa (ax ap (pure (.obj (.ref 491))) (aa (eh (af 0) "head") (pure []))) (aa (ax ap (pure (.obj (.type "bytes"))) (aa (eh (af 0) "octets") (pure []))) (pure [])))))) (pure .next)) (pure .next)) (aq (bw (ax ap (pure (.obj (.ref 486))) (aa (af 1) (aa (af 0) (pure []))))) (pure .next))))))
def Xc(eA:Old)(xx:Ap):M PF:=(aq (bg (af 1) (pW (af 0) "mark")) (aq (bg (eList (pure [])) (pW (af 0) "items")) (pure .next)))
def Xd(eA:Old)(ap:Ap):M PF:=(aq (bw (zg .And (eC .Eq (eh (af 0) "mark") (pure (.bytes [60,60]))) (eC .Eq (eB .Mod (ax ap (pure (.obj (.builtin "len"))) (aa (eh (af 0) "items") (pure []))) (pure (.int 2))) (pure (.int 0))))) (pure .next))
def Xe(eA:Old)(xx:Ap):M PF:=(aq (cI (tC .Eq (af 0) (pure (.bytes [116,114,117,101]))) (aq (bw (pure (.bool ah))) (pure .next)) (pure .next)) (aq (cI (tC .Eq (af 0) (pure (.bytes [102,97,108,115,101]))) (aq (bw (pure (.bool aj))) (pure .next)) (pure .next)) (aq (cI (tC .Eq (af 0) (pure (.bytes [110,117,108,108]))) (aq (bw (pure .none)) (pure .next)) (pure .next)) (aq (cZ (aa (pure (.str "an unknown word")) (aa (af 1) (pure [])))) (pure .next)))))
def Xf(eA:Old)(ap:Ap):M PF:=(aq (bg (af 1) (x7 3 [aX 3,aX 4,aX 5])) (aq (cI (bY (tC .Eq (af 3) (pure (.str "int"))) (bY (tC .GtE (af 4) (pure (.int 0))) (bY (tV (af 2)) (pure ah)))) (aq (bw (ax ap M.bad (aa (af 0) (aa (af 4) (pure []))))) (pure .next)) (pure .next)) (aq (cI (hJ (tC .Eq (af 3) (pure (.str "int"))) (hJ (tC .Eq (af 3) (pure (.str "real"))) (pure aj))) (aq (bw (af 4)) (pure .next)) (pure .next)) (aq (cI (tC .Eq (af 3) (pure (.str "name"))) (aq (bw (ax ap (pure (.obj (.ref 397))) (aa (af 4) (pure [])))) (pure .next)) (pure .next)) (aq (cI (tC .Eq (af 3) (pure (.str "string"))) (aq (bw (ax ap (pure (.obj (.ref 419))) (aa (af 4) (pure [])))) (pure .next)) (pure .next)) (aq (cI (tC .Eq (af 3) (pure (.str "hex"))) (aq (bw (ax ap (pure (.obj (.ref 419))) (aa (af 4) (aa (pure (.bool ah)) (pure []))))) (pure .next)) (pure .next)) (aq (cI (tC .Eq (af 3) (pure (.str "word"))) (aq (bw (ax ap (pure (.obj (.ref 540))) (aa (af 4) (aa (af 5) (pure []))))) (pure .next)) (pure .next)) (aq (cI (tC .Eq (af 3) (pure (.str "end"))) (aq (cZ (aa (pure (.str "the octets end within an object")) (aa (af 5) (pure [])))) (pure .next)) (pure .next)) (aq (cZ (aa (pure (.str "a sign that cannot stand here")) (aa (af 5) (pure [])))) (pure .next))))))))))
def Xg(eA:Old)(ap:Ap):M PF:=(aq (bg newD (aX 1)) (aq (pZ (mH (aa (pure (.int 0)) (aa (ax ap (pure (.obj (.builtin "len"))) (aa (af 0) (pure []))) (aa (pure (.int 2)) (pure []))))) (aX 2) (aq (bg (bt (af 0) (eB .Add (af 2) (pure (.int 1)))) (rn (af 1) (eh (bt (af 0) (af 2)) "text"))) (pure .next))) (aq (bw (Zx 1)) (pure .next))))
def Xh(eA:Old)(ap:Ap):M PF:=(aq (bg (m9 (tC .Eq (af 1) (pure (.bytes [93]))) (pure (.bytes [91])) (pure (.bytes [60,60]))) (aX 3)) (aq (cI (hJ (tC .Eq (af 0) (eList (pure []))) (hJ (tC .NotEq (eh (bt (af 0) (m_ (pure (.int 1)))) "mark") (af 3)) (pure aj))) (aq (cZ (aa (pure (.str "a sign closes what is not open")) (aa (af 2) (pure [])))) (pure .next)) (pure .next)) (aq (bg (bV ap (af 0) "pop" (pure [])) (aX 4)) (aq (cI (tC .Eq (af 3) (pure (.bytes [91]))) (aq (bw (eh (af 4) "items")) (pure .next)) (pure .next)) (aq (cI (eT (tV (bV ap (af 4) "wants_key" (pure [])))) (aq (cZ (aa (pure (.str "a key has no value")) (aa (af 2) (pure [])))) (pure .next)) (pure .next)) (aq (bw (ax ap (pure (.obj (.ref 552))) (aa (eh (af 4) "items") (pure [])))) (pure .next)))))))
def Sk(eA:Old)(ap:Ap):M PF:=(aq (bg (eList (pure [])) (aX 3)) (aq (bM (tV (pure (.bool ah))) (aq (bg (af 1) (x7 3 [aX 4,aX 5,aX 6])) (aq (bg (zg .And (eC .Eq (af 4) (pure (.str "sign"))) (eC .In (af 5) (bq (aa (pure (.bytes [91])) (aa (pure (.bytes [60,60])) (pure [])))))) (aX 7)) (aq (cI (bY (tC .NotEq (af 3) (eList (pure []))) (bY (tV (bV ap (bt (af 3) (m_ (pure (.int 1)))) "wants_key" (pure []))) (bY (tC .NotEq (af 4) (pure (.str "name"))) (bY (eT (tV (ax ap (pure (.obj (.ref 380))) (aa (af 1) (aa (pure (.bytes [62,62])) (pure [])))))) (pure ah))))) (aq (cZ (aa (pure (.str "a key is no name")) (aa (af 6) (pure [])))) (pure .next)) (pure .next)) (aq (cI (tV (af 7)) (aq (cI (tC .Eq (ax ap (pure (.obj (.builtin "len"))) (aa (af 3) (pure []))) (pure (.int 40))) (aq (cZ (aa (pure (.str "nested too deep")) (aa (af 6) (pure [])))) (pure .next)) (pure .next)) (aq (mR (bV ap (af 3) "append" (aa (ax ap (pure (.obj (.ref 515))) (aa (af 5) (pure []))) (pure [])))) (pure .next))) (aq (cI (bY (tC .Eq (af 4) (pure (.str "sign"))) (bY (tC .In (af 5) (bq (aa (pure (.bytes [93])) (aa (pure (.bytes [62,62])) (pure []))))) (pure ah))) (aq (bg (ax ap (pure (.obj (.ref 559))) (aa (af 3) (aa (af 5) (aa (af 6) (pure []))))) (aX 8)) (pure .next)) (aq (bg (ax ap (pure (.obj (.ref 547))) (aa (af 0) (aa (af 1) (aa (af 2) (pure []))))) (aX 8)) (pure .next))) (aq (cI (tC .Eq (af 3) (eList (pure []))) (aq (bw (af 8)) (pure .next)) (pure .next)) (aq (mR (bV ap (eh (bt (af 3) (m_ (pure (.int 1)))) "items") "append" (aa (af 8) (pure [])))) (pure .next))))) (aq (bg (ax ap (pure (.obj (.ref 373))) (aa (af 0) (pure []))) (aX 1)) (pure .next))))))) (pure .next)))
def Xi(eA:Old)(xx:Ap):M PF:=(aq (bg (af 1) (pW (af 0) "word")) (aq (bg (af 2) (pW (af 0) "operands")) (pure .next)))
def Xj(eA:Old)(ap:Ap):M PF:=(aq (bw (bq (aa (eh (af 0) "word") (aa (ax ap (pure (.obj (.type "tuple"))) (aa (fy [] (nv (eh (af 0) "operands")) (pure ah) (ax ap (pure (.obj (.ref 491))) (aa (af 0) (pure [])))) (pure []))) (pure []))))) (pure .next))
def Xl(eA:Old)(xx:Ap):M PF:=(aq (bw (zg .And (eC .Eq (bt (af 0) (pure (.int 0))) (pure (.str "word"))) (eC .NotIn (bt (af 0) (pure (.int 1))) (pure (.tup [.bytes [116,114,117,101],.bytes [102,97,108,115,101],.bytes [110,117,108,108]]))))) (pure .next))
def Xm(eA:Old)(ap:Ap):M PF:=(aq (bw (bV ap (pure (.str "")) "join" (aa (fy [] (nv (af 0)) (pure ah) (ax ap (pure (.obj (.builtin "chr"))) (aa (af 0) (pure [])))) (pure [])))) (pure .next))
def Sl(eA:Old)(ap:Ap):M PF:=(aq (bg (eList (pure [])) (aX 1)) (aq (bg (ax ap (pure (.obj (.ref 373))) (aa (af 0) (pure []))) (aX 2)) (aq (bM (eT (tV (ax ap (pure (.obj (.ref 601))) (aa (af 2) (pure []))))) (aq (cI (bY (tC .Eq (eB .Mod (ax ap (pure (.obj (.builtin "len"))) (aa (af 1) (pure []))) (pure (.int 2))) (pure (.int 0))) (bY (tC .NotEq (bt (af 2) (pure (.int 0))) (pure (.str "name"))) (pure ah))) (aq (cZ (aa (pure (.str "a key is no name")) (aa (bt (af 2) (pure (.int 2))) (pure [])))) (pure .next)) (pure .next)) (aq (mR (bV ap (af 1) "append" (aa (ax ap (pure (.obj (.ref 567))) (aa (af 0) (aa (af 2) (aa (pure (.bool aj)) (pure []))))) (pure [])))) (aq (bg (ax ap (pure (.obj (.ref 373))) (aa (af 0) (pure []))) (aX 2)) (pure .next))))) (aq (cI (hJ (tC .NotEq (bt (af 2) (pure (.int 1))) (pure (.bytes [73,68]))) (hJ (tC .Eq (eB .Mod (ax ap (pure (.obj (.builtin "len"))) (aa (af 1) (pure []))) (pure (.int 2))) (pure (.int 1))) (pure aj))) (aq (cZ (aa (pure (.str "ID is missing")) (aa (bt (af 2) (pure (.int 2))) (pure [])))) (pure .next)) (pure .next)) (aq (bw (ax ap (pure (.obj (.ref 552))) (aa (af 1) (pure [])))) (pure .next))))))
def Xn(eA:Old)(ap:Ap):M PF:=(aq (cI (eT (tV (ax ap (pure (.obj (.ref 30))) (aa (bt (eh (af 0) "data") (eB .Sub (af 1) (pure (.int 1)))) (pure []))))) (aq (bw (pure (.bool aj))) (pure .next)) (pure .next)) (aq (bw (zg .Or (eC .Eq (eB .Add (af 1) (pure (.int 2))) (eh (af 0) "end")) (ax ap (pure (.obj (.ref 30))) (aa (bt (eh (af 0) "data") (eB .Add (af 1) (pure (.int 2)))) (pure []))))) (pure .next)))
def Sm(old:Old)(ap:Ap):M PF:=(aq (cI (eT (tV (ax ap (pure (.obj (.ref 30))) (aa (bV ap (af 0) "peek" (pure [])) (pure []))))) (aq (cZ (aa (pure (.str "white is missing behind ID")) (aa (eh (af 0) "at") (pure [])))) (pure .next)) (pure .next)) (aq (mR (bV ap (af 0) "take" (pure []))) (aq (bg (eh (af 0) "at") (aX 1)) (aq (bg (bV ap (af 0) "find" (aa (pure (.bytes [69,73])) (aa (eB .Add (af 1) (pure (.int 1))) (pure [])))) (aX 2)) (aq (bM (bY (tC .GtE (af 2) (pure (.int 0))) (bY (eT (tV (ax ap (pure (.obj (.ref 620))) (aa (af 0) (aa (af 2) (pure [])))))) (pure ah))) (aq (bg (bV ap (af 0) "find" (aa (pure (.bytes [69,73])) (aa (eB .Add (af 2) (pure (.int 1))) (pure [])))) (aX 2)) (pure .next))) (aq (cI (tC .Lt (af 2) (pure (.int 0))) (aq (cZ (aa (pure (.str "an image has no end")) (aa (af 1) (pure [])))) (pure .next)) (pure .next)) (aq (bg (eB .Add (af 2) (pure (.int 2))) (pW (af 0) "at")) (aq (bw (iB old (eh (af 0) "data") (af 1) (eB .Sub (af 2) (pure (.int 1))))) (pure .next)))))))))
def Xo(eA:Old)(ap:Ap):M PF:=(aq (bg (ax ap (pure (.obj (.ref 613))) (aa (af 0) (pure []))) (aX 1)) (aq (bw (ax ap (pure (.obj (.ref 590))) (aa (pure (.str "BI")) (aa (eList (aa (af 1) (aa (ax ap (pure (.obj (.ref 419))) (aa (ax ap (pure (.obj (.ref 627))) (aa (af 0) (pure []))) (pure []))) (pure [])))) (pure []))))) (pure .next)))
def Sn(eA:Old)(ap:Ap):M PF:=(aq (bg (ax ap (pure (.obj (.ref 147))) (aa (af 0) (pure []))) (aX 1)) (aq (bg (eList (pure [])) (aX 2)) (aq (bg (eList (pure [])) (aX 3)) (aq (bg (ax ap (pure (.obj (.ref 373))) (aa (af 1) (pure []))) (aX 4)) (aq (bM (tC .NotEq (bt (af 4) (pure (.int 0))) (pure (.str "end"))) (aq (cI (eT (tV (ax ap (pure (.obj (.ref 601))) (aa (af 4) (pure []))))) (aq (mR (bV ap (af 3) "append" (aa (ax ap (pure (.obj (.ref 567))) (aa (af 1) (aa (af 4) (aa (pure (.bool aj)) (pure []))))) (pure [])))) (pure .next)) (aq (cI (tC .NotEq (bt (af 4) (pure (.int 1))) (pure (.bytes [66,73]))) (aq (mR (bV ap (af 2) "append" (aa (ax ap (pure (.obj (.ref 590))) (aa (ax ap (pure (.obj (.ref 606))) (aa (bt (af 4) (pure (.int 1))) (pure []))) (aa (af 3) (pure [])))) (pure [])))) (aq (bg (eList (pure [])) (aX 3)) (pure .next))) (aq (cI (tC .Eq (af 3) (eList (pure []))) (aq (mR (bV ap (af 2) "append" (aa (ax ap (pure (.obj (.ref 634))) (aa (af 1) (pure []))) (pure [])))) (pure .next)) (aq (cZ (aa (pure (.str "BI has operands")) (aa (bt (af 4) (pure (.int 2))) (pure [])))) (pure .next))) (pure .next))) (pure .next))) (aq (bg (ax ap (pure (.obj (.ref 373))) (aa (af 1) (pure []))) (aX 4)) (pure .next)))) (aq (cI (tC .NotEq (af 3) (eList (pure []))) (aq (cZ (aa (pure (.str "operands without an operator")) (aa (bt (af 4) (pure (.int 2))) (pure [])))) (pure .next)) (pure .next)) (aq (bw (af 2)) (pure .next))))))))
def So(old:Old)(ap:Ap):M PF:=(aq (bg (pure (.int 59)) (aX 1)) (aq (pZ (nv (iB old (af 0) (pure .none) (pure (.int 63)))) (aX 2) (aq (bg (eB .Add (eB .Add (eB .Mult (af 1) (pure (.int 1091))) (eB .Mult (pure (.int 2)) (ax ap (pure (.obj (.builtin "abs"))) (aa (ax ap (pure (.obj (.type "int"))) (aa (af 2) (pure []))) (pure []))))) (ax ap (pure (.obj (.type "int"))) (aa (eC .Lt (af 2) (pure (.int 0))) (pure [])))) (aX 1)) (pure .next))) (aq (bw (eList (aa (af 1) (aa (pure (.int 0)) (pure []))))) (pure .next))))
def Xp(eA:Old)(xx:Ap):M PF:=(aq (cI (tC .Eq (bt (af 0) (pure (.int 0))) (pure (.int 0))) (aq (bg (eB .Add (bt (af 0) (pure (.int 1))) (pure (.int 1))) (rn (af 0) (pure (.int 1)))) (aq (bg (eB .Add (eB .Mult (pure (.int 1091)) (bt (af 0) (pure (.int 1)))) (pure (.int 8719))) (rn (af 0) (pure (.int 0)))) (pure .next))) (pure .next)) (aq (bg (eB .Mod (bt (af 0) (pure (.int 0))) (af 1)) (aX 2)) (aq (bg (eB .FloorDiv (bt (af 0) (pure (.int 0))) (af 1)) (rn (af 0) (pure (.int 0)))) (aq (bw (af 2)) (pure .next)))))
def Xq(eA:Old)(ap:Ap):M PF:=(aq (bw (bt (af 1) (ax ap (pure (.obj (.ref 655))) (aa (af 0) (aa (ax ap (pure (.obj (.builtin "len"))) (aa (af 1) (pure []))) (pure [])))))) (pure .next))
def Xr(eA:Old)(xx:Ap):M PF:=(aq (bg (pB [[55],[48],[45,50],[46,53],[40,120,41]] (aa (bq (aa (pure (.str "int")) (aa (pure (.int 7)) (pure [])))) (aa (bq (aa (pure (.str "int")) (aa (pure (.int 0)) (pure [])))) (aa (bq (aa (pure (.str "int")) (aa (m_ (pure (.int 2))) (pure [])))) (aa (bq (aa (pure (.str "real")) (aa (pure (.int 5)) (aa (pure (.int 1)) (pure []))))) (aa (bq (aa (pure (.str "string")) (aa (pure (.bytes [120])) (pure [])))) (pure []))))))) (aX 0)) (aq (bg (bq (aa (pure (.str "name")) (aa (pure (.str "A")) (pure [])))) (rn (af 0) (pure (.bytes [47,65])))) (aq (bg (bq (aa (pure (.str "name")) (aa (pure (.str "W")) (pure [])))) (rn (af 0) (pure (.bytes [47,87])))) (aq (bg (bq (aa (pure (.str "truth")) (aa (pure (.int 1)) (pure [])))) (rn (af 0) (pure (.bytes [116,114,117,101])))) (aq (bg (bq (aa (pure (.str "null")) (pure []))) (rn (af 0) (pure (.bytes [110,117,108,108])))) (aq (bw (af 0)) (pure .next)))))))
def Xs(eA:Old)(ap:Ap):M PF:=(aq (bg (m9 (tC .Lt (af 1) (pure (.int 2))) (ax ap (pure (.obj (.ref 655))) (aa (af 0) (aa (pure (.int 4)) (pure [])))) (pure (.int 3))) (aX 2)) (aq (cI (tC .Eq (af 2) (pure (.int 0))) (aq (bw (eB .Add (eB .Add (eList (aa (pure (.bytes [91])) (pure []))) (ax ap (pure (.obj (.ref 683))) (aa (af 0) (aa (eB .Add (af 1) (pure (.int 1))) (pure []))))) (eList (aa (pure (.bytes [93])) (pure []))))) (pure .next)) (pure .next)) (aq (cI (tC .Eq (af 2) (pure (.int 1))) (aq (bw (eB .Add (eB .Add (eList (aa (pure (.bytes [60,60])) (aa (pure (.bytes [47,65])) (pure [])))) (ax ap (pure (.obj (.ref 676))) (aa (af 0) (aa (eB .Add (af 1) (pure (.int 1))) (pure []))))) (eList (aa (pure (.bytes [62,62])) (pure []))))) (pure .next)) (pure .next)) (aq (bw (eList (aa (ax ap (pure (.obj (.ref 662))) (aa (af 0) (aa (ax ap (pure (.obj (.builtin "sorted"))) (aa (ax ap (pure (.obj (.type "list"))) (aa (ax ap (pure (.obj (.ref 669))) (pure [])) (pure []))) (pure []))) (pure [])))) (pure [])))) (pure .next)))))
def Xu(eA:Old)(ap:Ap):M PF:=(aq (bg (eList (pure [])) (aX 2)) (aq (pZ (mH (aa (ax ap (pure (.obj (.ref 655))) (aa (af 0) (aa (pure (.int 3)) (pure [])))) (pure []))) (aX 3) (aq (bg (eB .Add (af 2) (ax ap (pure (.obj (.ref 676))) (aa (af 0) (aa (af 1) (pure []))))) (aX 2)) (pure .next))) (aq (bw (af 2)) (pure .next))))
def Xv(old:Old)(ap:Ap):M PF:=(aq (bg (eList (pure [])) (aX 1)) (aq (pZ (mH (aa (ax ap (pure (.obj (.ref 655))) (aa (af 0) (aa (pure (.int 4)) (pure [])))) (pure []))) (aX 2) (aq (bg (eB .Add (eB .Add (af 1) (ax ap (pure (.obj (.ref 683))) (aa (af 0) (aa (pure (.int 0)) (pure []))))) (eList (aa (ax ap (pure (.obj (.ref 662))) (aa (af 0) (aa (eList (aa (pure (.bytes [113])) (aa (pure (.bytes [84,106])) (aa (pure (.bytes [82])) (aa (pure (.bytes [39])) (aa (pure (.bytes [84,42])) (aa (pure (.bytes [66,88])) (pure [])))))))) (pure [])))) (pure [])))) (aX 1)) (pure .next))) (aq (j8 (bq (aa (ax ap (pure (.obj (.ref 655))) (aa (af 0) (aa (pure (.int 5)) (pure [])))) (aa (ax ap (pure (.obj (.ref 655))) (aa (af 0) (aa (eB .Add (ax ap (pure (.obj (.builtin "len"))) (aa (af 1) (pure []))) (pure (.int 1))) (pure [])))) (pure [])))) 2 [aX 4,aX 3]) (aq (bg (ax ap (pure (.obj (.ref 662))) (aa (af 0) (aa (eList (aa (pure (.bytes [91])) (aa (pure (.bytes [93])) (aa (pure (.bytes [60,60])) (aa (pure (.bytes [62,62])) (aa (pure (.bytes [125])) (aa (pure (.bytes [55])) (aa (pure (.bytes [48])) (aa (pure (.bytes [82])) (aa (pure (.bytes [47,65])) (aa (pure (.bytes [110,117,108,108])) (aa (pure (.bytes [102])) (pure []))))))))))))) (pure [])))) (aX 5)) (aq (cI (tC .Eq (af 3) (pure (.int 1))) (aq (bw (eB .Add (iB old (af 1) (pure .none) (af 4)) (iB old (af 1) (eB .Add (af 4) (pure (.int 1))) (pure .none)))) (pure .next)) (pure .next)) (aq (cI (tC .Eq (af 3) (pure (.int 2))) (aq (bw (eB .Add (eB .Add (iB old (af 1) (pure .none) (af 4)) (eList (aa (af 5) (pure [])))) (iB old (af 1) (af 4) (pure .none)))) (pure .next)) (pure .next)) (aq (bw (m9 (tC .Eq (af 3) (pure (.int 3))) (eB .Add (eB .Add (iB old (af 1) (pure .none) (af 4)) (eList (aa (af 5) (pure [])))) (iB old (af 1) (eB .Add (af 4) (pure (.int 1))) (pure .none))) (af 1))) (pure .next))))))))
def Sp(old:Old)(ap:Ap):M PF:=(aq (cI (tC .GtE (af 3) (ax ap (pure (.obj (.builtin "len"))) (aa (af 0) (pure [])))) (aq (bw (bq (aa (pure (.str "fault")) (aa (af 2) (pure []))))) (pure .next)) (pure .next)) (aq (cI (tC .In (bt (af 0) (af 3)) (ax ap (pure (.obj (.ref 669))) (pure []))) (aq (bw (bq (aa (pure (.str "ok")) (aa (bt (ax ap (pure (.obj (.ref 669))) (pure [])) (bt (af 0) (af 3))) (aa (eB .Add (af 3) (pure (.int 1))) (pure [])))))) (pure .next)) (pure .next)) (aq (cI (tC .NotIn (bt (af 0) (af 3)) (bq (aa (pure (.bytes [91])) (aa (pure (.bytes [60,60])) (pure []))))) (aq (bw (bq (aa (pure (.str "fault")) (aa (bt (af 1) (af 3)) (pure []))))) (pure .next)) (pure .next)) (aq (bg (bq (aa (eList (pure [])) (aa (bt (pB [[91],[60,60]] (aa (pure (.bytes [93])) (aa (pure (.bytes [62,62])) (pure [])))) (bt (af 0) (af 3))) (aa (eB .Add (af 3) (pure (.int 1))) (pure []))))) (x7 3 [aX 4,aX 5,aX 6])) (aq (bM (bY (tC .Lt (af 6) (ax ap (pure (.obj (.builtin "len"))) (aa (af 0) (pure [])))) (bY (hJ (tC .NotEq (bt (af 0) (af 6)) (af 5)) (hJ (bY (tC .Eq (af 5) (pure (.bytes [62,62]))) (bY (tC .Eq (eB .Mod (ax ap (pure (.obj (.builtin "len"))) (aa (af 4) (pure []))) (pure (.int 2))) (pure (.int 1))) (pure ah))) (pure aj))) (pure ah))) (aq (cI (bY (tC .Eq (af 5) (pure (.bytes [62,62]))) (bY (tC .Eq (eB .Mod (ax ap (pure (.obj (.builtin "len"))) (aa (af 4) (pure []))) (pure (.int 2))) (pure (.int 0))) (bY (tC .NotEq (iB old (bt (af 0) (af 6)) (pure .none) (pure (.int 1))) (pure (.bytes [47]))) (pure ah)))) (aq (bw (bq (aa (pure (.str "fault")) (aa (bt (af 1) (af 6)) (pure []))))) (pure .next)) (pure .next)) (aq (bg (ax ap (pure (.obj (.ref 695))) (aa (af 0) (aa (af 1) (aa (af 2) (aa (af 6) (pure [])))))) (aX 7)) (aq (cI (tC .Eq (bt (af 7) (pure (.int 0))) (pure (.str "fault"))) (aq (bw (af 7)) (pure .next)) (pure .next)) (aq (bg (bq (aa (eB .Add (af 4) (eList (aa (bt (af 7) (pure (.int 1))) (pure [])))) (aa (bt (af 7) (pure (.int 2))) (pure [])))) (x7 2 [aX 4,aX 6])) (pure .next)))))) (aq (cI (tC .GtE (af 6) (ax ap (pure (.obj (.builtin "len"))) (aa (af 0) (pure [])))) (aq (bw (bq (aa (pure (.str "fault")) (aa (af 2) (pure []))))) (pure .next)) (pure .next)) (aq (cI (tC .Eq (af 5) (pure (.bytes [93]))) (aq (bw (bq (aa (pure (.str "ok")) (aa (eB .Add (bq (aa (pure (.str "array")) (pure []))) (ax ap (pure (.obj (.type "tuple"))) (aa (af 4) (pure [])))) (aa (eB .Add (af 6) (pure (.int 1))) (pure [])))))) (pure .next)) (pure .next)) (aq (bg (ax ap (pure (.obj (.type "dict"))) (aa (fy [4] (mH (aa (pure (.int 0)) (aa (ax ap (pure (.obj (.builtin "len"))) (aa (af 4) (pure []))) (aa (pure (.int 2)) (pure []))))) (pure ah) (bq (aa (bt (bt (af 1) (af 0)) (pure (.int 1))) (aa (bt (af 1) (eB .Add (af 0) (pure (.int 1)))) (pure []))))) (pure []))) (aX 8)) (aq (bw (bq (aa (pure (.str "ok")) (aa (eB .Add (bq (aa (pure (.str "dict")) (pure []))) (ax ap (pure (.obj (.type "tuple"))) (aa (fy [8] (nv (ax ap (pure (.obj (.builtin "sorted"))) (aa (ax ap (pure (.obj (.type "list"))) (aa (af 8) (pure []))) (pure [])))) (tC .NotEq (bt (af 1) (af 0)) (bq (aa (pure (.str "null")) (pure [])))) (bq (aa (af 0) (aa (bt (af 1) (af 0)) (pure []))))) (pure [])))) (aa (eB .Add (af 6) (pure (.int 1))) (pure [])))))) (pure .next))))))))))
def Sr(eA:Old)(ap:Ap):M PF:=(aq (j8 (bq (aa (eList (pure [])) (aa (bq (pure [])) (aa (pure (.int 0)) (pure []))))) 3 [aX 5,aX 4,aX 3]) (aq (bM (tC .Lt (af 5) (ax ap (pure (.obj (.builtin "len"))) (aa (af 0) (pure [])))) (aq (cI (hJ (tC .In (bt (af 0) (af 5)) (ax ap (pure (.obj (.ref 669))) (pure []))) (hJ (tC .In (bt (af 0) (af 5)) (bq (aa (pure (.bytes [91])) (aa (pure (.bytes [93])) (aa (pure (.bytes [60,60])) (aa (pure (.bytes [62,62])) (aa (pure (.bytes [125])) (pure [])))))))) (pure aj))) (aq (bg (ax ap (pure (.obj (.ref 695))) (aa (af 0) (aa (af 1) (aa (af 2) (aa (af 5) (pure [])))))) (aX 6)) (aq (cI (tC .Eq (bt (af 6) (pure (.int 0))) (pure (.str "fault"))) (aq (bw (af 6)) (pure .next)) (pure .next)) (aq (j8 (bq (aa (eB .Add (af 4) (bq (aa (bt (af 6) (pure (.int 1))) (pure [])))) (aa (bt (af 6) (pure (.int 2))) (pure [])))) 2 [aX 5,aX 4]) (pure .next)))) (aq (mR (bV ap (af 3) "append" (aa (bq (aa (bV ap (bt (af 0) (af 5)) "decode" (aa (pure (.str "ascii")) (pure []))) (aa (af 4) (pure [])))) (pure [])))) (aq (j8 (bq (aa (bq (pure [])) (aa (eB .Add (af 5) (pure (.int 1))) (pure [])))) 2 [aX 5,aX 4]) (pure .next)))) (pure .next))) (aq (bw (m9 (tC .NotEq (af 4) (bq (pure []))) (bq (aa (pure (.str "fault")) (aa (af 2) (pure [])))) (bq (aa (pure (.str "ok")) (aa (af 3) (pure [])))))) (pure .next))))
def Xw(eA:Old)(ap:Ap):M PF:=(aq (B5 (aq (bw (bq (aa (pure (.str "ok")) (aa (fy [] (nv (ax ap (pure (.obj (.ref 641))) (aa (af 0) (pure [])))) (pure ah) (bV ap (af 0) "told" (pure []))) (pure []))))) (pure .next)) "fault" 1) (pure .next))
def Ss(eA:Old)(ap:Ap):M PF:=(aq (bg (ax ap (pure (.obj (.ref 690))) (aa (af 0) (pure []))) (aX 1)) (aq (j8 (bq (aa (ax ap (pure (.obj (.ref 662))) (aa (af 0) (aa (eList (aa (pure (.bytes [])) (aa (pure (.bytes [10])) (pure [])))) (pure [])))) (aa (eList (pure [])) (pure [])))) 2 [aX 3,aX 2]) (aq (pZ (nv (af 1)) (aX 4) (aq (mR (bV ap (af 3) "append" (aa (ax ap (pure (.obj (.builtin "len"))) (aa (af 2) (pure []))) (pure [])))) (aq (bg (eB .Add (eB .Add (af 2) (af 4)) (ax ap (pure (.obj (.ref 662))) (aa (af 0) (aa (eList (aa (pure (.bytes [32])) (aa (pure (.bytes [13])) (aa (pure (.bytes [37,113,10])) (pure []))))) (pure []))))) (aX 2)) (pure .next)))) (aq (bw (eC .Eq (ax ap (pure (.obj (.ref 707))) (aa (af 2) (pure []))) (ax ap (pure (.obj (.ref 702))) (aa (af 1) (aa (af 3) (aa (ax ap (pure (.obj (.builtin "len"))) (aa (af 2) (pure []))) (pure []))))))) (pure .next)))))
def Su(old:Old)(ap:Ap):M PF:=(aq (bg (bV ap (pure (.bytes [])) "join" (aa (fy [0] (mH (aa (ax ap (pure (.obj (.ref 655))) (aa (af 0) (aa (pure (.int 5)) (pure [])))) (pure []))) (pure ah) (ax ap (pure (.obj (.ref 662))) (aa (af 1) (aa (eList (aa (pure (.bytes [69])) (aa (pure (.bytes [73])) (aa (pure (.bytes [120])) (aa (pure (.bytes [40])) (aa (pure (.bytes [69,73,120])) (aa (pure (.bytes [32])) (pure [])))))))) (pure []))))) (pure []))) (aX 1)) (aq (bg (ax ap (pure (.obj (.ref 655))) (aa (af 0) (aa (pure (.int 10)) (pure [])))) (aX 2)) (aq (bg (eB .Add (pure (.bytes [113,10])) (m9 (tC .Eq (af 2) (pure (.int 1))) (pure (.bytes [55,32])) (pure (.bytes [])))) (aX 3)) (aq (bg (eB .Add (eB .Add (eB .Add (eB .Add (eB .Add (pure (.bytes [66,73,32])) (m9 (tC .Eq (af 2) (pure (.int 2))) (pure (.bytes [55,32])) (pure (.bytes [])))) (pure (.bytes [47,87,32,55,32]))) (m9 (tC .Eq (af 2) (pure (.int 7))) (pure (.bytes [48,32,82,32])) (pure (.bytes [])))) (pure (.bytes [47,65,32,110,117,108,108]))) (m9 (tC .Eq (af 2) (pure (.int 3))) (pure (.bytes [32,47,87])) (pure (.bytes [])))) (aX 4)) (aq (cI (tC .Eq (af 2) (pure (.int 8))) (aq (bw (eC .Eq (ax ap (pure (.obj (.ref 707))) (aa (eB .Add (af 3) (af 4)) (pure []))) (bq (aa (pure (.str "fault")) (aa (ax ap (pure (.obj (.builtin "len"))) (aa (eB .Add (af 3) (af 4)) (pure []))) (pure [])))))) (pure .next)) (pure .next)) (aq (cI (tC .Eq (af 2) (pure (.int 7))) (aq (bw (eC .Eq (ax ap (pure (.obj (.ref 707))) (aa (eB .Add (eB .Add (af 3) (af 4)) (pure (.bytes [32,73,68,32,120,10,69,73]))) (pure []))) (bq (aa (pure (.str "fault")) (aa (eB .Add (ax ap (pure (.obj (.builtin "len"))) (aa (af 3) (pure []))) (pure (.int 8))) (pure [])))))) (pure .next)) (pure .next)) (aq (bg (eB .Add (eB .Add (eB .Add (eB .Add (eB .Add (af 3) (af 4)) (pure (.bytes [32]))) (m9 (tC .Eq (af 2) (pure (.int 4))) (pure (.bytes [81])) (pure (.bytes [73,68])))) (m9 (tC .Eq (af 2) (pure (.int 5))) (pure (.bytes [40])) (pure (.bytes [10])))) (af 1)) (aX 5)) (aq (cI (tC .NotEq (af 2) (pure (.int 6))) (aq (bg (eB .Add (eB .Add (af 5) (pure (.bytes [10,69,73]))) (ax ap (pure (.obj (.ref 662))) (aa (af 0) (aa (eList (aa (pure (.bytes [])) (aa (pure (.bytes [32])) (aa (pure (.bytes [10,81])) (pure []))))) (pure []))))) (aX 5)) (pure .next)) (pure .next)) (aq (bg (eList (aa (pure (.int 0)) (aa (ax ap (pure (.obj (.builtin "len"))) (aa (af 3) (pure []))) (aa (eB .Add (ax ap (pure (.obj (.builtin "len"))) (aa (af 3) (pure []))) (pure (.int 3))) (aa (eB .Add (ax ap (pure (.obj (.builtin "len"))) (aa (eB .Add (af 3) (af 4)) (pure []))) (pure (.int 1))) (aa (eB .Add (ax ap (pure (.obj (.builtin "len"))) (aa (eB .Add (af 3) (af 4)) (pure []))) (pure (.int 1))) (aa (eB .Add (ax ap (pure (.obj (.builtin "len"))) (aa (eB .Add (af 3) (af 4)) (pure []))) (pure (.int 3))) (pure [])))))))) (aX 6)) (aq (cI (XZ .Lt .Lt (pure (.int 0)) (af 2) (pure (.int 6))) (aq (bw (eC .Eq (ax ap (pure (.obj (.ref 707))) (aa (af 5) (pure []))) (bq (aa (pure (.str "fault")) (aa (bt (af 6) (af 2)) (pure [])))))) (pure .next)) (pure .next)) (aq (bg (eB .Add (ax ap (pure (.obj (.builtin "len"))) (aa (eB .Add (af 3) (af 4)) (pure []))) (pure (.int 4))) (aX 7)) (aq (bg (fy [5] (mH (aa (af 7) (aa (eB .Sub (ax ap (pure (.obj (.builtin "len"))) (aa (af 5) (pure []))) (pure (.int 2))) (pure [])))) (bY (tC .In (bt (af 1) (af 0)) (bq (aa (pure (.int 10)) (aa (pure (.int 32)) (pure []))))) (bY (tC .Eq (iB old (af 1) (eB .Add (af 0) (pure (.int 1))) (eB .Add (af 0) (pure (.int 3)))) (pure (.bytes [69,73]))) (bY (tC .In (iB old (af 1) (eB .Add (af 0) (pure (.int 3))) (eB .Add (af 0) (pure (.int 4)))) (bq (aa (pure (.bytes [])) (aa (pure (.bytes [32])) (aa (pure (.bytes [10])) (pure [])))))) (pure ah)))) (af 0)) (aX 8)) (aq (cI (tC .Eq (af 8) (eList (pure []))) (aq (bw (eC .Eq (ax ap (pure (.obj (.ref 707))) (aa (af 5) (pure []))) (bq (aa (pure (.str "fault")) (aa (af 7) (pure [])))))) (pure .next)) (pure .next)) (aq (cI (tC .NotIn (iB old (af 5) (eB .Add (bt (af 8) (pure (.int 0))) (pure (.int 3))) (pure .none)) (bq (aa (pure (.bytes [])) (aa (pure (.bytes [32])) (aa (pure (.bytes [10,81])) (pure [])))))) (aq (bw (pure (.bool ah))) (pure .next)) (pure .next)) (aq (bg (eList (aa (bq (aa (pure (.str "q")) (aa (bq (pure [])) (pure [])))) (aa (bq (aa (pure (.str "BI")) (aa (bq (aa (bq (aa (pure (.str "dict")) (aa (bq (aa (pure (.str "W")) (aa (bq (aa (pure (.str "int")) (aa (pure (.int 7)) (pure [])))) (pure [])))) (pure [])))) (aa (bq (aa (pure (.str "string")) (aa (iB old (af 5) (af 7) (bt (af 8) (pure (.int 0)))) (pure [])))) (pure [])))) (pure [])))) (pure [])))) (aX 9)) (aq (bw (eC .Eq (ax ap (pure (.obj (.ref 707))) (aa (af 5) (pure []))) (bq (aa (pure (.str "ok")) (aa (eB .Add (af 9) (eB .Mult (eList (aa (bq (aa (pure (.str "Q")) (aa (bq (pure [])) (pure [])))) (pure []))) (ax ap (pure (.obj (.type "int"))) (aa (eC .Eq (iB old (af 5) (eB .Add (bt (af 8) (pure (.int 0))) (pure (.int 3))) (pure .none)) (pure (.bytes [10,81]))) (pure []))))) (pure [])))))) (pure .next)))))))))))))))))
def I0(eA:Old)(ap:Ap):M PF:=(aq (bg (ax ap (pure (.obj (.ref 648))) (aa (af 0) (pure []))) (aX 1)) (aq (pZ (mH (aa (pure (.int 3)) (pure []))) (aX 2) (aq (cI (hJ (eT (tV (ax ap (pure (.obj (.ref 714))) (aa (af 1) (pure []))))) (hJ (eT (tV (ax ap (pure (.obj (.ref 719))) (aa (af 1) (pure []))))) (pure aj))) (aq (bw (pure (.bool aj))) (pure .next)) (pure .next)) (pure .next))) (aq (bw (pure (.bool ah))) (pure .next))))
theorem Zi(h:X (Ù old (aY old k)) ⟨[some x0],st.hp⟩ (Rt Q st.loc) E):X (aY old (k+1) (.obj (.ref 30)) [x0]) st Q E:=X.fn (n:=1) (vs':=[x0]) (by kernel_rfl) rfl rfl h
theorem Zj(h:X (Ú old (aY old k)) ⟨[some x0],st.hp⟩ (Rt Q st.loc) E):X (aY old (k+1) (.obj (.ref 37)) [x0]) st Q E:=X.fn (n:=1) (vs':=[x0]) (by kernel_rfl) rfl rfl h
theorem Ñ{x3:PV}(h:X (Xk old (aY old k)) ⟨[some (.ref st.hp.length),some x1,some x2,some x3],st.hp++[.inst 147 []]⟩ (Rt (λv s=>v=.none/\Q (.ref st.hp.length) s) st.loc) E):X (aY old (k+1) (.obj (.ref 147)) [x1,x2,x3]) st Q E:=X.make (f:=59) (n:=4) (vs':=[.ref st.hp.length,x1,x2,x3]) (by kernel_rfl) rfl rfl h
theorem RX(h:X (Xk old (aY old k)) ⟨[some (.ref st.hp.length),some x1,some (.int 0),some (.int (-1))],st.hp++[.inst 147 []]⟩ (Rt (λv s=>v=.none/\Q (.ref st.hp.length) s) st.loc) E):X (aY old (k+1) (.obj (.ref 147)) [x1]) st Q E:=X.make (f:=59) (n:=4) (vs':=[.ref st.hp.length,x1,.int 0,.int (-1)]) (by kernel_rfl) rfl rfl h
theorem Zk(h:X (Û old (aY old k)) ⟨[some x0],st.hp⟩ (Rt Q st.loc) E):X (aY old (k+1) (.obj (.ref 66)) [x0]) st Q E:=X.fn (n:=1) (vs':=[x0]) (by kernel_rfl) rfl rfl h
theorem ā(h:X (YM old (aY old k)) ⟨[some x0,some x1,none],st.hp⟩ (Rt Q st.loc) E):X (aY old (k+1) (.obj (.ref 74)) [x0,x1]) st Q E:=X.fn (n:=3) (vs':=[x0,x1]) (by kernel_rfl) rfl rfl h
theorem VO(h:X (YM old (aY old k)) ⟨[some x0,some (.int 0),none],st.hp⟩ (Rt Q st.loc) E):X (aY old (k+1) (.obj (.ref 74)) [x0]) st Q E:=X.fn (n:=3) (vs':=[x0,.int 0]) (by kernel_rfl) rfl rfl h
theorem Zm(h:X (Ü old (aY old k)) ⟨[some x0,none],st.hp⟩ (Rt Q st.loc) E):X (aY old (k+1) (.obj (.ref 81)) [x0]) st Q E:=X.fn (n:=2) (vs':=[x0]) (by kernel_rfl) rfl rfl h
theorem Zn(h:X (Ý old (aY old k)) ⟨[some x0,some x1],st.hp⟩ (Rt Q st.loc) E):X (aY old (k+1) (.obj (.ref 88)) [x0,x1]) st Q E:=X.fn (n:=2) (vs':=[x0,x1]) (by kernel_rfl) rfl rfl h
theorem Zo(h:X (Þ old (aY old k)) ⟨[some x0,some x1],st.hp⟩ (Rt Q st.loc) E):X (aY old (k+1) (.obj (.ref 95)) [x0,x1]) st Q E:=X.fn (n:=2) (vs':=[x0,x1]) (by kernel_rfl) rfl rfl h
theorem Vm(h:X (W3 old (aY old k)) ⟨[some x0,none],st.hp⟩ (Rt Q st.loc) E):X (aY old (k+1) (.obj (.ref 102)) [x0]) st Q E:=X.fn (n:=2) (vs':=[x0]) (by kernel_rfl) rfl rfl h
theorem Vn(h:X (W4 old (aY old k)) ⟨[some x0,none],st.hp⟩ (Rt Q st.loc) E):X (aY old (k+1) (.obj (.ref 109)) [x0]) st Q E:=X.fn (n:=2) (vs':=[x0]) (by kernel_rfl) rfl rfl h
theorem Vo(h:X (Sb old (aY old k)) ⟨[some x0],st.hp⟩ (Rt Q st.loc) E):X (aY old (k+1) (.obj (.ref 116)) [x0]) st Q E:=X.fn (n:=1) (vs':=[x0]) (by kernel_rfl) rfl rfl h
theorem Vp(h:X (Sd old (aY old k)) ⟨[some x0,some x1,some x2],st.hp⟩ (Rt Q st.loc) E):X (aY old (k+1) (.obj (.ref 137)) [x0,x1,x2]) st Q E:=X.fn (n:=3) (vs':=[x0,x1,x2]) (by kernel_rfl) rfl rfl h
theorem WU(h:X (Se old (aY old k)) ⟨[some (.ref st.hp.length),some x1,some x2],st.hp++[.inst 285 []]⟩ (Rt (λv s=>v=.none/\Q (.ref st.hp.length) s) st.loc) E):X (aY old (k+1) (.obj (.ref 285)) [x1,x2]) st Q E:=X.make (f:=205) (n:=3) (vs':=[.ref st.hp.length,x1,x2]) (by kernel_rfl) rfl rfl h
theorem Qk(h:X (Sf old (aY old k)) ⟨[some x0,none,none,none,none,none],st.hp⟩ (Rt Q st.loc) E):X (aY old (k+1) (.obj (.ref 303)) [x0]) st Q E:=X.fn (n:=6) (vs':=[x0]) (by kernel_rfl) rfl rfl h
theorem Vq(h:X (Sh old (aY old k)) ⟨[some x0,some x1,none,none,none,none,none],st.hp⟩ (Rt Q st.loc) E):X (aY old (k+1) (.obj (.ref 326)) [x0,x1]) st Q E:=X.fn (n:=7) (vs':=[x0,x1]) (by kernel_rfl) rfl rfl h
theorem Vt(h:X (Si old (aY old k)) ⟨[some x0,none,none,none,none],st.hp⟩ (Rt Q st.loc) E):X (aY old (k+1) (.obj (.ref 347)) [x0]) st Q E:=X.fn (n:=5) (vs':=[x0]) (by kernel_rfl) rfl rfl h
theorem Ml(h:X (W5 old (aY old k)) ⟨[some x0,some x1,none,none],st.hp⟩ (Rt Q st.loc) E):X (aY old (k+1) (.obj (.ref 359)) [x0,x1]) st Q E:=X.fn (n:=4) (vs':=[x0,x1]) (by kernel_rfl) rfl rfl h
theorem HG(h:X (W6 old (aY old k)) ⟨[some x0,some x1,some x2],st.hp⟩ (Rt Q st.loc) E):X (aY old (k+1) (.obj (.ref 366)) [x0,x1,x2]) st Q E:=X.fn (n:=3) (vs':=[x0,x1,x2]) (by kernel_rfl) rfl rfl h
theorem Ql(h:X (W7 old (aY old k)) ⟨[some x0,none,none],st.hp⟩ (Rt Q st.loc) E):X (aY old (k+1) (.obj (.ref 373)) [x0]) st Q E:=X.fn (n:=3) (vs':=[x0]) (by kernel_rfl) rfl rfl h
theorem Qm(h:X (W8 old (aY old k)) ⟨[some x0,some x1],st.hp⟩ (Rt Q st.loc) E):X (aY old (k+1) (.obj (.ref 380)) [x0,x1]) st Q E:=X.fn (n:=2) (vs':=[x0,x1]) (by kernel_rfl) rfl rfl h
theorem WV(h:X (W9 old (aY old k)) ⟨[some (.ref st.hp.length),some x1],st.hp++[.inst 397 []]⟩ (Rt (λv s=>v=.none/\Q (.ref st.hp.length) s) st.loc) E):X (aY old (k+1) (.obj (.ref 397)) [x1]) st Q E:=X.make (f:=394) (n:=2) (vs':=[.ref st.hp.length,x1]) (by kernel_rfl) rfl rfl h
theorem Ò(h:X (Sj old (aY old k)) ⟨[some (.ref st.hp.length),some x1,some x2],st.hp++[.inst 419 []]⟩ (Rt (λv s=>v=.none/\Q (.ref st.hp.length) s) st.loc) E):X (aY old (k+1) (.obj (.ref 419)) [x1,x2]) st Q E:=X.make (f:=416) (n:=3) (vs':=[.ref st.hp.length,x1,x2]) (by kernel_rfl) rfl rfl h
theorem R3(h:X (Sj old (aY old k)) ⟨[some (.ref st.hp.length),some x1,some (.bool aj)],st.hp++[.inst 419 []]⟩ (Rt (λv s=>v=.none/\Q (.ref st.hp.length) s) st.loc) E):X (aY old (k+1) (.obj (.ref 419)) [x1]) st Q E:=X.make (f:=416) (n:=3) (vs':=[.ref st.hp.length,x1,.bool aj]) (by kernel_rfl) rfl rfl h
theorem Qn(h:X (W_ old (aY old k)) ⟨[some x0],st.hp⟩ (Rt Q st.loc) E):X (aY old (k+1) (.obj (.ref 479)) [x0]) st Q E:=X.fn (n:=1) (vs':=[x0]) (by kernel_rfl) rfl rfl h
theorem AY(h:X (Xa old (aY old k)) ⟨[some x0,some x1],st.hp⟩ (Rt Q st.loc) E):X (aY old (k+1) (.obj (.ref 486)) [x0,x1]) st Q E:=X.fn (n:=2) (vs':=[x0,x1]) (by kernel_rfl) rfl rfl h
theorem Mm(h:X (Xb old (aY old k)) ⟨[some x0,none],st.hp⟩ (Rt Q st.loc) E):X (aY old (k+1) (.obj (.ref 491)) [x0]) st Q E:=X.fn (n:=2) (vs':=[x0]) (by kernel_rfl) rfl rfl h
theorem WW(h:X (Xc old (aY old k)) ⟨[some (.ref st.hp.length),some x1],st.hp++[.inst 515 []]⟩ (Rt (λv s=>v=.none/\Q (.ref st.hp.length) s) st.loc) E):X (aY old (k+1) (.obj (.ref 515)) [x1]) st Q E:=X.make (f:=505) (n:=2) (vs':=[.ref st.hp.length,x1]) (by kernel_rfl) rfl rfl h
theorem Vu(h:X (Xd old (aY old k)) ⟨[some x0],st.hp⟩ (Rt Q st.loc) E):X (aY old (k+1) (.obj (.ref 512)) [x0]) st Q E:=X.fn (n:=1) (vs':=[x0]) (by kernel_rfl) rfl rfl h
theorem Mn(h:X (Xe old (aY old k)) ⟨[some x0,some x1],st.hp⟩ (Rt Q st.loc) E):X (aY old (k+1) (.obj (.ref 540)) [x0,x1]) st Q E:=X.fn (n:=2) (vs':=[x0,x1]) (by kernel_rfl) rfl rfl h
theorem Mo(h:X (Xf old (aY old k)) ⟨[some x0,some x1,some x2,none,none,none],st.hp⟩ (Rt Q st.loc) E):X (aY old (k+1) (.obj (.ref 547)) [x0,x1,x2]) st Q E:=X.fn (n:=6) (vs':=[x0,x1,x2]) (by kernel_rfl) rfl rfl h
theorem Vv(h:X (Xg old (aY old k)) ⟨[some x0,none,none],st.hp⟩ (Rt Q st.loc) E):X (aY old (k+1) (.obj (.ref 552)) [x0]) st Q E:=X.fn (n:=3) (vs':=[x0]) (by kernel_rfl) rfl rfl h
theorem Qo(h:X (Xh old (aY old k)) ⟨[some x0,some x1,some x2,none,none],st.hp⟩ (Rt Q st.loc) E):X (aY old (k+1) (.obj (.ref 559)) [x0,x1,x2]) st Q E:=X.fn (n:=5) (vs':=[x0,x1,x2]) (by kernel_rfl) rfl rfl h
theorem Qp(h:X (Sk old (aY old k)) ⟨[some x0,some x1,some x2,none,none,none,none,none,none],st.hp⟩ (Rt Q st.loc) E):X (aY old (k+1) (.obj (.ref 567)) [x0,x1,x2]) st Q E:=X.fn (n:=9) (vs':=[x0,x1,x2]) (by kernel_rfl) rfl rfl h
theorem WX(h:X (Xi old (aY old k)) ⟨[some (.ref st.hp.length),some x1,some x2],st.hp++[.inst 590 []]⟩ (Rt (λv s=>v=.none/\Q (.ref st.hp.length) s) st.loc) E):X (aY old (k+1) (.obj (.ref 590)) [x1,x2]) st Q E:=X.make (f:=582) (n:=3) (vs':=[.ref st.hp.length,x1,x2]) (by kernel_rfl) rfl rfl h
theorem Vw(h:X (Xj old (aY old k)) ⟨[some x0],st.hp⟩ (Rt Q st.loc) E):X (aY old (k+1) (.obj (.ref 587)) [x0]) st Q E:=X.fn (n:=1) (vs':=[x0]) (by kernel_rfl) rfl rfl h
theorem Qq(h:X (Xl old (aY old k)) ⟨[some x0],st.hp⟩ (Rt Q st.loc) E):X (aY old (k+1) (.obj (.ref 601)) [x0]) st Q E:=X.fn (n:=1) (vs':=[x0]) (by kernel_rfl) rfl rfl h
theorem Vx(h:X (Xm old (aY old k)) ⟨[some x0],st.hp⟩ (Rt Q st.loc) E):X (aY old (k+1) (.obj (.ref 606)) [x0]) st Q E:=X.fn (n:=1) (vs':=[x0]) (by kernel_rfl) rfl rfl h
theorem Vy(h:X (Sl old (aY old k)) ⟨[some x0,none,none],st.hp⟩ (Rt Q st.loc) E):X (aY old (k+1) (.obj (.ref 613)) [x0]) st Q E:=X.fn (n:=3) (vs':=[x0]) (by kernel_rfl) rfl rfl h
theorem Vz(h:X (Xn old (aY old k)) ⟨[some x0,some x1],st.hp⟩ (Rt Q st.loc) E):X (aY old (k+1) (.obj (.ref 620)) [x0,x1]) st Q E:=X.fn (n:=2) (vs':=[x0,x1]) (by kernel_rfl) rfl rfl h
theorem VA(h:X (Sm old (aY old k)) ⟨[some x0,none,none],st.hp⟩ (Rt Q st.loc) E):X (aY old (k+1) (.obj (.ref 627)) [x0]) st Q E:=X.fn (n:=3) (vs':=[x0]) (by kernel_rfl) rfl rfl h
theorem VB(h:X (Xo old (aY old k)) ⟨[some x0,none],st.hp⟩ (Rt Q st.loc) E):X (aY old (k+1) (.obj (.ref 634)) [x0]) st Q E:=X.fn (n:=2) (vs':=[x0]) (by kernel_rfl) rfl rfl h
theorem VC(h:X (Sn old (aY old k)) ⟨[some x0,none,none,none,none],st.hp⟩ (Rt Q st.loc) E):X (aY old (k+1) (.obj (.ref 641)) [x0]) st Q E:=X.fn (n:=5) (vs':=[x0]) (by kernel_rfl) rfl rfl h
theorem VD(h:X (So old (aY old k)) ⟨[some x0,none,none],st.hp⟩ (Rt Q st.loc) E):X (aY old (k+1) (.obj (.ref 648)) [x0]) st Q E:=X.fn (n:=3) (vs':=[x0]) (by kernel_rfl) rfl rfl h
theorem VE(h:X (Xp old (aY old k)) ⟨[some x0,some x1,none],st.hp⟩ (Rt Q st.loc) E):X (aY old (k+1) (.obj (.ref 655)) [x0,x1]) st Q E:=X.fn (n:=3) (vs':=[x0,x1]) (by kernel_rfl) rfl rfl h
theorem VF(h:X (Xq old (aY old k)) ⟨[some x0,some x1],st.hp⟩ (Rt Q st.loc) E):X (aY old (k+1) (.obj (.ref 662)) [x0,x1]) st Q E:=X.fn (n:=2) (vs':=[x0,x1]) (by kernel_rfl) rfl rfl h
theorem VG(h:X (Xr old (aY old k)) ⟨[none],st.hp⟩ (Rt Q st.loc) E):X (aY old (k+1) (.obj (.ref 669)) []) st Q E:=X.fn (n:=1) (vs':=[]) (by kernel_rfl) rfl rfl h
theorem Qr(h:X (Xs old (aY old k)) ⟨[some x0,some x1,none],st.hp⟩ (Rt Q st.loc) E):X (aY old (k+1) (.obj (.ref 676)) [x0,x1]) st Q E:=X.fn (n:=3) (vs':=[x0,x1]) (by kernel_rfl) rfl rfl h
theorem VH(h:X (Xu old (aY old k)) ⟨[some x0,some x1,none,none],st.hp⟩ (Rt Q st.loc) E):X (aY old (k+1) (.obj (.ref 683)) [x0,x1]) st Q E:=X.fn (n:=4) (vs':=[x0,x1]) (by kernel_rfl) rfl rfl h
theorem VI(h:X (Xv old (aY old k)) ⟨[some x0,none,none,none,none,none],st.hp⟩ (Rt Q st.loc) E):X (aY old (k+1) (.obj (.ref 690)) [x0]) st Q E:=X.fn (n:=6) (vs':=[x0]) (by kernel_rfl) rfl rfl h
theorem VJ{x3:PV}(h:X (Sp old (aY old k)) ⟨[some x0,some x1,some x2,some x3,none,none,none,none,none],st.hp⟩ (Rt Q st.loc) E):X (aY old (k+1) (.obj (.ref 695)) [x0,x1,x2,x3]) st Q E:=X.fn (n:=9) (vs':=[x0,x1,x2,x3]) (by kernel_rfl) rfl rfl h
theorem VK(h:X (Sr old (aY old k)) ⟨[some x0,some x1,some x2,none,none,none,none],st.hp⟩ (Rt Q st.loc) E):X (aY old (k+1) (.obj (.ref 702)) [x0,x1,x2]) st Q E:=X.fn (n:=7) (vs':=[x0,x1,x2]) (by kernel_rfl) rfl rfl h
theorem VL(h:X (Xw old (aY old k)) ⟨[some x0,none],st.hp⟩ (Rt Q st.loc) E):X (aY old (k+1) (.obj (.ref 707)) [x0]) st Q E:=X.fn (n:=2) (vs':=[x0]) (by kernel_rfl) rfl rfl h
theorem VM(h:X (Ss old (aY old k)) ⟨[some x0,none,none,none,none],st.hp⟩ (Rt Q st.loc) E):X (aY old (k+1) (.obj (.ref 714)) [x0]) st Q E:=X.fn (n:=5) (vs':=[x0]) (by kernel_rfl) rfl rfl h
theorem VN(h:X (Su old (aY old k)) ⟨[some x0,none,none,none,none,none,none,none,none,none],st.hp⟩ (Rt Q st.loc) E):X (aY old (k+1) (.obj (.ref 719)) [x0]) st Q E:=X.fn (n:=10) (vs':=[x0]) (by kernel_rfl) rfl rfl h
theorem Zl(h:X (I0 old (aY old k)) ⟨[some x0,none,none],st.hp⟩ (Rt Q st.loc) E):X (aY old (k+1) (.obj (.ref 726)) [x0]) st Q E:=X.fn (n:=3) (vs':=[x0]) (by kernel_rfl) rfl rfl h
theorem Ev.lt{a b:Int}:Ev (fA .Lt (.int a) (.int b)) st (.bool (decide (a<b))):=rfl
theorem Ev.le{a b:Int}:Ev (fA .LtE (.int a) (.int b)) st (.bool (decide (a<=b))):=rfl
theorem Ev.gt{a b:Int}:Ev (fA .Gt (.int a) (.int b)) st (.bool (decide (a>b))):=rfl
theorem Ev.ge{a b:Int}:Ev (fA .GtE (.int a) (.int b)) st (.bool (decide (a>=b))):=rfl
theorem Ev.pU{a b:Int}:Ev (fA .Eq (.int a) (.int b)) st (.bool (a==b)):=rfl
theorem Ev.MG{a b:Str}:Ev (fA .Eq (.str a) (.str b)) st (.bool (decide (a=b))):=rfl
theorem Ev.YN{a b:Str}:Ev (fA .NotEq (.str a) (.str b)) st (.bool (!decide (a=b))):=rfl
theorem Ev.eqB{a b:List UInt8}:Ev (fA .Eq (.bytes a) (.bytes b)) st (.bool (a==b)):=rfl
theorem Ev.Ph{a b:List UInt8}:Ev (fA .NotEq (.bytes a) (.bytes b)) st (.bool (!(a==b))):=rfl
theorem Ev.Hw{b:Nat}:Ev (iP .Add (.int a) (.int b)) st (.int ((a+b:Nat):Int)):=rfl
theorem Ev.gW{b:Nat}:Ev (iP .Add (.int a) (.int (OZ b))) st (.int ((a+OZ b:Nat):Int)):=rfl
theorem Ev.add{a b:Int}:Ev (iP .Add (.int a) (.int b)) st (.int (a+b)):=rfl
theorem Ev.XW{a b:Int}:Ev (iP .Sub (.int a) (.int b)) st (.int (a-b)):=rfl
theorem Ev.RI(kn:dh v=ah):Ev (fA .Is v .none) st (.bool (isNone v)):=by
 show(if dh v=ah then(bB (PV.bool (isNone v)):M PV) else M.bad) st=_;rw[if_pos kn];rfl
noncomputable def rP(a:Int)(l:List Int):Bool:=l.any λb=>b==a
theorem kR(a:Int):∀l:List Int,rC a (l.map .int)=some (rP a l)
 |[]=>rfl
 |b::l=>by
  show(rC a (l.map .int)).map (λr=>b==a||r)=_;simp only[kR a l];rfl
theorem Ev.UG{a:Int}(l:List Int):Ev (fA .In (.int a) (.tup (l.map .int))) st (.bool (rP a l)):=by
 show Ip _ _ st=_;unfold Ip;rw[show s7 st (.int a) (.tup (l.map .int))=_ from kR a l]
theorem Ev.Nz{a:Int}(l:List Int):Ev (fA .NotIn (.int a) (.tup (l.map .int))) st (.bool (!rP a l)):=by
 show mG _ _ st=_;unfold mG;rw[show s7 st (.int a) (.tup (l.map .int))=_ from kR a l]
theorem Ev.Bw{es:M (List PV)}(h:Ev es st [.bytes d])(z:sz d.length=ah):Ev (ax (aY old (k+1)) (pure (.obj (.builtin "len"))) es) st (.int d.length):=
 Ev.call rfl h (if_pos z)
theorem Ev.wF{es:M (List PV)}{l:List PV}(h:Ev es st [.ref c])(e:st.hp[c]?=some (.list l))(z:sz l.length=ah):Ev (ax (aY old (k+1)) (pure (.obj (.builtin "len"))) es) st (.int l.length):=
 Ev.call rfl h (by
  show Bx (.ref c) st=_;unfold Bx;simp only[e,z,if_true])
theorem qo(h:sz n=ah)(hj:j<n):idx (j:Int) n=some j:=by
 unfold idx;rw[if_pos h,if_pos (cq j),gU,if_pos hj]
theorem Ev.subB{b:UInt8}(h:sz d.length=ah)(e:d[j]?=some b):Ev (km (.bytes d) (.int j)) st (.int b.toNat):=by
 refine lO ?_;show(if(0:Int)<=(j:Int) then(idx (j:Int) d.length).map λj=>PV.int (d.getD j 0).toNat else none)=_;rw[if_pos (cq j),qo h (ak.mp e).1,fp,List.getD_eq_getElem?_getD,e];rfl
theorem Ev.nL{l:List PV}(e:st.hp[c]?=some (.list l))(h:sz l.length=ah)(g:l[j]?=some v):Ev (km (.ref c) (.int j)) st v:=by
 refine lO ?_;show((listAt st.hp c).bind λl=>(idx (j:Int) l.length).bind λj=>l[j]?)=_;simp only[gZ e,cM,qo h (ak.mp g).1];exact g
theorem Ev.ü{l:List PV}(h:sz l.length=ah)(g:l[j]?=some v):Ev (km (.tup l) (.int j)) st v:=by
 refine lO ?_;show((idx (j:Int) l.length).bind λj=>l[j]?)=_;rw[qo h (ak.mp g).1];exact g
theorem Ev.Tp{x:Str}(g:st.hp[c]?=some (.dict l))(h:gK l x=some v):Ev (km (.ref c) (.str x)) st v:=lO (by
 show(dictAt st.hp c).bind (λl=>gK l x)=_;rw[tK g];exact h)
theorem Ev.Tq{l:List (List UInt8×PV)}{x:List UInt8}(g:st.hp[c]?=some (.cN l))(h:gK l x=some v):Ev (km (.ref c) (.bytes x)) st v:=lO (by
 show(jN st.hp c).bind (λl=>gK l x)=_;rw[qI g];exact h)
theorem qm{β:Type}{l:List PV}{f:List PV->R β}(e:hp[c]?=some (.list l)):(listAt hp c).elim .bad f=f l:=by rw[gZ e];rfl
theorem HY{β:Type}{f:List (Str×PV)->R β}(e:hp[c]?=some (.dict l)):(dictAt hp c).elim .bad f=f l:=by rw[tK e];rfl
theorem Dz{β:Type}{l:List (List UInt8×PV)}{f:List (List UInt8×PV)->R β}(e:hp[c]?=some (.cN l)):(jN hp c).elim .bad f=f l:=by rw[qI e];rfl
theorem zj{l:List PV}(q:i≠j)(h1:hp[i]?=some (.list l))(h2:hp[j]?=some (.list [])):kA hp (n+1) (.ref i) (.ref j)=some l.isEmpty:=by
 show(if i=j then none else(listAt hp i).bind λl=>(listAt hp j).bind λk=>if l.length=k.length then jq (kA hp n) l k else some aj)=_;rw[if_neg q,gZ h1,gZ h2];cases l<;>rfl
theorem Ev.attr{cl:Nat}{x:Str}{p:PV}(h:st.hp[c]?=some (.inst cl fs))(f:dY cl x=some j)(g:fs[j]?=some p)(kn:dh p=ah):Ev (j2 x (.ref c)) st p:=by
 delta Ev j2;simp only[h,f,g,kn,if_true]
theorem Ev.m{cl:Nat}{x:Str}{m:Addr×Str×Addr}(h:st.hp[c]?=some (.inst cl fs))(f:fx.find? (λm=>m.1==cl&&m.2.1==x)=some m):Ev (methP x (.ref c)) st (.obj (.ref m.2.2)):=by
 delta Ev methP;simp only[h,f]
theorem Ev.mL{l:List PV}{x:Str}{id:String}(h:st.hp[c]?=some (.list l))(f:qL "list" x=bB (.obj (.builtin id))):Ev (methP x (.ref c)) st (.obj (.builtin id)):=by
 delta Ev methP;simp only[h,f];rfl
theorem nT{b:Bool}(e:(!b)=ah):b=aj:=by cases b;rfl;cases e
theorem nF{b:Bool}(e:(!b)=aj):b=ah:=by cases b;cases e;rfl
theorem Cn{b:Bool}{P R:Prop}(e:b=ah)(h:P):(b=ah->P)/\(b=aj->R):=⟨λ_=>h,λq=>(jX (e.symm.trans q))⟩
theorem C7{b:Bool}{P R:Prop}(e:b=aj)(h:R):(b=ah->P)/\(b=aj->R):=⟨λq=>(jX (q.symm.trans e)),λ_=>h⟩
theorem Ev.truth{b:Bool}:Ev (dz (.bool b)) st b:=rfl
theorem HN{l:List α}{m:Nat}(h2:m<=l.length)(h1:n<=m):cut l (some (n:Int)) (some (m:Int))=(l.drop n).take (m-n):=by
 unfold cut;simp only[lB,qx];simp only[gA (ai h1 h2),gA h2]
theorem Ev.XU(hs:sz d.length=ah)(h2:j<=d.length)(h1:i<=j):Ev (lh old (.bytes d) (.int i) (.int j)) st (.bytes ((d.drop i).take (j-i))):=by
 show(if sz d.length=ah then R.ok (PV.bytes (cut d (some (i:Int)) (some (j:Int)))) st else R.bad)=_;rw[if_pos hs,HN h2 h1]
noncomputable def cur(d:List UInt8)(n:Nat):PO:=.inst 147 [.bytes d,.int n,.int d.length]
structure HC(hp:List PO)(c:Nat)(d:List UInt8)(n:Nat):Prop where
 at_:hp[c]?=some (cur d n)
 sz:Mine.sz d.length=ah
theorem HC.lt(h:HC hp c d n):c<hp.length:=(ak.mp h.at_).1
theorem HC.set{m:Nat}(h:HC hp c d n):HC (hp.set c (cur d m)) c d m:=⟨by rw[bb h.lt],h.sz⟩
theorem HC.same(h:HC hp c d n):hp.set c (cur d n)=hp:=by
 obtain⟨hl,e⟩:=ak.mp h.at_;rw[<-e];exact List.set_getElem_self hl
theorem R8:fx.find? (λm=>m.1==147&&m.2.1==("is_done":Str))=some ((147:Addr),("is_done":Str),66):=by kernel_rfl
theorem EX:fx.find? (λm=>m.1==147&&m.2.1==("peek":Str))=some ((147:Addr),("peek":Str),74):=by kernel_rfl
theorem BA:fx.find? (λm=>m.1==147&&m.2.1==("take":Str))=some ((147:Addr),("take":Str),81):=by kernel_rfl
theorem W0:fx.find? (λm=>m.1==147&&m.2.1==("starts":Str))=some ((147:Addr),("starts":Str),88):=by kernel_rfl
theorem EY:fx.find? (λm=>m.1==147&&m.2.1==("skip":Str))=some ((147:Addr),("skip":Str),95):=by kernel_rfl
theorem KZ:fx.find? (λm=>m.1==147&&m.2.1==("skip_white":Str))=some ((147:Addr),("skip_white":Str),102):=by kernel_rfl
theorem zE:fx.find? (λm=>m.1==147&&m.2.1==("take_regular":Str))=some ((147:Addr),("take_regular":Str),109):=by kernel_rfl
theorem K0:fx.find? (λm=>m.1==147&&m.2.1==("skip_line_end":Str))=some ((147:Addr),("skip_line_end":Str),116):=by kernel_rfl
theorem R6:fx.find? (λm=>m.1==147&&m.2.1==("find":Str))=some ((147:Addr),("find":Str),137):=by kernel_rfl
theorem uU:dY 147 "data"=some 0:=by kernel_rfl
theorem q8:dY 147 "at"=some 1:=by kernel_rfl
theorem DQ:dY 147 "end"=some 2:=by kernel_rfl
noncomputable def pk(d:List UInt8)(n:Nat):Int:=match d[n]?with
 |some b=>b.toNat
 |none=>-1
def dA(a:Int):Bool:=rP a [0,9,10,12,13,32]
def Mv(a:Int):Bool:=rP a [40,41,60,62,91,93,123,125,47,37]
def S_(a:Int):Bool:=decide (a>=0)&&(!dA a&&!Mv a)
def gG(b:UInt8):Bool:=S_ b.toNat
noncomputable def jd(d:List UInt8)(n:Nat)(w:List UInt8):Bool:=decide (n+w.length<=d.length)&&((d.drop n).take w.length==w)
section
variable{m:Nat}{loc:List (Option PV)}
theorem Ev.Co{o:M PV}(h:HC st.hp c d n)(h0:Ev o st (.ref c)):Ev (eh o "at") st (.int n):=Ev.at_ h0 (Ev.attr h.at_ q8 rfl rfl)
theorem Ev.AZ{o:M PV}(h:HC st.hp c d n)(h0:Ev o st (.ref c)):Ev (eh o "end") st (.int d.length):=Ev.at_ h0 (Ev.attr h.at_ DQ rfl rfl)
theorem Ev.C9{o:M PV}(h:HC st.hp c d n)(h0:Ev o st (.ref c)):Ev (eh o "data") st (.bytes d):=Ev.at_ h0 (Ev.attr h.at_ uU rfl rfl)
theorem Ev.HJ{o:M PV}{b:UInt8}(h:HC st.hp c d n)(e:d[n]?=some b)(h0:Ev o st (.ref c)):Ev (bt (eh o "data") (eh o "at")) st (.int b.toNat):=Ev.sub (.C9 h h0) (.Co h h0) (Ev.subB h.sz e)
theorem X.same{m:M PV}(h:X m st (λw s=>w=v/\s=st) (λ_ _=>False)):Ev m st v:=by
 obtain⟨_,_,e,rfl,rfl⟩:=h.run;exact e
theorem mE{a:Int}:Ev (aY old (k+1) (.obj (.ref 30)) [.int a]) st (.bool (dA a)):=
 X.same (Zi (X.c6 (Ev.C rfl rfl (Ev.UG [0,9,10,12,13,32])) (Rt.rt ⟨rfl,rfl⟩)))
theorem tR(h:HC st.hp c d n)(q:Q (.bool (decide ((n:Int)>=d.length))) st):X (aY old (k+1) (.obj (.ref 66)) [.ref c]) st Q E:=
 Zk (X.c6 (Ev.C (.Co h rfl) (.AZ h rfl) Ev.ge) (Rt.rt q))
theorem F2(h:HC st.hp c d n)(hw:sz w.length=ah)(q:Q (.bool (jd d n w)) st):X (aY old (k+2) (.obj (.ref 88)) [.ref c,.bytes w]) st Q E:=by
 have ee:decide (((n+w.length:Nat):Int)<=d.length)=decide (n+w.length<=d.length):=decide_eq_decide.mpr fY;unfold jd at q;rw[<-ee] at q;have a:Ev (eB .Add (eh (af 0) "at") (ax (aY old (k+1)) (pure (.obj (.builtin "len"))) (aa (af 1) (pure [])))) ⟨[some (.ref c),some (.bytes w)],st.hp⟩ (.int (n+w.length:Nat)):=Ev.B (.Co h rfl) (Ev.Bw rfl hw) Ev.Hw;refine Zn (X.c6 (Ev.bA (Ev.C a (.AZ h rfl) Ev.le) λe=>Ev.C (Ev.sl (.C9 h rfl) (.Co h rfl) a (Ev.XU h.sz (fY.mp (of_decide_eq_true e)) (aF _ _))) rfl Ev.eqB) (Rt.rt ?_));rw[gJ];exact q
theorem NT{b:UInt8}(e:d[n]?=some b):pk d n=(b.toNat:Int):=by unfold pk;rw[e]
theorem r_(h:HC st.hp c d n)(q:Q (.int (pk d n)) st):X (aY old (k+1) (.obj (.ref 74)) [.ref c]) st Q E:=by
 refine VO (X.hY (v:=.int n) (Ev.B (.Co h rfl) rfl Ev.gW) (X.c6 (v:=.int (pk d n)) ?_ (Rt.rt q)));have l:=Ev.tC (b:=eh (af 0) "end") (show Ev (af 2) ⟨[some (.ref c),some (.int 0),some (.int n)],st.hp⟩ (.int n) from rfl) (.AZ h rfl) Ev.lt;by_cases e:n<d.length
 ·have e2:=bp e;rw[NT e2];exact Ev.nq l (decide_eq_true (dq.mpr e)) (Ev.sub (.C9 h rfl) rfl (Ev.subB (j:=n) h.sz e2))
 ·have:pk d n=-1:=by unfold pk;rw[dB (kc e)]
  rw[this];exact Ev.gF l (decide_eq_false λz=>e (dq.mp z)) rfl
theorem oY{b:UInt8}(h:HC st.hp c d n)(e:d[n]?=some b)(q:Q (.int b.toNat) ⟨st.loc,st.hp.set c (cur d (n+1))⟩):X (aY old (k+1) (.obj (.ref 81)) [.ref c]) st Q E:=by
 have hn:=(ak.mp e).1;exact Zm (X.gF (Ev.tC (.Co h rfl) (.AZ h rfl) Ev.ge) (decide_eq_false λz=>dH hn (fY.mp z)) (X.nx (K.nx (X.hY (.HJ h e rfl) (X.yF (v:=.int (n+1:Nat)) (c:=c) (Ev.B (.Co h rfl) rfl Ev.gW) rfl h.at_ q8 (by decide:1<3) (X.c6 (v:=.int b.toNat) rfl (Rt.rt q)))))))
theorem sf(h:HC st.hp c d n)(hw:sz w.length=ah)(q0:jd d n w=aj->Q (.bool aj) st)(q1:jd d n w=ah->Q (.bool ah) ⟨st.loc,st.hp.set c (cur d (n+w.length))⟩):
 X (aY old (k+3) (.obj (.ref 95)) [.ref c,.bytes w]) st Q E:=
 Zo (X.qp (X.eT (X.tV (X.fh (v:=.ref c) (vs:=[.bytes w]) rfl (Ev.m h.at_ W0) rfl (F2 h hw ⟨λe=>X.c6 (v:=.bool aj) rfl (K.rt (Rt.rt (q0 (nT e)))),λe=>X.nx (K.nx (X.yF (v:=.int (n+w.length:Nat)) (c:=c) (Ev.B (.Co h rfl) (Ev.Bw rfl hw) Ev.Hw) rfl h.at_ q8 (by decide:1<3) (X.c6 (v:=.bool ah) rfl (Rt.rt (q1 (nF e))))))⟩)))))
def UI:M Bool:=tC .Lt (eh (af 0) "at") (eh (af 0) "end")
def Hy:M PF:=aq (bg (eB .Add (eh (af 0) "at") (pure (.int 1))) (pW (af 0) "at")) (pure .next)
theorem zB(h:HC hp c d n)(h0:loc[0]?=some (some (.ref c))):Ev UI ⟨loc,hp⟩ (decide ((n:Int)<d.length)):=by
 have g:Ev (af 0) ⟨loc,hp⟩ (.ref c):=by delta Ev af;rw[h0]
 exact Ev.tC (.Co h g) (.AZ h g) Ev.lt
theorem CY(h:HC hp c d n)(h0:loc[0]?=some (some (.ref c)))(q:QF .next ⟨loc,hp.set c (cur d (n+1))⟩):X Hy ⟨loc,hp⟩ QF E:=by
 have g:Ev (af 0) ⟨loc,hp⟩ (.ref c):=by delta Ev af;rw[h0]
 exact X.yF (v:=.int (n+1:Nat)) (c:=c) (Ev.B (.Co h g) rfl Ev.gW) g h.at_ q8 (by decide:1<3) q
theorem IK(e:decide ((n:Int)<(m:Int))=ah):n<m:=dq.mp (of_decide_eq_true e)
theorem RW(e:decide ((n:Int)<(m:Int))=aj):m<=n:=fY.mp (kD.mp (of_decide_eq_false e))
theorem IH(h:m-n<=0):m<=n:=Nat.le_of_sub_eq_zero (Nat.le_zero.mp h)
theorem Kg{P:M Bool}{p:UInt8->Bool}(h0:loc[0]?=some (some (.ref c)))(hP:∀(n:Nat) (hp:List PO) (b:UInt8),HC hp c d n->d[n]?=some b->Ev P ⟨loc,hp⟩ (p b)):
 ∀(r n:Nat) (hp:List PO),HC hp c d n->d.length-n<=r->QF .next ⟨loc,hp.set c (cur d (n+((d.drop n).takeWhile p).length))⟩->X (bM (bY UI (bY P (pure ah))) Hy) ⟨loc,hp⟩ QF E:=by
 intro r;induction r with
 |zero=>
  intro n hp h hr q;refine gg λG k_=>?_
  rw[gM (IH hr)] at q;simp only[Cf,bE,f7,h.same] at q;refine k_ ?_;exact X.sy (X.Ae (zB h h0) (λe=>absurd (IK e) (f9 (IH hr))) λ_=>C7 rfl q)
 |succ r ih=>
  intro n hp h hr q;refine X.sy (X.Ae (zB h h0) (λe=>?_) λe=>C7 rfl ?_)
  ·have hn:=IK e;rw[fZ hn,mN] at q;refine X.Ae (hP n hp d[n] h (bp hn)) (λhb=>Cn rfl (CY h h0 (Lp.nx (ih (n+1) _ h.set (qv hr) ?_)))) λhb=>C7 rfl ?_
   ·rw[hb] at q;simp only[gN,aN,bz 1];exact q
   ·rw[hb] at q;simp only[cJ,if_false,bE,f7,h.same] at q;exact q
  ·rw[gM (RW e)] at q;simp only[Cf,bE,f7,h.same] at q;exact q
def Jj(old:Old)(k:Nat):M Bool:=tV (ax (aY old k) (pure (.obj (.ref 37))) (aa (bt (eh (af 0) "data") (eh (af 0) "at")) (pure [])))
theorem vd{a:Int}:Ev (aY old (k+1) (.obj (.ref 37)) [.int a]) st (.bool (S_ a)):=
 X.same (Zj (X.c6 (Ev.bA (Ev.C rfl rfl Ev.ge) λ_=>Ev.bA (Ev.C rfl rfl (Ev.Nz [0,9,10,12,13,32])) λ_=>Ev.C rfl rfl (Ev.Nz [40,41,60,62,91,93,123,125,47,37])) (Rt.rt ⟨rfl,rfl⟩)))
theorem gH(h:HC st.hp c d n)(hn:n<=d.length)(q:Q (.bytes ((d.drop n).takeWhile gG)) ⟨st.loc,st.hp.set c (cur d (n+((d.drop n).takeWhile gG).length))⟩):X (aY old (k+2) (.obj (.ref 109)) [.ref c]) st Q E:=by
 refine Vn (X.hY (.Co h rfl) (X.seq (Kg (P:=Jj old (k+1)) (p:=gG) (c:=c) (d:=d) rfl (λn hp b h e=>Ev.tV (Ev.call (vs:=[.int b.toNat]) rfl (Ev.cons (.HJ h e (by exact rfl)) Ev.nil) vd)) d.length n _ h (dU ..) (K.nx ?_))));have hl:((d.drop n).takeWhile gG).length<=d.length-n:=by
  have:=(xj gG (l:=d.drop n)).length_le;rwa[cB] at this
 have e:(d.drop n).take (n+((d.drop n).takeWhile gG).length-n)=(d.drop n).takeWhile gG:=by
  rw[gJ];exact(List.prefix_iff_eq_take.mp (xj gG)).symm
 have h2:HC (st.hp.set c (cur d (n+((d.drop n).takeWhile gG).length))) c d _:=h.set;refine X.c6 (Ev.sl (.C9 h2 rfl) (by exact rfl) (.Co h2 rfl) (Ev.XU h.sz (ai (bf hl n) (bI (iW hn))) (aF _ _))) (Rt.rt ?_);simp only[e];exact q
end
noncomputable def oz:List UInt8->Nat
 |[]=>0
 |x::l=>if x.toNat==10||x.toNat==13 then 0 else oz l+1
def kB:Bool->List UInt8->Nat
 |_,[]=>0
 |m,x::l=>if m then(if x.toNat==10||x.toNat==13 then kB aj l+1 else kB ah l+1)
  else(if x.toNat==37 then kB ah l+1 else if dA x.toNat then kB aj l+1 else 0)
theorem Tg(x:UInt8)(l:List UInt8):kB ah (x::l)=if x.toNat==10||x.toNat==13 then kB aj l+1 else kB ah l+1:=rfl
theorem K7(x:UInt8)(l:List UInt8):kB aj (x::l)=if x.toNat==37 then kB ah l+1 else if dA x.toNat then kB aj l+1 else 0:=rfl
theorem C_(x:UInt8)(l:List UInt8):oz (x::l)=if x.toNat==10||x.toNat==13 then 0 else oz l+1:=rfl
theorem FX(l:List UInt8):kB ah l=oz l+kB aj (l.drop (oz l)):=by
 induction l with
 |nil=>rfl
 |cons x l ih=>
  simp only[Tg,C_];by_cases h:(x.toNat==10||x.toNat==13)=ah
  ·rw[if_pos h,if_pos h,l4,aZ,K7];rw[iF,beq_iff_eq,beq_iff_eq] at h;cases h with
   |inl h=>rw[h];rfl
   |inr h=>rw[h];rfl
  ·rw[if_neg h,if_neg h,List.drop_succ_cons,ih,gB]
noncomputable def jV(x:UInt8):Bool:=!(x.toNat==10||x.toNat==13)
theorem y_:∀l:List UInt8,oz l=(l.takeWhile jV).length
 |[]=>rfl
 |x::l=>by
  simp only[C_,mN];unfold jV;cases h:(x.toNat==10||x.toNat==13)
  ·simp only[cJ,if_false,JV,if_true,cA,y_ l];rfl
  ·rfl
section
variable{m:Nat}{loc:List (Option PV)}
def uS:M Bool:=tC .NotIn (bt (eh (af 0) "data") (eh (af 0) "at")) (bq (aa (pure (.int 10)) (aa (pure (.int 13)) (pure []))))
theorem lI(b a:Nat):((a:Int)==(b:Int))=(b==a):=by
 rw[Ha,beq_iff_eq,beq_iff_eq];exact⟨λh=>(Int.ofNat.inj h).symm,λh=>congrArg _ h.symm⟩
theorem E3(b a:Nat):(b==a)=((b:Int)==(a:Int)):=by
 simp only[lI,mT]
theorem IL(b:UInt8):(!rP b.toNat [10,13])=jV b:=by
 delta rP jV
 congr 1
 simp only[jF,xc,gq];exact congr (congrArg _ (lI _ 10)) (lI _ 13)
def FY:M PF:=(aq (bg (bt (eh (af 0) "data") (eh (af 0) "at")) (aX 1)) (aq (cI (tC .Eq (af 1) (pure (.int 37))) (aq (bM (bY UI (bY uS (pure ah))) Hy) (pure .next)) (aq (cI (tC .In (af 1) (pure (.tup [.int 0,.int 9,.int 10,.int 12,.int 13,.int 32]))) Hy (aq (pure (.ret .none)) (pure .next))) (pure .next))) (pure .next)))
theorem ME(h0:loc[0]?=some (some (.ref c))){b:UInt8}(h:HC hp c d n)(e:d[n]?=some b):Ev uS ⟨loc,hp⟩ (jV b):=by
 have g:Ev (af 0) ⟨loc,hp⟩ (.ref c):=by delta Ev af;rw[h0]
 rw[<-IL];exact Ev.tC (.HJ h e g) (Ev.tup (l:=[10,13].map .int) rfl rfl) (Ev.Nz [10,13])
theorem BW:∀(r n:Nat) (x:Option PV) (hp:List PO),HC hp c d n->d.length-n<=r->(∀x,QF .next ⟨[some (.ref c),x],hp.set c (cur d (n+kB aj (d.drop n)))⟩/\QF (.ret .none) ⟨[some (.ref c),x],hp.set c (cur d (n+kB aj (d.drop n)))⟩)->X (bM UI FY) ⟨[some (.ref c),x],hp⟩ QF E:=by
 intro r;induction r with
 |zero=>
  intro n x hp h hr q;rw[gM (IH hr)] at q;simp only[kB,f7,h.same] at q;exact X.dt (zB h rfl) (λe=>absurd (IK e) (f9 (IH hr))) λ_=>(q x).1
 |succ r ih=>
  intro n x hp h hr q;refine X.dt (zB h rfl) (λe=>?_) λe=>?_
  case refine_2=>
   rw[gM (RW e)] at q;simp only[kB,f7,h.same] at q;exact(q x).1
  have hn:=IK e;have e:d[n]?=some d[n]:=bp hn;simp only[fZ hn,K7] at q;refine X.hY (v:=.int d[n].toNat) (.HJ h e rfl) (X.tP (t:=d[n].toNat==37) ?_ (λe3=>?_) λe3=>X.tP (t:=dA d[n].toNat) ?_ (λhw=>?_) λhw=>X.XM (K.rt (K.rt (Lp.rt ?_))))
  ·refine Ev.tC (x:=.int d[n].toNat) (y:=.int 37) rfl rfl ?_;rw[E3];exact Ev.pU
  ·refine X.seq (Kg (P:=uS) (p:=jV) (c:=c) (d:=d) rfl (λn hp b h e=>ME rfl h e) d.length n _ h (dU ..) (K.nx (X.nx (K.nx (X.nx (Lp.nx ?_))))));rw[e3] at q;have ne:jV d[n]=ah:=by
    unfold jV;rw[beq_iff_eq] at e3;rw[e3];rfl
   have hl:((d.drop n).takeWhile jV).length=oz (d.drop (n+1))+1:=by
    rw[fZ hn,mN,ne,y_];rfl
   rw[hl];refine ih _ _ _ h.set (ai (Nat.sub_le_sub_left (bf (aQ 1 _) n) _) (qv hr)) λx=>?_
   simp only[gN];have z:=q x;rw[if_pos rfl,FX] at z;have e2:n+(oz (d.drop (n+1))+1)+kB aj (d.drop (n+(oz (d.drop (n+1))+1)))=n+(oz (d.drop (n+1))+kB aj ((d.drop (n+1)).drop (oz (d.drop (n+1))))+1):=by
    rw[cK,show n+1+oz (d.drop (n+1))=n+(oz (d.drop (n+1))+1) from gB n 1 _,aN,gB]
   rw[e2];exact z
  ·exact Ev.tC rfl rfl (Ev.UG [0,9,10,12,13,32])
  ·refine CY h rfl (K.nx (X.nx (K.nx (X.nx (Lp.nx (ih (n+1) _ _ h.set (qv hr) λx=>?_))))));simp only[gN,aN,bz 1];have z:=q x;rw[e3,hw] at z;exact z
  ·have z:=(q (some (.int d[n].toNat))).2;rw[e3,hw] at z;simp only[cJ,if_false,f7,h.same] at z;exact z
theorem nK(h:HC st.hp c d n)(q:Q .none ⟨st.loc,st.hp.set c (cur d (n+kB aj (d.drop n)))⟩):X (aY old (k+1) (.obj (.ref 102)) [.ref c]) st Q E:=by
 refine Vm ?_;exact X.seq (BW d.length n none st.hp h (dU ..) λx=>⟨K.nx (X.nx (Rt.nx q)),K.rt (Rt.rt q)⟩)
theorem j9(h:HC st.hp c d n)(h1:(pk d n==13)=aj)(h2:(pk d n==10)=aj)(q:Q (.bool aj) st):X (aY old (k+2) (.obj (.ref 116)) [.ref c]) st Q E:=by
 refine Vo ?_;unfold Sb;refine X.qp (X.tC (X.fh (v:=.ref c) (vs:=[]) rfl (Ev.m h.at_ EX) rfl (r_ h (X.ev rfl (X.ev Ev.pU (X.truth (C7 h1 (X.nx (K.nx ?_)))))))));refine X.qp (X.tC (X.fh (v:=.ref c) (vs:=[]) rfl (Ev.m h.at_ EX) rfl (r_ h (X.ev rfl (X.ev Ev.pU (X.truth (C7 h2 (X.nx (K.nx (X.c6 (v:=.bool aj) rfl (Rt.rt q)))))))))))
theorem MS{a:Int}(ha:0<=a)(h:HC st.hp c d n)(q:Q (.int (findR d.toArray w.toArray a d.length)) st):X (aY old (k+2) (.obj (.ref 137)) [.ref c,.bytes w,.int a]) st Q E:=by
 refine Vp ?_;unfold Sd;have e:Ev (aY old (k+1) (.obj (.builtin "max")) [.int a,.int 0]) ⟨[some (.ref c),some (.bytes w),some (.int a)],st.hp⟩ (.int a):=by
  show R.ok (PV.int (if(0:Int)>a then 0 else a)) _=_;rw[if_neg (kD.mpr ha)]
 have g:Ev (eh (af 0) "data") ⟨[some (.ref c),some (.bytes w),some (.int a)],st.hp⟩ (.bytes d):=.C9 h rfl;have g2:Ev (eh (af 0) "end") ⟨[some (.ref c),some (.bytes w),some (.int a)],st.hp⟩ (.int d.length):=.AZ h rfl;exact X.ret (X.ev (Ev.fh g (g:=.obj (.builtin "bytes.find")) rfl (Ev.cons rfl (Ev.cons (Ev.call rfl rfl e) (Ev.cons g2 Ev.nil))) rfl) (Rt.rt q))
theorem Dp(hs:sz d.length=ah)(q:Q (.ref st.hp.length) ⟨st.loc,st.hp++[cur d 0]⟩):X (aY old (k+2) (.obj (.ref 147)) [.bytes d]) st Q E:=by
 refine RX ?_;unfold Xk;have g:∀(o:PO) (hp:List PO),(hp++[o])[hp.length]?=some o:=λo hp=>iU
 have g2:∀(o p:PO) (hp:List PO),(hp++[o]).set hp.length p=hp++[p]:=λo p hp=>by rw[xi _ _ (aC _),kG];rfl
 refine X.rR (c:=st.hp.length) (v:=.bytes d) rfl rfl (g _ _) uU ?_;rw[g2];refine X.rR (c:=st.hp.length) (v:=.int 0) rfl rfl (g _ _) q8 ?_;rw[g2];refine X.rR (c:=st.hp.length) (v:=.int d.length) (Ev.nq (Ev.tC rfl rfl Ev.lt) rfl (Ev.Bw rfl hs)) rfl (g _ _) DQ ?_;rw[g2];exact X.nx (Rt.nx ⟨rfl,q⟩)
end
inductive At where
 |i7|i0|im|r5|sx|nA|nW|tr|nu
inductive Sg where
 |ob|cb|od|cd|br
inductive Op where
 |q|Tj|R|pr|Ts|BX|f|BI|ID|Q
inductive Tk where
 |a (x:At)|s (x:Sg)|o (x:Op)
noncomputable def At.b:At->List UInt8
 |.i7=>[55]|.i0=>[48]|.im=>[45,50]|.r5=>[46,53]|.sx=>[40,120,41]|.nA=>[47,65]|.nW=>[47,87]|.tr=>[116,114,117,101]|.nu=>[110,117,108,108]
noncomputable def Sg.b:Sg->List UInt8
 |.ob=>[91]|.cb=>[93]|.od=>[60,60]|.cd=>[62,62]|.br=>[125]
noncomputable def Op.b:Op->List UInt8
 |.q=>[113]|.Tj=>[84,106]|.R=>[82]|.pr=>[39]|.Ts=>[84,42]|.BX=>[66,88]|.f=>[102]|.BI=>[66,73]|.ID=>[73,68]|.Q=>[81]
noncomputable def Tk.b:Tk->List UInt8
 |.a x=>x.b|.s x=>x.b|.o x=>x.b
theorem gl(hp:List PO)(o:PO):(hp++[o])[hp.length]?=some o:=iU
theorem sl(hp:List PO)(o p:PO):(hp++[o]).set hp.length p=hp++[p]:=by rw[xi _ _ (aC _),kG];rfl
section
variable{m:Nat}{loc:List (Option PV)}
theorem t7{l:List (Option PV)}(h:∀hp,Sf old (aY old (k+1)) ⟨[some (.bytes w),none,none,none,none,none],hp⟩=.ok (.ret v) ⟨l,hp⟩):Ev (aY old (k+2) (.obj (.ref 303)) [.bytes w]) st v:=by
 obtain⟨_,_,e,rfl,rfl⟩:=(Qk (old:=old) (k:=k+1) (x0:=.bytes w) (E:=λ_ _=>False) (Q:=λu s=>u=v/\s=st) (st:=st) (X.ok (h st.hp) ⟨rfl,rfl⟩)).run;exact e
theorem ð(o:Op):Ev (aY old (k+2) (.obj (.ref 303)) [.bytes o.b]) st .none:=by
 exact t7 (l:=[some (.bytes o.b),some (.int 0),some (.int 0),some (.int 0),some (.int (-1)),some (.int (o.b.headD 0).toNat)]) λhp=>by cases o<;>kernel_rfl
theorem ñ:Ev (aY old (k+2) (.obj (.ref 303)) [.bytes At.tr.b]) st .none:=t7 (l:=[some (.bytes At.tr.b),some (.int 0),some (.int 0),some (.int 0),some (.int (-1)),some (.int 116)]) λhp=>by kernel_rfl
theorem ò:Ev (aY old (k+2) (.obj (.ref 303)) [.bytes At.nu.b]) st .none:=t7 (l:=[some (.bytes At.nu.b),some (.int 0),some (.int 0),some (.int 0),some (.int (-1)),some (.int 110)]) λhp=>by kernel_rfl
theorem ï:Ev (aY old (k+2) (.obj (.ref 303)) [.bytes At.i7.b]) st (.int 7):=t7 (l:=[some (.bytes At.i7.b),some (.int 0),some (.int 7),some (.int 1),some (.int (-1)),some (.int 55)]) λhp=>by kernel_rfl
theorem í:Ev (aY old (k+2) (.obj (.ref 303)) [.bytes At.i0.b]) st (.int 0):=t7 (l:=[some (.bytes At.i0.b),some (.int 0),some (.int 0),some (.int 1),some (.int (-1)),some (.int 48)]) λhp=>by kernel_rfl
theorem ó:Ev (aY old (k+2) (.obj (.ref 303)) [.bytes At.im.b]) st (.int (-2)):=t7 (l:=[some (.bytes At.im.b),some (.int 1),some (.int (-2)),some (.int 1),some (.int (-1)),some (.int 50)]) λhp=>by kernel_rfl
theorem X.red{m m':M α}{st':St}{Q:α->St->Prop}(e:m st=m' st')(h:X m' st' Q E):X m st Q E:=by
 unfold X;rw[e];exact h
theorem X.app{o a:M PV}{b:M PF}{l:List PV}(ho:Ev o st (.ref c))(e:st.hp[c]?=some (.list l))(ha:Ev a st v)(z:sz l.length=ah)(h:X b ⟨st.loc,st.hp.set c (.list (l++[v]))⟩ QF E):X (aq (mR (bV (aY old (k+1)) o "append" (aa a (pure [])))) b) st QF E:=
 X.ex (X.fh ho (Ev.mL (id:="list.append") e rfl) (Ev.cons ha Ev.nil) (X.ok (a:=.none) (s:=⟨st.loc,st.hp.set c (.list (l++[v]))⟩) (by
  show gC (.ref c) v st=_;unfold gC;simp only[e,z,if_true]) h))
theorem X.AJ{o a:M PV}{b:M PF}{l0:List PV}(ho:Ev o st (.ref c))(e:st.hp[c]?=some (.list l0))(h:X a st (λv s=>∃l,s.hp[c]?=some (.list l)/\sz l.length=ah/\X b ⟨s.loc,s.hp.set c (.list (l++[v]))⟩ QF E) E):X (aq (mR (bV (aY old (k+1)) o "append" (aa a (pure [])))) b) st QF E:=
 X.ex (X.EU ho (Ev.mL (id:="list.append") e rfl) (X.cX (h.mono (λv s ⟨l,e,z,h⟩=>X.ok (a:=[]) rfl (X.ok (a:=.none) (s:=⟨s.loc,s.hp.set c (.list (l++[v]))⟩) (by
  show gC (.ref c) v s=_;unfold gC;simp only[e,z,if_true]) h)) λ_ _ e=>e)))
theorem A9(q:Q (.ref st.hp.length) ⟨st.loc,st.hp++[.inst 285 [.int 5,.int 1]]⟩):X (aY old (k+1) (.obj (.ref 285)) [.int 5,.int 1]) st Q E:=by
 refine WU ?_;unfold Se;refine X.seq (X.dt (t:=aj) (by unfold Ev;kernel_rfl) (λe=>nomatch e) λ_=>K.nx ?_);refine X.rR (c:=st.hp.length) (v:=.int 5) rfl rfl (gl _ _) (by kernel_rfl) ?_;rw[sl];refine X.rR (c:=st.hp.length) (v:=.int 1) rfl rfl (gl _ _) (by kernel_rfl) ?_;rw[sl];exact X.nx (Rt.nx ⟨rfl,q⟩)
theorem î(q:Q (.ref st.hp.length) ⟨st.loc,st.hp++[.inst 285 [.int 5,.int 1]]⟩):X (aY old (k+2) (.obj (.ref 303)) [.bytes At.r5.b]) st Q E:=by
 refine Qk ?_;refine X.red (m':=aq (bw (aY old (k+1) (.obj (.ref 285)) [.int 5,.int 1])) (pure .next)) (st':=⟨[some (.bytes At.r5.b),some (.int 0),some (.int 5),some (.int 1),some (.int 1),some (.int 53)],st.hp⟩) (by kernel_rfl) ?_;exact X.ret (A9 (Rt.rt q))
theorem ED{l:List PV}{ss:List Str}(e:st.hp[c]?=some (.list l))(z:sz l.length=ah)(es:strsOf l=some ss)(o:(ss.all λs=>s.length==1)=ah):Ev (aY old (k+1) (.obj (.builtin "str.join")) [.str "",.ref c]) st (.str ⟨(ss.flatMap λs=>s.cps.toList).toArray⟩):=by
 show pF (.str "") (.ref c) st=_;delta pF;dsimp only;simp only[e,z,es,if_true];rw[if_pos ⟨rfl,o⟩]
theorem I1{b:UInt8}{at_:Int}(hb:b=65\/b=87)(q:∀o,Q (.str ⟨#[b.toNat]⟩) ⟨st.loc,st.hp++[o]⟩):X (aY old (k+2) (.obj (.ref 326)) [.bytes [b],.int at_]) st Q E:=by
 refine Vq ?_;unfold Sh;refine X.dm (X.list rfl rfl ?_);refine X.hY rfl (X.seq (X.dt (t:=ah) (by unfold Ev;kernel_rfl) (λ_=>?_) λe=>nomatch e));refine X.hY (v:=.int b.toNat) rfl (X.hY (v:=.int 1) rfl (X.gF (t:=aj) (by rcases hb with rfl|rfl<;>(unfold Ev;kernel_rfl)) rfl (X.nx (K.nx (X.gF (t:=aj) (by rcases hb with rfl|rfl<;>(unfold Ev;kernel_rfl)) rfl (X.nx (K.nx ?_)))))));refine X.app (c:=st.hp.length) (v:=.str ⟨#[b.toNat]⟩) rfl (gl _ _) (by rcases hb with rfl|rfl<;>(unfold Ev;kernel_rfl)) rfl ?_;rw[sl];refine X.nx (Lp.nx (X.dt (t:=aj) (by unfold Ev;kernel_rfl) (λe=>nomatch e) λ_=>K.nx ?_));exact X.c6 (Ev.fh rfl rfl rfl (ED (gl _ _) rfl rfl rfl)) (Rt.rt (q _))
end
def Upd(S:List Nat)(hp ay:List PO):Prop:=hp.length<=ay.length/\∀(a:Nat) (o:PO),hp[a]?=some o->a∉S->ay[a]?=some o
theorem Upd.refl(S:List Nat)(hp:List PO):Upd S hp hp:=⟨aC _,λ_ _ h _=>h⟩
theorem Upd.trans{a b c:List PO}(x:Upd S a b)(y:Upd S b c):Upd S a c:=⟨ai x.1 y.1,λn o h k=>y.2 n o (x.2 n o h k) k⟩
theorem Upd.mono{T:List Nat}{a b:List PO}(x:Upd S a b)(h:∀n,n∈S->n∈T):Upd T a b:=⟨x.1,λn o e k=>x.2 n o e λz=>k (h n z)⟩
theorem Upd.nil{a b:List PO}(x:Upd [] a b):Upd S a b:=x.mono λ_ h=>nomatch h
theorem Upd.push(hp:List PO)(o:PO):Upd S hp (hp++[o]):=⟨by simp only[av];exact aF _ _,λ_ _ h _=>by rw[bh (ak.mp h).1];exact h⟩
theorem Upd.set(hp:List PO)(o:PO)(h:c∈S):Upd S hp (hp.set c o):=⟨by simp only[eL];exact aC _,λn _ e k=>by rw[fR (λz=>k (by simp only[<-z];exact h))];exact e⟩
theorem HC.upd(h:HC hp c d n)(u:Upd S hp ay)(k:c∉S):HC ay c d n:=⟨u.2 _ _ h.at_ k,h.sz⟩
section
variable{m:Nat}{r:List UInt8}{loc:List (Option PV)}{at_:Nat}
theorem tM(e:d.drop n=w++r):∀j,j<w.length->d[n+j]?=w[j]?:=λj hj=>by
 rw[<-List.getElem?_drop,e,bh hj]
theorem oE(e:d.drop n=w++r)(hw:0<w.length):n+w.length<=d.length:=by
 have:=congrArg js e;simp only[cB,av] at this;have h0:=this▸aB hw (aF _ _);exact bz n _▸Ar (aT (GX h0)) (this▸aF _ _)
theorem nI{b:UInt8}(e:d[n]?=some b):pk d n=(b.toNat:Int):=by unfold pk;rw[e]
theorem y9{l:List PV}{b:List UInt8}(e:st.hp[c]?=some (.list l))(z:sz l.length=ah)(eb:bytesOf l=some b):Ev (aY old (k+1) (.obj (.type "bytes")) [.ref c]) st (.bytes b):=by
 show qN (.ref c) st=_;unfold qN;simp only[e,z,eb,if_true]
theorem By(h:HC st.hp c d (n+1))(e:d.drop (n+1)=[120,41]++r)(q:∀o,Q (.bytes [120]) ⟨st.loc,(st.hp++[o]).set c (cur d (n+3))⟩):X (aY old (k+4) (.obj (.ref 347)) [.ref c]) st Q E:=by
 have e0:d[n+1]?=some 120:=tM e 0 (by decide);have e1:d[n+1+1]?=some 41:=tM e 1 (by decide);have hl:n+1+2<=d.length:=oE e (by decide);refine Vt ?_;unfold Si;have h':HC (St.hp ⟨[some (.ref c),none,none,none,none],st.hp⟩) c d (n+1):=h;refine X.hY (Ev.B (Ev.at_ rfl (Ev.attr h.at_ q8 rfl rfl)) rfl Ev.XW) (X.dm (X.list rfl rfl (X.hY rfl ?_)));have h1:∀o,HC (st.hp++[o]) c d (n+1):=λo=>h.upd (.push (S:=[]) _ _) (by simp)
 have j3:c≠st.hp.length:=aL h.lt;have g1:∀o x,((st.hp++[o]).set c x)[st.hp.length]?=some o:=λo x=>by rw[fR j3,gl]
 refine X.seq (X.sy (X.eT (X.tV (X.fh (v:=.ref c) (vs:=[]) rfl (Ev.m (h1 _).at_ R8) rfl (tR (h1 _) (X.truth (Cn (by rw[decide_eq_false (jj.mpr (dq.mpr (pN hl)))];rfl) ?_)))))));refine X.qp (X.tV (X.fh (v:=.ref c) (vs:=[]) rfl (Ev.m (h1 _).at_ K0) rfl (j9 (h1 _) (by rw[nI e0];rfl) (by rw[nI e0];rfl) (X.truth (C7 rfl (X.nx (K.nx ?_)))))));refine X.dm (X.fh (v:=.ref c) (vs:=[]) rfl (Ev.m (h1 _).at_ BA) rfl (oY (h1 _) e0 ?_));refine X.gF (t:=aj) rfl rfl (X.nx (K.nx (X.gF (t:=aj) rfl rfl (X.nx (K.nx (X.gF (t:=aj) rfl rfl (X.nx (K.nx ?_))))))));refine X.app (c:=st.hp.length) (v:=.int 120) rfl (g1 _ _) rfl rfl (X.nx (Lp.nx ?_));have h2:∀o p,HC (((st.hp++[o]).set c (cur d (n+1+1))).set st.hp.length p) c d (n+1+1):=λo p=>(h1 o).set.upd (Upd.set (S:=[st.hp.length]) _ _ (au.mpr rfl)) (by simpa using j3)
 have g2:∀o x p y,((((st.hp++[o]).set c x).set st.hp.length p).set c y)[st.hp.length]?=some p:=λo x p y=>by rw[fR j3,bb (by simp)]
 refine X.sy (X.eT (X.tV (X.fh (v:=.ref c) (vs:=[]) rfl (Ev.m (h2 _ _).at_ R8) rfl (tR (h2 _ _) (X.truth (Cn (by rw[decide_eq_false (jj.mpr (dq.mpr hl))];rfl) ?_))))));refine X.qp (X.tV (X.fh (v:=.ref c) (vs:=[]) rfl (Ev.m (h2 _ _).at_ K0) rfl (j9 (h2 _ _) (by rw[nI e1];rfl) (by rw[nI e1];rfl) (X.truth (C7 rfl (X.nx (K.nx ?_)))))));refine X.dm (X.fh (v:=.ref c) (vs:=[]) rfl (Ev.m (h2 _ _).at_ BA) rfl (oY (h2 _ _) e1 ?_));refine X.gF (t:=aj) rfl rfl (X.nx (K.nx (X.gF (t:=aj) rfl rfl (X.nx (K.nx (X.nq (t:=ah) rfl rfl (X.hY rfl (X.nq (t:=ah) rfl rfl ?_))))))));refine X.c6 (v:=.bytes [120]) (Ev.call (vs:=[.ref st.hp.length]) rfl rfl (y9 (g2 _ _ _ _) rfl rfl)) (K.rt (K.rt (Lp.rt (K.rt (Rt.rt ?_)))))
 ·have z:=q (.list ([]++[.int 120]));simp only[show((((st.hp++[PO.list []]).set c (cur d (n+1+1))).set st.hp.length (PO.list ([]++[.int 120]))).set c (cur d (n+1+1+1)))=(st.hp++[PO.list ([]++[.int 120])]).set c (cur d (n+3)) from by rw[List.set_comm _ _ j3,sl,gN]];exact z
theorem vq{x y:UInt8}{l:List UInt8}(e:d.drop n=x::l)(h:(x==y)=aj):jd d n (y::w)=aj:=by
 unfold jd;simp only[e,cA,List.take_succ_cons,List.cons_beq_cons,h,Bool.false_and,JU]
theorem Jv(hw:0<w.length)(e:d.drop n=w++r):jd d n w=ah:=by
 unfold jd;simp only[e,List.take_left,decide_eq_true (oE e hw)];exact beq_self_eq_true w
theorem qq(e:d.drop n=w++r)(hw:w.all gG=ah)(hr:r.takeWhile gG=[]):(d.drop n).takeWhile gG=w:=by
 simp only[e,List.takeWhile_append_of_pos λx hx=>a6.mp hw x hx,hr,c5]
theorem yQ(h:HC st.hp c d n)(e:d.drop n=w++r)(h0:0<w.length)(hw:w.all gG=ah)(hr:r.takeWhile gG=[])(rd:∀st,Ev (aY old (k+2) (.obj (.ref 303)) [.bytes w]) st .none)
 (q:Q (.tup [.str "word",.bytes w,.int at_]) ⟨st.loc,st.hp.set c (cur d (n+w.length))⟩):X (aY old (k+3) (.obj (.ref 359)) [.ref c,.int at_]) st Q E:=by
 have er:=qq e hw hr;refine Ml (X.dm (X.fh (v:=.ref c) (vs:=[]) rfl (Ev.m h.at_ zE) rfl (gH h (ft (oE e h0)) ?_)));exact er.symm▸X.hY (Ev.call rfl rfl (rd _)) (X.nq (Ev.tC rfl rfl (Ev.RI rfl)) rfl (X.c6 (Ev.tup (l:=[.str "word",.bytes w,.int at_]) rfl rfl) (K.rt (Rt.rt q))))
theorem E_{i:Int}(h:HC st.hp c d n)(e:d.drop n=w++r)(h0:0<w.length)(hw:w.all gG=ah)(hr:r.takeWhile gG=[])(rd:∀st,Ev (aY old (k+2) (.obj (.ref 303)) [.bytes w]) st (.int i))
 (q:Q (.tup [.str "int",.int i,.int at_]) ⟨st.loc,st.hp.set c (cur d (n+w.length))⟩):X (aY old (k+3) (.obj (.ref 359)) [.ref c,.int at_]) st Q E:=by
 have er:=qq e hw hr;refine Ml (X.dm (X.fh (v:=.ref c) (vs:=[]) rfl (Ev.m h.at_ zE) rfl (gH h (ft (oE e h0)) ?_)));exact er.symm▸X.hY (Ev.call rfl rfl (rd _)) (X.gF (Ev.tC rfl rfl (Ev.RI rfl)) rfl (X.nx (K.nx (X.nq (t:=ah) (Ev.tV (Ev.call (vs:=[.int i,.obj (.type "int")]) rfl rfl (by unfold Ev;kernel_rfl))) rfl (X.c6 (Ev.tup (l:=[.str "int",.int i,.int at_]) rfl rfl) (K.rt (Rt.rt q)))))))
theorem Ez{cl:Nat}{b:Bool}(g:st.hp[m]?=some (.inst cl fs))(h:lW.contains cl=ah)(h2:(kW.contains (.ref cl)&&kW.contains T)=ah)(hb:oM (.ref cl) T=b):Ev (yj (.ref m) (.obj T)) st (.bool b):=by
 delta Ev yj;have:nQ st (.ref m)=some (.ref cl):=by unfold nQ;simp only[g,h,if_true]
 rw[this];simp only[h2,if_true,hb]
theorem N5(h:HC st.hp c d n)(e:d.drop n=At.r5.b++r)(hr:r.takeWhile gG=[])
 (q:Q (.tup [.str "real",.ref st.hp.length,.int at_]) ⟨st.loc,st.hp.set c (cur d (n+2))++[.inst 285 [.int 5,.int 1]]⟩):X (aY old (k+3) (.obj (.ref 359)) [.ref c,.int at_]) st Q E:=by
 have er:=qq e rfl hr;refine Ml (X.dm (X.fh (v:=.ref c) (vs:=[]) rfl (Ev.m h.at_ zE) rfl (gH h (ft (oE e (by decide))) ?_)));rw[er];have hl:(st.hp.set c (cur d (n+At.r5.b.length))).length=st.hp.length:=eL;rw[<-hl] at q;refine X.dm (X.call (vs:=[.bytes At.r5.b]) rfl rfl ?_)
 with_reducible refine î (k:=k) ?_
 exact X.gF (Ev.tC rfl rfl (Ev.RI rfl)) rfl (X.nx (K.nx (X.gF (t:=aj) (Ev.tV (Ev.call (vs:=[.ref _,.obj (.type "int")]) rfl rfl (Ez (gl _ _) rfl rfl rfl))) rfl (X.nx (K.nx (X.c6 (Ev.tup (l:=[.str "real",.ref _,.int at_]) rfl rfl) (Rt.rt q)))))))
noncomputable def At.kd:At->Str
 |.i7=>"int"|.i0=>"int"|.im=>"int"|.r5=>"real"|.sx=>"string"|.nA=>"name"|.nW=>"name"|.tr=>"word"|.nu=>"word"
noncomputable def Tk.kd:Tk->Str
 |.a x=>x.kd|.s _=>"sign"|.o _=>"word"
noncomputable def At.wo:At->PV
 |.i7=>.int 7|.i0=>.int 0|.im=>.int (-2)|.r5=>.none|.sx=>.bytes [120]|.nA=>.str "A"|.nW=>.str "W"|.tr=>.bytes [116,114,117,101]|.nu=>.bytes [110,117,108,108]
noncomputable def Tk.wo:Tk->PV
 |.a x=>x.wo|.s x=>.bytes x.b|.o x=>.bytes x.b
def Vd(lo:Nat)(hp:List PO)(t:Tk)(v:PV):Prop:=(v=t.wo/\t≠.a .r5)\/(t=.a .r5/\∃a,v=.ref a/\lo<=a/\hp[a]?=some (.inst 285 [.int 5,.int 1]))
def y6(c:Nat)(d:List UInt8)(at_:Nat)(t:Tk)(st:St)(Q:PV->St->Prop):Prop:=
 ∀ay v,Upd [c] st.hp ay->HC ay c d (at_+t.b.length)->Vd st.hp.length ay t v->Q (.tup [.str t.kd,v,.int at_]) ⟨st.loc,ay⟩
theorem y6.set(h:HC st.hp c d n)(hv:t≠.a .r5)(q:y6 c d at_ t st Q):Q (.tup [.str t.kd,t.wo,.int at_]) ⟨st.loc,st.hp.set c (cur d (at_+t.b.length))⟩:=
 q _ _ (.set _ _ (au.mpr rfl)) h.set (.inl ⟨rfl,hv⟩)
theorem y6.upd{l:List (Option PV)}(u:Upd [c] st.hp ay)(q:y6 c d at_ t st Q):y6 c d at_ t ⟨l,ay⟩ λv s=>Q v ⟨st.loc,s.hp⟩:=λh v x y z=>q h v (u.trans x) y (by
 rcases z with z|⟨z,a,e,l,g⟩
 ·exact .inl z
 ·exact .inr ⟨z,a,e,ai u.1 l,g⟩)
theorem vo{x:Sg}{y:UInt8}(hy:x.b=[y])(h1:((y.toNat:Int)==47)=aj)(h2:((y.toNat:Int)==40)=aj)(h3:(y==60)=aj)(h4:(y==62)=aj)(h5:((y.toNat:Int)==60)=aj)(h6:rP y.toNat [91,93,123,125]=ah)(h7:bytesOf [.int y.toNat]=some [y])
 (h:HC st.hp c d at_) (e:d.drop at_=y::r) (q:y6 c d at_ (.s x) st Q):X (aY old (k+4) (.obj (.ref 366)) [.ref c,.int y.toNat,.int at_]) st Q E:=by
 have e0:d[at_]?=some y:=tM (w:=[y]) e 0 (aO 0);refine HG (X.gF (Ev.tC rfl rfl Ev.pU) h1 (X.nx (K.nx (X.gF (Ev.tC rfl rfl Ev.pU) h2 (X.nx (K.nx ?_))))));refine X.qp (X.tV (X.fh (v:=.ref c) (vs:=[.bytes [60,60]]) rfl (Ev.m h.at_ EY) rfl (sf h rfl (λ_=>X.truth (C7 rfl (X.nx (K.nx ?_)))) λz=>by rw[vq e h3] at z;cases z)));refine X.qp (X.tV (X.fh (v:=.ref c) (vs:=[.bytes [62,62]]) rfl (Ev.m h.at_ EY) rfl (sf h rfl (λ_=>X.truth (C7 rfl (X.nx (K.nx ?_)))) λz=>by rw[vq e h4] at z;cases z)));refine X.gF (Ev.tC rfl rfl Ev.pU) h5 (X.nx (K.nx (X.nq (Ev.tC rfl rfl (Ev.UG [91,93,123,125])) h6 (X.ex (X.fh (v:=.ref c) (vs:=[]) rfl (Ev.m h.at_ BA) rfl (oY h e0 ?_))))));refine X.ret (X.tup (X.jz rfl (X.cX (X.iw rfl (X.cX (X.list (l:=[.int y.toNat]) rfl rfl (X.ev Ev.nil (X.ev (y9 (gl _ _) rfl h7) (X.ev (Ev.cons rfl Ev.nil) ⟨rfl,K.rt (Rt.rt ?_)⟩)))))))))
 ·have z:=q ((st.hp.set c (cur d (at_+1)))++[.list [.int y.toNat]]) (.bytes [y]) ((Upd.set _ _ (au.mpr rfl)).trans (.push _ _)) (by rw[show(Tk.s x).b=[y] from hy];exact(h.set (m:=at_+1)).upd (Upd.push (S:=[]) _ _) (nofun)) (.inl ⟨congrArg PV.bytes hy.symm,nofun⟩);exact z
theorem z_{x:Sg}{y:UInt8}(hy:x.b=[y,y])(h1:((y.toNat:Int)==47)=aj)(h2:((y.toNat:Int)==40)=aj)(hx:y=60\/y=62)
 (h:HC st.hp c d at_) (e:d.drop at_=[y,y]++r) (q:y6 c d at_ (.s x) st Q):X (aY old (k+4) (.obj (.ref 366)) [.ref c,.int y.toNat,.int at_]) st Q E:=by
 have q:=y6.set (t:=.s x) h (by intro z;cases z) q;have hs:=Jv (w:=[y,y]) (ec _) e;simp only[Tk.b,Tk.kd,Tk.wo,hy] at q;refine HG (X.gF (Ev.tC rfl rfl Ev.pU) h1 (X.nx (K.nx (X.gF (Ev.tC rfl rfl Ev.pU) h2 (X.nx (K.nx ?_))))));rcases hx with rfl|rfl
 ·refine X.qp (X.tV (X.fh (v:=.ref c) (vs:=[.bytes [60,60]]) rfl (Ev.m h.at_ EY) rfl (sf h rfl (λz=>by rw[hs] at z;cases z) λ_=>X.truth (Cn rfl ?_))));exact X.c6 (Ev.tup (l:=[.str "sign",.bytes [60,60],.int at_]) rfl rfl) (K.rt (Rt.rt q))
 ·refine X.qp (X.tV (X.fh (v:=.ref c) (vs:=[.bytes [60,60]]) rfl (Ev.m h.at_ EY) rfl (sf h rfl (λ_=>X.truth (C7 rfl (X.nx (K.nx ?_)))) λz=>by rw[vq e rfl] at z;cases z)));refine X.qp (X.tV (X.fh (v:=.ref c) (vs:=[.bytes [62,62]]) rfl (Ev.m h.at_ EY) rfl (sf h rfl (λz=>by rw[hs] at z;cases z) λ_=>X.truth (Cn rfl ?_))));exact X.c6 (Ev.tup (l:=[.str "sign",.bytes [62,62],.int at_]) rfl rfl) (K.rt (Rt.rt q))
theorem SD{x:At}{b:UInt8}(hb:b=65\/b=87)(hx:x.b=[47,b])(hv:x.wo=.str ⟨#[b.toNat]⟩)(hk:x.kd="name")(h:HC st.hp c d at_)(e:d.drop at_=[47,b]++r)(hr:r.takeWhile gG=[])(q:y6 c d at_ (.a x) st Q):
 X (aY old (k+4) (.obj (.ref 366)) [.ref c,.int 47,.int at_]) st Q E:=by
 have e0:d[at_]?=some 47:=tM e 0 (ec _);have e2:d.drop (at_+1)=[b]++r:=by rw[<-cK,e];rfl
 have hw:[b].all gG=ah:=by rcases hb with rfl|rfl<;>decide+kernel
 have er:=qq e2 hw hr;refine HG (X.nq (Ev.tC rfl rfl Ev.pU) rfl (X.ex (X.fh (v:=.ref c) (vs:=[]) rfl (Ev.m h.at_ BA) rfl (oY h e0 ?_))));have h1:HC (st.hp.set c (cur d (at_+1))) c d (at_+1):=h.set;refine X.ret (X.tup (X.jz rfl (X.cX (X.iw rfl (X.cX (X.fh (v:=.ref c) (vs:=[]) rfl (Ev.m h1.at_ zE) rfl (gH h1 (ft (oE e2 (ec _))) ?_)))))));simp only[er,gN];refine X.ev (Ev.cons rfl Ev.nil) (I1 hb λo=>X.ev (Ev.cons rfl Ev.nil) ⟨rfl,K.rt (Rt.rt ?_)⟩);have z:=q ((st.hp.set c (cur d (at_+1+1)))++[o]) (.str ⟨#[b.toNat]⟩) ((Upd.set _ _ (au.mpr rfl)).trans (.push _ _)) (by rw[show(Tk.a x).b=[47,b] from hx];exact(h.set (m:=at_+1+1)).upd (Upd.push (S:=[]) _ _) (nofun)) (.inl ⟨hv.symm,λz=>by cases z;cases hk⟩);rw[show(Tk.a x).kd="name" from hk] at z;exact z
theorem Tn(h:HC st.hp c d at_)(e:d.drop at_=[40,120,41]++r)(q:y6 c d at_ (.a .sx) st Q):
 X (aY old (k+5) (.obj (.ref 366)) [.ref c,.int 40,.int at_]) st Q E:=by
 have e0:d[at_]?=some 40:=tM e 0 (by decide);have e2:d.drop (at_+1)=[120,41]++r:=by rw[<-cK,e];rfl
 refine HG (X.gF (Ev.tC rfl rfl Ev.pU) rfl (X.nx (K.nx (X.nq (Ev.tC rfl rfl Ev.pU) rfl (X.ex (X.fh (v:=.ref c) (vs:=[]) rfl (Ev.m h.at_ BA) rfl (oY h e0 ?_)))))));have h1:HC (st.hp.set c (cur d (at_+1))) c d (at_+1):=h.set;refine X.ret (X.tup (X.jz rfl (X.cX (X.call (vs:=[.ref c]) rfl rfl (By h1 e2 λo=>X.ev (Ev.cons rfl Ev.nil) ⟨rfl,K.rt (Rt.rt ?_)⟩)))));rw[yW _ _ (by simp only[eL];exact h.lt),gN];exact q ((st.hp.set c (cur d (at_+3)))++[o]) (.bytes [120]) ((Upd.set _ _ (au.mpr rfl)).trans (.push _ _)) ((h.set (m:=at_+3)).upd (Upd.push (S:=[]) _ _) (nofun)) (.inl ⟨rfl,nofun⟩)
end
set_option backward.match.sparseCases false
section
variable{m:Nat}{r:List UInt8}{loc:List (Option PV)}{at_:Nat}
theorem Op.ô(o:Op):o.b.all gG=ah:=by cases o<;>decide+kernel
theorem Tk.ne(t:Tk):0<t.b.length:=by rcases t with x|x|x<;>cases x<;>exact ec _
noncomputable def Nl:Tk->Bool
 |.s _=>ah
 |.o _=>aj
 |.a x=>match x with
  |.sx=>ah
  |.nA=>ah
  |.nW=>ah
  |_=>aj
noncomputable abbrev Y8:M Bool:=(hJ (tC .Eq (af 2) (pure (.int 47))) (hJ (tC .Eq (af 2) (pure (.int 40))) (hJ (tC .Eq (af 2) (pure (.int 41))) (hJ (tC .Eq (af 2) (pure (.int 60))) (hJ (tC .Eq (af 2) (pure (.int 62))) (hJ (tC .In (af 2) (pure (.tup [.int 91,.int 93,.int 123,.int 125]))) (pure aj)))))))
theorem Zv{o0:Option PV}(t:Tk):Ev Y8 ⟨[o0,o1,some (.int (t.b.headD 0).toNat)],hp⟩ (Nl t):=by
 rcases t with x|x|x<;>cases x<;>rfl
theorem Ow(t:Tk)(hd:Nl t=ah)(h1:HC st.hp c d at_)(e:d.drop at_=t.b++r)(hr:r.takeWhile gG=[])(q:y6 c d at_ t st Q):X (aY old (k+5) (.obj (.ref 366)) [.ref c,.int (t.b.headD 0).toNat,.int at_]) st Q E:=by
 rcases t with x|x|x
 ·cases x
  case sx=>exact Tn h1 e q
  case nA=>exact SD (.inl rfl) rfl rfl rfl h1 e hr q
  case nW=>exact SD (.inr rfl) rfl rfl rfl h1 e hr q
  all_goals exact nB hd
 ·cases x
  case ob=>exact vo (y:=91) rfl rfl rfl rfl rfl rfl rfl rfl h1 e q
  case cb=>exact vo (y:=93) rfl rfl rfl rfl rfl rfl rfl rfl h1 e q
  case br=>exact vo (y:=125) rfl rfl rfl rfl rfl rfl rfl rfl h1 e q
  case od=>exact z_ (y:=60) rfl rfl rfl (.inl rfl) h1 e q
  case cd=>exact z_ (y:=62) rfl rfl rfl (.inr rfl) h1 e q
 ·exact nB hd
theorem Ox(t:Tk)(hd:Nl t=aj)(h1:HC st.hp c d at_)(e:d.drop at_=t.b++r)(hr:r.takeWhile gG=[])(q:y6 c d at_ t st Q):X (aY old (k+5) (.obj (.ref 359)) [.ref c,.int at_]) st Q E:=by
 rcases t with x|x|x
 ·cases x
  case r5=>
   refine N5 h1 e hr (q _ _ ((Upd.set _ _ (au.mpr rfl)).trans (.push _ _)) ((h1.set (m:=at_+2)).upd (Upd.push (S:=[]) _ _) aJ) (.inr ⟨rfl,_,rfl,aC _,?_⟩));have z:=gl (st.hp.set c (cur d (at_+2))) (.inst 285 [.int 5,.int 1]);rw[eL] at z;exact z
  case tr=>exact yQ h1 e (ec _) (by decide+kernel) hr (λ_=>ñ) (q.set (t:=.a .tr) h1 (λz=>nomatch z))
  case nu=>exact yQ h1 e (ec _) (by decide+kernel) hr (λ_=>ò) (q.set (t:=.a .nu) h1 (λz=>nomatch z))
  case i7=>exact E_ h1 e (ec _) (by decide+kernel) hr (λ_=>ï) (q.set (t:=.a .i7) h1 (λz=>nomatch z))
  case i0=>exact E_ h1 e (ec _) (by decide+kernel) hr (λ_=>í) (q.set (t:=.a .i0) h1 (λz=>nomatch z))
  case im=>exact E_ h1 e (ec _) (by decide+kernel) hr (λ_=>ó) (q.set (t:=.a .im) h1 (λz=>nomatch z))
  all_goals exact nB hd.symm
 ·exact nB hd.symm
 ·exact yQ h1 e (Tk.ne (.o x)) x.ô hr (λ_=>ð x) (q.set (t:=.o x) h1 (λz=>nomatch z))
theorem Wg(t:Tk):t.b[0]?=some (t.b.headD 0):=by rcases t with x|x|x<;>cases x<;>rfl
theorem E6(t:Tk)(h:HC st.hp c d n)(hs:n+kB aj (d.drop n)=at_)(e:d.drop at_=t.b++r)(hr:r.takeWhile gG=[])(q:y6 c d at_ t st Q):X (aY old (k+6) (.obj (.ref 373)) [.ref c]) st Q E:=by
 have hp0:pk d at_=((t.b.headD 0).toNat:Int):=nI ((tM e 0 t.ne).trans (Wg t));refine Ql (X.ex (X.fh (v:=.ref c) (vs:=[]) rfl (Ev.m h.at_ KZ) rfl (nK h ?_)));rw[hs];have h1:HC (st.hp.set c (cur d at_)) c d at_:=h.set;refine X.hY (Ev.at_ rfl (Ev.attr h1.at_ q8 rfl rfl)) (X.dm (X.fh (v:=.ref c) (vs:=[]) rfl (Ev.m h1.at_ EX) rfl (r_ h1 ?_)));rw[hp0];have q:=y6.upd (l:=[some (.ref c),some (.int at_),some (.int (t.b.headD 0).toNat)]) (Upd.set _ (cur d at_) (au.mpr rfl)) q;generalize st.hp.set c (cur d at_)=mh at*;refine X.gF (Ev.tC rfl (Ev.m_ rfl) Ev.pU) rfl (X.nx (K.nx (X.tP (Zv t) (λhd=>X.ret ?_) λhd=>X.nx (K.nx (X.ret ?_)))))
 ·exact X.call (vs:=[.ref c,.int (t.b.headD 0).toNat,.int at_]) rfl rfl ((Ow t hd h1 e hr q).mono (λ_ _ q=>K.rt (Rt.rt q)) λ_ _ e=>e)
 ·exact X.call (vs:=[.ref c,.int at_]) rfl rfl ((Ox t hd h1 e hr q).mono (λ_ _ q=>Rt.rt q) λ_ _ e=>e)
theorem Kw(h:HC st.hp c d n)(hs:n+kB aj (d.drop n)=d.length)(q:Q (.tup [.str "end",.bytes [],.int d.length]) ⟨st.loc,st.hp.set c (cur d d.length)⟩):X (aY old (k+6) (.obj (.ref 373)) [.ref c]) st Q E:=by
 refine Ql (X.ex (X.fh (v:=.ref c) (vs:=[]) rfl (Ev.m h.at_ KZ) rfl (nK h ?_)));rw[hs];have h1:HC (st.hp.set c (cur d d.length)) c d d.length:=h.set;refine X.hY (Ev.at_ rfl (Ev.attr h1.at_ q8 rfl rfl)) (X.dm (X.fh (v:=.ref c) (vs:=[]) rfl (Ev.m h1.at_ EX) rfl (r_ h1 ?_)));rw[show pk d d.length=-1 from by unfold pk;rw[dB (aC _)]];exact X.nq (t:=ah) rfl rfl (X.c6 (Ev.tup (l:=[.str "end",.bytes [],.int d.length]) rfl rfl) (K.rt (Rt.rt q)))
end
def xq(P:PV->PV->Prop):List PV->List PV->Prop
 |[],ps=>ps=[]
 |v::vs,ps=>∃p qs,ps=p::qs/\P v p/\xq P vs qs
def CX(k:Nat)(it:It)(j:Nat)(mt:M Bool)(me:M PV)(st:St)(Q:St->Prop):Prop:=match iR k it j mt me st with
 |.ok _ s=>Q s
 |_=>False
section
variable{m:Nat}{r:List UInt8}{loc:List (Option PV)}{mt:M Bool}{me:M PV}{it it':It}
theorem CX.end_(e:cY st it=some none)(q:QS st):CX (k+1) it j mt me st QS:=by
 delta CX;rw[uN];delta vU;rw[e];exact q
theorem CX.step(e:cY st it=some (some (v,it')))(h:X mt ⟨st.loc.set 0 (some v),st.hp⟩ (λb s=>(b=ah->X me s (λy s'=>∃l,s'.hp[j]?=some (.list l)/\sz l.length=ah/\CX k it' j mt me ⟨s'.loc,s'.hp.set j (.list (l++[y]))⟩ QS) (λ_ _=>False))/\(b=aj->CX k it' j mt me s QS)) (λ_ _=>False)):CX (k+1) it j mt me st QS:=by
 delta CX;rw[uN];delta vU;rw[e];dsimp only;delta X at h;dsimp only at h;cases ht:mt ⟨st.loc.set 0 (some v),st.hp⟩ with
 |bad=>rw[ht] at h;exact h
 |exc n s=>rw[ht] at h;exact h
 |ok b s=>
  rw[ht] at h;cases b with
  |false=>exact h.2 rfl
  |true=>
   have h:=h.1 rfl;dsimp only;cases hm:me s with
   |bad=>rw[hm] at h;exact h
   |exc n s=>rw[hm] at h;exact h
   |ok y s'=>
    rw[hm] at h;obtain⟨l,e2,z,h⟩:=h;delta gC;dsimp only;rw[e2];dsimp only;rw[if_pos z];exact h
theorem X.comp{mi:M It}(h:X mi st (λi s=>CX dR i s.hp.length mt me ⟨md ix s.loc,s.hp++[.list []]⟩ λs'=>Q (.ref s.hp.length) ⟨s.loc,s'.hp⟩) E):X (fy ix mi mt me) st Q E:=by
 delta X fy at*;cases hm:mi st with
 |bad=>rw[hm] at h;exact h
 |exc n s=>rw[hm] at h;exact h
 |ok i s=>
  rw[hm] at h;dsimp only at h⊢;delta CX at h;dsimp only at h;cases hc:iR dR i s.hp.length mt me ⟨md ix s.loc,s.hp++[.list []]⟩ with
  |bad=>rw[hc] at h;exact h
  |exc n s=>rw[hc] at h;exact h
  |ok u s'=>rw[hc] at h;exact h
theorem eJ(h:n<=m)(z:sz m=ah):sz n=ah:=decide_eq_true (ai h (of_decide_eq_true z))
theorem CX.each{YW:List PV}{P:PV->PV->Prop}(hz:sz vs.length=ah)(j3:c≠j)(h1:hp0[c]?=some (.list vs))
 (ht:∀v p,P v p->∀ay,Upd [j] hp0 ay->Ev mt ⟨some v::l0,ay⟩ ah) (hf:∀v p,P v p->∀ay,Upd [j] hp0 ay->∀Q:PV->St->Prop,(∀fb,Upd [] ay fb->Q p ⟨some v::l0,fb⟩)->X me ⟨some v::l0,ay⟩ Q (λ_ _=>False))
 (q:∀ay o,Upd [j] hp0 ay->ay[j]?=some (.list YW)->QS ⟨o::l0,ay⟩) (ws:List PV):
 ∀(ps:List PV) (k:Nat) (o:Option PV) (hp:List PO) (acc:List PV),acc.length+ws.length=vs.length->vs.drop acc.length=ws->ws.length<k->acc++ps=YW->Upd [j] hp0 hp->hp[j]?=some (.list acc)->xq P ws ps->CX k (.list c acc.length) j mt me ⟨o::l0,hp⟩ QS:=by
 induction ws with
 |nil=>
  intro ps k o hp acc hl hd hk ha u h2 fw;subst fw;rw[c5] at ha;cases k with
  |zero=>cases hk
  |succ k=>
   have hv:vs[acc.length]?=none:=dB (bI hl.symm);exact CX.end_ (by simp only[cY,u.2 _ _ h1 (by simpa using j3),hv]) (q hp o u (ha▸h2))
 |cons w ws ih=>
  intro ps k o hp acc hl hd hk ha u h2 ⟨p,qs,e,mh,fw⟩;cases k with
  |zero=>cases hk
  |succ k=>
   rw[e] at ha;have hw:vs[acc.length]?=some w:=by rw[<-gx,hd];rfl
   have G9:(acc++[p]).length=acc.length+1:=av;refine CX.step (v:=w) (it':=.list c (acc.length+1)) (by simp only[cY,u.2 _ _ h1 (by simpa using j3),hw]) (X.ev (ht w p mh hp u) (Cn rfl (hf w p mh hp u _ λfb u'=>⟨acc,u'.2 _ _ h2 nofun,eJ (hl▸aF ..) hz,?_⟩)));rw[<-G9];exact ih qs k (some w) _ (acc++[p]) (by simp only[G9,<-hl,cA,aN,bz 1]) (by rw[G9,<-cK,hd];rfl) (bJ hk) (by rw[cS];exact ha) (u.trans (u'.nil.trans (.set _ _ (au.mpr rfl)))) (bb (ak.mp (u'.2 _ _ h2 nofun)).1) fw
theorem CX.all{ps:List PV}{P:PV->PV->Prop}(hz:vs.length<dR)(j3:c≠j)(h1:hp[c]?=some (.list vs))(h2:hp[j]?=some (.list []))(ha:xq P vs ps)
 (ht:∀v p,P v p->∀ay,Upd [j] hp ay->Ev mt ⟨some v::l0,ay⟩ ah) (hf:∀v p,P v p->∀ay,Upd [j] hp ay->∀Q:PV->St->Prop,(∀fb,Upd [] ay fb->Q p ⟨some v::l0,fb⟩)->X me ⟨some v::l0,ay⟩ Q (λ_ _=>False))
 (q:∀ay o,Upd [j] hp ay->ay[j]?=some (.list ps)->QS ⟨o::l0,ay⟩):CX dR (.list c 0) j mt me ⟨none::l0,hp⟩ QS:=
 CX.each (eJ (aT hz) (m:=dR) rfl) j3 h1 ht hf q vs ps dR none hp [] (aZ _) rfl hz rfl (.refl _ _) h2 ha
theorem Upd.drop{o:PO}(u:Upd [hp.length] (hp++[o]) ay):Upd [] hp ay:=⟨ai (by simp) u.1,λa o e _=>by
 have ha:=(ak.mp e).1;exact u.2 a o (by rw[bh ha];exact e) (by simp;lia)⟩
theorem X.each{ps:List PV}{P:PV->PV->Prop}{mi:M It}(hi:Ev mi st (.list c 0))(h1:st.hp[c]?=some (.list vs))(hz:vs.length<dR)(ha:xq P vs ps)
 (hf:∀v p,P v p->∀ay,Upd [] st.hp ay->∀Q:PV->St->Prop,(∀fb,Upd [] ay fb->Q p ⟨some v::ix.map λi=>(st.loc[i]?).join,fb⟩)->X me ⟨some v::ix.map λi=>(st.loc[i]?).join,ay⟩ Q (λ_ _=>False))
 (q:∀ay,Upd [] st.hp ay->ay[st.hp.length]?=some (.list ps)->Q (.ref st.hp.length) ⟨st.loc,ay⟩):X (fy ix mi (pure ah) me) st Q E:=by
 have hc:=(ak.mp h1).1;exact X.comp (X.ev hi (CX.all hz (aL hc) (by rw[bh hc];exact h1) (gl _ _) ha (λ_ _ _ _ _=>rfl) (λv p hv ay u=>hf v p hv ay u.drop) λay o u g=>q ay u.drop g))
end
inductive Tr where
 |a (x:At)|arr (l:List Tr)|Dv (ks:List Str) (l:List Tr)|s (b:List UInt8)
noncomputable def At.told:At->List PV
 |.i7=>[.str "int",.int 7]|.i0=>[.str "int",.int 0]|.im=>[.str "int",.int (-2)]|.r5=>[.str "real",.int 5,.int 1]|.sx=>[.str "string",.bytes [120]]
 |.nA=>[.str "name",.str "A"]|.nW=>[.str "name",.str "W"]|.tr=>[.str "truth",.int 1]|.nu=>[.str "null"]
mutual
noncomputable def Tr.told:Tr->PV
 |.a x=>.tup x.told
 |.arr l=>.tup (.str "array"::cU l)
 |.Dv ks l=>.tup (.str "dict"::(ks.zip (cU l)).map λp=>.tup [.str p.1,p.2])
 |.s b=>.tup [.str "string",.bytes b]
noncomputable def cU:List Tr->List PV
 |[]=>[]
 |t::l=>t.told::cU l
end
mutual
noncomputable def Tr.wt:Tr->Nat
 |.a _=>0
 |.arr l=>1+iI l
 |.Dv _ l=>2+iI l
 |.s _=>0
noncomputable def iI:List Tr->Nat
 |[]=>0
 |t::l=>t.wt+iI l
end
def i'(M:List Nat)(hp:List PO)(v:PV)(n:Nat)(fs:List PV):Prop:=∃a,v=.ref a/\a∉M/\hp[a]?=some (.inst n fs)
def xr(M:List Nat)(hp:List PO)(v:PV):At->Prop
 |.i7=>v=.int 7|.i0=>v=.int 0|.im=>v=.int (-2)|.tr=>v=.bool ah|.nu=>v=.none
 |.r5=>i' M hp v 285 [.int 5,.int 1]
 |.sx=>i' M hp v 419 [.bytes [120],.bool aj]
 |.nA=>i' M hp v 397 [.str "A"]
 |.nW=>i' M hp v 397 [.str "W"]
structure PC(M:List Nat)(hp:List PO)(v:PV)(vs:List PV)(a:Nat):Prop where
 e:v=.ref a
 k:a∉M
 g:hp[a]?=some (.list vs)
 z:vs.length<dR
structure PJ(M:List Nat)(hp:List PO)(v:PV)(ks:List Str)(vs:List PV)(a:Nat)(kvs:List (Str×PV)):Prop where
 e:v=.ref a
 k:a∉M
 g:hp[a]?=some (.dict kvs)
 z:kvs.length<64
 z2:ks.length<64
 s:lj (kvs.map λkv=>.str kv.1)=some (ks.map .str)
 m:ks.map (gK kvs)=vs.map some
 n:∀v∈vs,v≠.none
mutual
noncomputable def iu(M:List Nat)(hp:List PO):PV->Tr->Prop
 |v,.a x=>xr M hp v x
 |v,.arr l=>∃vs,(∃a,PC M hp v vs a)/\cj M hp vs l
 |v,.Dv ks l=>∃vs,(∃a kvs,PJ M hp v ks vs a kvs)/\cj M hp vs l
 |v,.s b=>i' M hp v 419 [.bytes b,.bool aj]
noncomputable def cj(M:List Nat)(hp:List PO):List PV->List Tr->Prop
 |vs,[]=>vs=[]
 |vs,t::l=>∃v ws,vs=v::ws/\iu M hp v t/\cj M hp ws l
end
section
variable{M M':List Nat}
theorem cj.map:∀(l:List Tr),(∀t∈l,∀v,iu M hp v t->iu M' ay v t)->∀{vs:List PV},cj M hp vs l->cj M' ay vs l:=by
 intro l;induction l with
 |nil=>exactλ_ _ h=>h
 |cons t l ih=>exactλf _ ⟨v,ws,e,h,k⟩=>⟨v,ws,e,f t (aU ..) v h,ih (λt ht=>f t (aM _ ht)) k⟩
def uy(M M':List Nat)(hp ay:List PO):Prop:=∀a o,a∉M->hp[a]?=some o->a∉M'/\ay[a]?=some o
theorem i'.le(u:uy M M' hp ay):i' M hp v n fs->i' M' ay v n fs:=λ⟨a,e,k,g⟩=>⟨a,e,u a _ k g⟩
theorem xr.le(u:uy M M' hp ay){x:At}(h:xr M hp v x):xr M' ay v x:=by
 cases x<;>first|exact h|exact i'.le u h
theorem iu.le(u:uy M M' hp ay)(t:Tr):∀{v:PV},iu M hp v t->iu M' ay v t:=
 Tr.rec (motive_1:=λt=>∀{v:PV},iu M hp v t->iu M' ay v t) (motive_2:=λl=>∀{vs:List PV},cj M hp vs l->cj M' ay vs l) (λ_ _ h=>xr.le u h)
  (λ_ ih _ ⟨vs,⟨a,h⟩,k⟩=>⟨vs,⟨a,h.e,(u a _ h.k h.g).1,(u a _ h.k h.g).2,h.z⟩,ih k⟩)
  (λ_ _ ih _ ⟨vs,⟨a,kvs,h⟩,k⟩=>⟨vs,⟨a,kvs,h.e,(u a _ h.k h.g).1,(u a _ h.k h.g).2,h.z,h.z2,h.s,h.m,h.n⟩,ih k⟩)
  (λ_ _ h=>i'.le u h) (λh=>h) (λ_ _ Ë RB _ ⟨v,ws,e,h,k⟩=>⟨v,ws,e,Ë h,RB k⟩) t
theorem Upd.le(u:Upd M hp ay):uy M M hp ay:=λa o k g=>⟨k,u.2 a o g k⟩
theorem uy.less(u:∀a,a∉M->a<hp.length->a∉M'):uy M M' hp hp:=λa _ k g=>⟨u a k (ak.mp g).1,g⟩
theorem xr.upd(u:Upd M hp ay){x:At}(h:xr M hp v x):xr M ay v x:=h.le u.le
theorem xr.less(u:∀a,a∉M->a<hp.length->a∉M'){x:At}(h:xr M hp v x):xr M' hp v x:=h.le (.less u)
theorem iu.upd(u:Upd M hp ay)(t:Tr)(h:iu M hp v t):iu M ay v t:=h.le u.le t
theorem iu.less(u:∀a,a∉M->a<hp.length->a∉M')(t:Tr)(h:iu M hp v t):iu M' hp v t:=h.le (.less u) t
theorem cj.le(u:uy M M' hp ay)(l:List Tr):cj M hp vs l->cj M' ay vs l:=cj.map l λt _ _ h=>h.le u t
theorem cj.upd(u:Upd M hp ay)(l:List Tr)(h:cj M hp vs l):cj M ay vs l:=h.le u.le l
theorem cj.less(u:∀a,a∉M->a<hp.length->a∉M')(l:List Tr)(h:cj M hp vs l):cj M' hp vs l:=h.le (.less u) l
theorem cj.snoc{t:Tr}(l:List Tr):∀{vs:List PV},cj M hp vs l->iu M hp v t->cj M hp (vs++[v]) (l++[t]):=by
 induction l with
 |nil=>intro vs h k;rw[show vs=[] from h];exact⟨v,[],rfl,k,rfl⟩
 |cons _ l ih=>intro vs ⟨w,ws,e,h,h2⟩ k;rw[e];exact⟨w,ws++[v],rfl,h,ih h2 k⟩
theorem cj.len(l:List Tr):∀{vs:List PV},cj M hp vs l->vs.length=l.length:=by
 induction l with
 |nil=>intro vs h;rw[show vs=[] from h];rfl
 |cons _ l ih=>intro vs ⟨_,ws,e,_,h⟩;rw[e];exact congrArg (·+1) (ih h)
end
set_option backward.match.sparseCases true
def kS(T:Value):Str:=bif oM T (.type "bool") then"truth" else bif oM T (.type "int") then"int" else bif oM T (.ref 285) then"real" else bif oM T (.ref 397) then"name" else bif oM T (.ref 419) then"string" else bif oM T (.type "list") then"array" else bif oM T (.type "dict") then"dict" else""
section
variable{m:Nat}
theorem Nn{C:Value}(h:nQ st v=some T)(h1:kW.contains T=ah)(h2:kW.contains C=ah)(h0:Ev (af 0) st v):Ev (tV (ax (aY old (k+1)) (pure (.obj (.builtin "isinstance"))) (aa (af 0) (aa (pure (.obj C)) (pure []))))) st (oM T C):=
 Ev.tV (Ev.call (vs:=[v,.obj C]) rfl (h0.cons rfl) (by
  show yj v (.obj C) st=_;unfold yj;simp only[h,h1,h2,Lo,if_true]))
theorem jT(hn:isNone v=aj)(kn:dh v=ah)(h:∀l,nQ ⟨l,st.hp⟩ v=some T)(h1:kW.contains T=ah)(h7:(kS T=="")=aj)(q:Q (.str (kS T)) st):X (aY old (k+2) (.obj (.ref 479)) [v]) st Q E:=by
 refine Qn (X.gF (Ev.tC rfl rfl (Ev.RI kn)) hn (X.nx (K.nx ?_)));have t:=λC h2=>Nn (old:=old) (k:=k) (C:=C) (h [some v]) h1 h2 rfl
 refine X.tP (t _ rfl) (λe=>X.c6 rfl (K.rt (Rt.rt ?_))) λe1=>X.nx (K.nx (X.tP (t _ rfl) (λe=>X.c6 rfl (K.rt (Rt.rt ?_))) λe2=>X.nx (K.nx (X.tP (t _ rfl) (λe=>X.c6 rfl (K.rt (Rt.rt ?_))) λe3=>X.nx (K.nx (X.tP (t _ rfl) (λe=>X.c6 rfl (K.rt (Rt.rt ?_))) λe4=>X.nx (K.nx ?_)))))))
 ·unfold kS at q;rw[e] at q;exact q
 ·unfold kS at q;rw[e1,e] at q;exact q
 ·unfold kS at q;simp only[e1,e2,e] at q;exact q
 ·unfold kS at q;simp only[e1,e2,e3,e] at q;exact q
 refine X.tP (t _ rfl) (λe=>X.c6 rfl (K.rt (Rt.rt ?_))) λe5=>X.nx (K.nx (X.tP (t _ rfl) (λe=>X.c6 rfl (K.rt (Rt.rt ?_))) λe6=>X.nx (K.nx (X.tP (t _ rfl) (λe=>X.c6 rfl (K.rt (Rt.rt ?_))) λe=>False.elim ?_))))
 ·unfold kS at q;simp only[e1,e2,e3,e4,e] at q;exact q
 ·unfold kS at q;simp only[e1,e2,e3,e4,e5,e] at q;exact q
 ·unfold kS at q;rw[e1,e2,e3,e4,e5,e6,e] at q;exact q
 ·unfold kS at h7;rw[e1,e2,e3,e4,e5,e6,e] at h7;revert h7;decide+kernel
theorem Bs(q:Q (.str "null") st):X (aY old (k+2) (.obj (.ref 479)) [.none]) st Q E:=
 Qn (X.nq (Ev.tC rfl rfl (Ev.RI rfl)) rfl (X.c6 rfl (K.rt (Rt.rt q))))
theorem su{cl:Nat}(g:st.hp[a]?=some (.inst cl fs))(h:lW.contains cl=ah)(l:List (Option PV)):nQ ⟨l,st.hp⟩ (.ref a)=some (.ref cl):=by
 unfold nQ;simp only[g,h,if_true]
theorem Gx(g:st.hp[a]?=some (.list vs))(l:List (Option PV)):nQ ⟨l,st.hp⟩ (.ref a)=some (.type "list"):=by
 unfold nQ;simp only[g]
theorem Gw{vs:List (Str×PV)}(g:st.hp[a]?=some (.dict vs))(l:List (Option PV)):nQ ⟨l,st.hp⟩ (.ref a)=some (.type "dict"):=by
 unfold nQ;simp only[g]
theorem jE{x:Str}(h1:decide (x="array")=aj)(h2:decide (x="dict")=aj)(h3:decide (x="stream")=aj)(hk:∀(st':St) (Q:PV->St->Prop),st'.hp=st.hp->Q (.str x) st'->X (aY old (k+2) (.obj (.ref 479)) [v]) st' Q E)
 (h:∀st':St,st'.hp=st.hp->X (aY old (k+2) (.obj (.ref 486)) [.str x,v]) st' (λv s=>Q v ⟨st.loc,s.hp⟩) E):X (aY old (k+3) (.obj (.ref 491)) [v]) st Q E:=by
 refine Mm (X.dm (X.call rfl rfl (hk _ _ rfl ?_)));exact X.gF (Ev.tC rfl rfl Ev.MG) h1 (X.nx (K.nx (X.gF (Ev.tC rfl rfl Ev.MG) h2 (X.nx (K.nx (X.gF (Ev.tC rfl rfl Ev.MG) h3 (X.nx (K.nx (X.ret (X.call rfl rfl ((h ⟨[some v,some (.str x)],st.hp⟩ rfl).mono (λ_ _ q=>Rt.rt q) λ_ _ e=>e)))))))))))
theorem ĉ{x y:Str}(h:(x==y)=aj):decide (x=y)=aj:=decide_eq_false (by simpa using h)
theorem JF(q:Q (.tup At.nu.told) st):X (aY old (k+2) (.obj (.ref 486)) [.str "null",v]) st Q E:=AY (X.nq (t:=ah) rfl rfl (X.c6 (Ev.tup (l:=At.nu.told) rfl rfl) (K.rt (Rt.rt q))))
theorem Gp(q:Q (.tup At.tr.told) st):X (aY old (k+2) (.obj (.ref 486)) [.str "truth",.bool ah]) st Q E:=AY (X.gF (t:=aj) rfl rfl (X.nx (K.nx (X.nq (t:=ah) rfl rfl (X.c6 (Ev.tup (l:=At.tr.told) rfl rfl) (K.rt (Rt.rt q)))))))
theorem tp_int{i:Int}(q:Q (.tup [.str "int",.int i]) st):X (aY old (k+2) (.obj (.ref 486)) [.str "int",.int i]) st Q E:=AY (X.gF (t:=aj) rfl rfl (X.nx (K.nx (X.gF (t:=aj) rfl rfl (X.nx (K.nx (X.nq (t:=ah) rfl rfl (X.c6 (Ev.tup (l:=[.str "int",.int i]) rfl rfl) (K.rt (Rt.rt q))))))))))
theorem QX:dY 285 "top"=some 0:=by kernel_rfl
theorem DR:dY 285 "places"=some 1:=by kernel_rfl
theorem xY:dY 397 "text"=some 0:=by kernel_rfl
theorem v_:dY 419 "octets"=some 0:=by kernel_rfl
theorem QW:dY 419 "is_hex"=some 1:=by kernel_rfl
theorem JG(g:st.hp[a]?=some (.inst 285 [.int 5,.int 1]))(q:Q (.tup At.r5.told) st):X (aY old (k+2) (.obj (.ref 486)) [.str "real",.ref a]) st Q E:=AY (X.gF (t:=aj) rfl rfl (X.nx (K.nx (X.gF (t:=aj) rfl rfl (X.nx (K.nx (X.gF (t:=aj) rfl rfl (X.nx (K.nx (X.nq (t:=ah) rfl rfl
 (X.c6 (Ev.tup (l:=At.r5.told) (Ev.cons rfl (Ev.cons (Ev.at_ rfl (Ev.attr g QX rfl rfl)) (Ev.cons (Ev.at_ rfl (Ev.attr g DR rfl rfl)) Ev.nil))) rfl) (K.rt (Rt.rt q)))))))))))))
theorem JE{x:Str}(g:st.hp[a]?=some (.inst 397 [.str x]))(q:Q (.tup [.str "name",.str x]) st):X (aY old (k+2) (.obj (.ref 486)) [.str "name",.ref a]) st Q E:=AY (X.gF (t:=aj) rfl rfl (X.nx (K.nx (X.gF (t:=aj) rfl rfl (X.nx (K.nx (X.gF (t:=aj) rfl rfl (X.nx (K.nx (X.gF (t:=aj) rfl rfl (X.nx (K.nx (X.nq (t:=ah) rfl rfl
 (X.c6 (Ev.tup (l:=[.str "name",.str x]) (Ev.cons rfl (Ev.cons (Ev.at_ rfl (Ev.attr g xY rfl rfl)) Ev.nil)) rfl) (K.rt (Rt.rt q))))))))))))))))
theorem tp_str{b:List UInt8}(g:st.hp[a]?=some (.inst 419 [.bytes b,.bool aj]))(q:Q (.tup [.str "string",.bytes b]) st):X (aY old (k+2) (.obj (.ref 486)) [.str "string",.ref a]) st Q E:=AY (X.gF (t:=aj) rfl rfl (X.nx (K.nx (X.gF (t:=aj) rfl rfl (X.nx (K.nx (X.gF (t:=aj) rfl rfl (X.nx (K.nx (X.gF (t:=aj) rfl rfl (X.nx (K.nx (X.gF (t:=aj) rfl rfl (X.nx (K.nx (X.nq (t:=ah) rfl rfl
 (X.c6 (Ev.tup (l:=[.str "string",.bytes b]) (Ev.cons rfl (Ev.cons (Ev.call rfl (Ev.cons (Ev.at_ rfl (Ev.attr g v_ rfl rfl)) Ev.nil) rfl) Ev.nil)) rfl) (K.rt (Rt.rt q)))))))))))))))))))
theorem Gl{i:Int}(q:Q (.tup [.str "int",.int i]) st):X (aY old (k+3) (.obj (.ref 491)) [.int i]) st Q E:=
 jE (x:="int") rfl rfl rfl (λst' Q _ q=>jT (T:=.type "int") rfl rfl (λ_=>rfl) rfl rfl q) λst' e=>tp_int (by simp only[e];exact q)
theorem Gm{b:List UInt8}(g:st.hp[a]?=some (.inst 419 [.bytes b,.bool aj]))(q:Q (.tup [.str "string",.bytes b]) st):X (aY old (k+3) (.obj (.ref 491)) [.ref a]) st Q E:=
 jE (x:="string") rfl rfl rfl (λst' Q e q=>jT (T:=.ref 419) rfl rfl (su (st:=st') (by rw[e];exact g) rfl) rfl rfl q) λst' e=>tp_str (by rw[e];exact g) (by rw[e];exact q)
theorem Ag{M:List Nat}{x:Str}(h:i' M st.hp v 397 [.str x])(q:Q (.tup [.str "name",.str x]) st):X (aY old (k+3) (.obj (.ref 491)) [v]) st Q E:=by
 refine gg λG k_=>?_
 obtain⟨a,e,_,g⟩:=h;refine k_ ?_;exact e.symm▸jE (x:="name") rfl rfl rfl (λst' Q e q=>jT (T:=.ref 397) rfl rfl (su (st:=st') (by rw[e];exact g) rfl) rfl rfl q) λst' e=>JE (by rw[e];exact g) (by rw[e];exact q)
theorem vr{M:List Nat}{b:List UInt8}(h:i' M st.hp v 419 [.bytes b,.bool aj])(q:Q (.tup [.str "string",.bytes b]) st):X (aY old (k+3) (.obj (.ref 491)) [v]) st Q E:=by
 refine gg λG k_=>?_
 obtain⟨a,e,_,g⟩:=h;refine k_ ?_;exact e.symm▸Gm g q
theorem Af{M:List Nat}{x:At}(h:xr M st.hp v x)(q:Q (.tup x.told) st):X (aY old (k+3) (.obj (.ref 491)) [v]) st Q E:=by
 cases x with
 |nA=>exact Ag h q
 |nW=>exact Ag h q
 |sx=>exact vr h q
 |r5=>
  refine gg λG k_=>?_
  obtain⟨a,e,_,g⟩:=h;refine k_ ?_;exact e.symm▸jE (x:="real") rfl rfl rfl (λst' Q e q=>jT (T:=.ref 285) rfl rfl (su (st:=st') (by rw[e];exact g) rfl) rfl rfl q) λst' e=>JG (by rw[e];exact g) (by rw[e];exact q)
 |tr=>
  rw[show v=_ from h];exact jE (x:="truth") rfl rfl rfl (λst' Q _ q=>jT (T:=.type "bool") rfl rfl (λ_=>rfl) rfl rfl q) λst' e=>Gp (by rw[e];exact q)
 |nu=>
  rw[show v=_ from h];exact jE (x:="null") rfl rfl rfl (λst' Q _ q=>Bs q) λst' e=>JF (by rw[e];exact q)
 |_=>rw[show v=_ from h];exact Gl q
theorem cj.all2{P:PV->PV->Prop}(l:List Tr):∀{vs:List PV},cj Z hp vs l->(∀t∈l,∀v,iu Z hp v t->P v t.told)->xq P vs (cU l):=by
 induction l with
 |nil=>intro vs h _;exact h▸(rfl:([]:List PV)=[])
 |cons t l ih=>intro vs ⟨v,ws,e,h,k⟩ f;rw[e];exact⟨_,_,rfl,f t (aU ..) v h,ih k λt ht=>f t (aM _ ht)⟩
theorem Np{o:M PV}(ho:Ev o st (.ref a))(g:st.hp[a]?=some (.list vs)):Ev (nv o) st (.list a 0):=ho.bind (by delta Ev j4;simp only[g])
theorem sq(g:st.hp[a]?=some (.list vs))(z:sz vs.length=ah):Ev (aY old (k+1) (.obj (.type "tuple")) [.ref a]) st (.tup vs):=by
 show sr (.ref a) st=_;unfold sr;simp only[g,z,if_true]
theorem nN{a b:List PV}(z:sz (a.length+b.length)=ah):Ev (iP .Add (.tup a) (.tup b)) st (.tup (a++b)):=if_pos z
theorem fq:∀l:List Tr,(cU l).length=l.length
 |[]=>rfl
 |_::l=>congrArg (·+1) (fq l)
theorem OU{l:List Tr}{t:Tr}(h:t∈l):t.wt<=iI l:=by
 induction h with
 |head=>exact aF _ _
 |tail _ _ ih=>exact ai ih (aQ _ _)
theorem Ad(h:n<dR)(j:Nat)(hj:j<1000):sz (j+n)=ah:=decide_eq_true (aT (aB (Nat.add_lt_add hj h) (by decide)))
def qC(old:Old)(m:Nat):Prop:=∀(t:Tr) (M:List Nat) (v:PV) (st:St) (Q:PV->St->Prop),iu M st.hp v t->t.wt<=m->(∀ay,Upd [] st.hp ay->Q t.told ⟨st.loc,ay⟩)->∀E,X (aY old (m+3) (.obj (.ref 491)) [v]) st Q E
inductive VT(Z:List Nat)(hp:List PO)(m:Nat)(v:PV):PV->Prop
 |mk (t:Tr) (h:iu Z hp v t) (k:t.wt<=m):VT Z hp m v t.told
inductive TP(Z:List Nat)(hp:List PO)(m:Nat)(kvs:List (Str×PV)):PV->PV->Prop
 |mk (o:Str) (v p:PV) (h:gK kvs o=some v) (n:v≠.none) (k:VT Z hp m v p):TP Z hp m kvs (.str o) (.tup [.str o,p])
theorem VT.x(ih:qC old m){p:PV}(h:VT Z st.hp m v p)(q:∀ay,Upd [] st.hp ay->Q p ⟨st.loc,ay⟩)(E):X (aY old (m+3) (.obj (.ref 491)) [v]) st Q E:=by
 cases h with|mk t h k=>exact ih t Z v st Q h k q E
theorem VT.upd{p:PV}(u:Upd [] hp ay)(h:VT Z hp m v p):VT Z ay m v p:=by
 cases h with|mk t h k=>exact .mk t (iu.upd u.nil t h) k
theorem VT.known{p:PV}(h:VT Z hp m v p):dh v=ah:=by
 cases h with|mk t h k=>
 have i:∀{n fs},i' Z hp v n fs->dh v=ah:=λ⟨_,e,_⟩=>by rw[e];rfl
 cases t with
 |a x=>cases x<;>first|exact i h|(rw [show v=_ from h];rfl)
 |arr l=>obtain⟨_,⟨_,h⟩,_⟩:=h;rw[h.e];rfl
 |Dv ks l=>obtain⟨_,⟨_,_,h⟩,_⟩:=h;rw[h.e];rfl
 |s b=>exact i h
theorem ua(ih:qC old m){l:List Tr}{o:M PV}(ho:Ev o st (.ref a))(g:st.hp[a]?=some (.list vs))(hz:vs.length<dR)(hv:cj Z st.hp vs l)(hw:iI l<=m)(q:∀ay,Upd [] st.hp ay->ay[st.hp.length]?=some (.list (cU l))->Q (.ref st.hp.length) ⟨st.loc,ay⟩):
 X (fy [] (nv o) (pure ah) (ax (aY old (m+3)) (pure (.obj (.ref 491))) (aa (af 0) (pure [])))) st Q E:=
 X.each (P:=VT Z st.hp m) (Np ho g) g hz (cj.all2 l hv λt ht v h=>.mk t h (ai (OU ht) hw)) (λv p h ay u Q q=>X.call rfl rfl ((h.upd u).x ih q _)) q
theorem GK(ks:List Str):∀(l:List Tr) {vs:List PV},ks.map (gK kvs)=vs.map some->(∀v∈vs,v≠.none)->cj Z hp vs l->iI l<=m->xq (TP Z hp m kvs) (ks.map .str) ((ks.zip (cU l)).map λp=>.tup [.str p.1,p.2]):=by
 induction ks with
 |nil=>intro l vs _ _ _ _;exact(rfl:_=[])
 |cons k ks ih=>
  intro l vs hs hn hv hw;cases l with
  |nil=>rw[show vs=[] from hv] at hs;cases hs
  |cons t l=>
   refine gg λG k_=>?_
   obtain⟨v,ws,e,h1,h2⟩:=hv;refine k_ ?_;rw[e,bH,bH,yT] at hs;rw[e] at hn;exact⟨_,_,rfl,.mk k v _ hs.1 (hn v (aU ..)) (.mk t h1 (ai (aF ..) hw)),ih l hs.2 (λv hv=>hn v (aM _ hv)) h2 (ai (aQ ..) hw)⟩
theorem Gj(ih:qC old m){l:List Tr}(h:PC Z st.hp v vs a)(hv:cj Z st.hp vs l)(hm:1+iI l<=m+1)(q:∀ay,Upd [] st.hp ay->Q (Tr.arr l).told ⟨st.loc,ay⟩):X (aY old (m+4) (.obj (.ref 491)) [v]) st Q E:=by
 rw[h.e];have hl:(cU l).length<dR:=by rw[fq,<-cj.len l hv];exact h.z
 exact Mm (X.dm (X.call rfl rfl (jT (T:=.type "list") rfl rfl (Gx h.g) rfl rfl (X.nq (t:=ah) rfl rfl (X.ret (X.B (X.ev (Ev.tup (l:=[.str "array"]) rfl rfl) (X.iw rfl (X.cX (ua ih rfl h.g h.z hv (by lia) λay u g'=>
  X.ev (a:=[]) rfl (X.ev (sq g' (by have:=Ad hl 0 (by decide);rwa[aZ] at this)) (X.ev (nN (Ad hl 1 (by decide))) (K.rt (Rt.rt (q ay u)))))))))))))))
theorem F6{k:Str}{r:List (Option PV)}(g:hp[a]?=some (.dict kvs))(h:gK kvs k=some v):Ev (bt (af 1) (af 0)) ⟨some (.str k)::some (.ref a)::r,hp⟩ v:=Ev.sub rfl rfl (Ev.Tp g h)
theorem Ov{k:Str}{r:List (Option PV)}(g:hp[a]?=some (.dict kvs))(h:gK kvs k=some v)(kn:dh v=ah)(n:v≠.none):Ev (tC .IsNot (bt (af 1) (af 0)) (pure .none)) ⟨some (.str k)::some (.ref a)::r,hp⟩ ah:=by
 refine Ev.tC (F6 g h) rfl ?_;show(if dh v=ah then(bB (PV.bool (!isNone v)):M PV) else M.bad) _=_;rw[if_pos kn];cases v<;>first|exact absurd rfl n|rfl
theorem Gk(ih:qC old m){ks:List Str}{l:List Tr}(h:PJ Z st.hp v ks vs a kvs)(hv:cj Z st.hp vs l)(hm:2+iI l<=m+1)(q:∀ay,Upd [] st.hp ay->Q (Tr.Dv ks l).told ⟨st.loc,ay⟩):X (aY old (m+4) (.obj (.ref 491)) [v]) st Q E:=by
 rw[h.e];have lk:(ks.map PV.str).length<64:=by rw[aW];exact h.z2
 refine Mm (X.dm (X.call rfl rfl (jT (T:=.type "dict") rfl rfl (Gw h.g) rfl rfl (X.gF (t:=aj) rfl rfl (X.nx (K.nx (X.nq (t:=ah) rfl rfl (X.ret (X.B (X.ev (Ev.tup (l:=[.str "dict"]) rfl rfl) (X.iw rfl (X.cX (X.comp (X.bind (X.call (vs:=[.ref a]) rfl rfl (X.ok (a:=.ref st.hp.length) (s:=⟨[some (.ref a),some (.str (kS (.type "dict")))],st.hp++[.list (ks.map .str)]⟩) ?_ (X.ev (a:=.list st.hp.length 0) ?_ ?_)))))))))))))))))
 ·show iD (.ref a) _=_;unfold iD;simp only[h.g,h.z,h.s,if_true];rfl
 ·delta Ev j4;simp only[gl]
 have u1:∀{ay},Upd [(st.hp++[PO.list (ks.map .str)]).length] (st.hp++[PO.list (ks.map .str)]++[.list []]) ay->Upd [] st.hp ay:=λu=>(Upd.push _ _).trans u.drop
 refine CX.all (aB lk (by unfold dR;decide)) (by simp) (by rw[bh (by simp)];exact gl _ _) (gl _ _) (GK ks l h.m h.n hv (show iI l<=m by lia)) (λk p t ay u=>?_) (λk p t ay u Q q=>?_) λay o u g'=>?_
 ·cases t with|mk o v p hp n k=>exact Ov ((u1 u).2 _ _ h.g nofun) hp k.known n
 ·cases t with|mk o v p hp n k=>exact X.tup (X.jz rfl (X.cX (X.call rfl ((F6 ((u1 u).2 _ _ h.g nofun) hp).cons rfl) ((k.upd (u1 u)).x ih (λfb u'=>X.ev (a:=[]) rfl ⟨rfl,q fb u'⟩) _))))
 ·have hl:((ks.zip (cU l)).map λp=>PV.tup [.str p.1,p.2]).length<64:=by rw[aW,List.length_zip];exact aA (Nat.min_le_left ..) h.z2
  exact X.ev (a:=[]) rfl (X.ev (sq g' (decide_eq_true (by lia))) (X.ev (nN (decide_eq_true (by simp only[bk];lia))) (K.rt (Rt.rt (q ay (u1 u))))))
theorem OD(m:Nat):qC old m:=by
 induction m with
 |zero=>
  intro t M v st Q h hm q E;cases t with
  |a x=>exact Af h (q _ (.refl _ _))
  |s b=>exact vr h (q _ (.refl _ _))
  |arr l=>exact absurd (show 1+iI l<=0 from hm) (by lia)
  |Dv ks l=>exact absurd (show 2+iI l<=0 from hm) (by lia)
 |succ m ih=>
  intro t M v st Q h hm q E;cases t with
  |a x=>exact Af h (q _ (.refl _ _))
  |s b=>exact vr h (q _ (.refl _ _))
  |arr l=>obtain⟨vs,⟨a,h⟩,hv⟩:=h;exact Gj ih h hv hm q
  |Dv ks l=>obtain⟨vs,⟨a,kvs,h⟩,hv⟩:=h;exact Gk ih h hv hm q
end
theorem uV:dY 515 "mark"=some 0:=by kernel_rfl
theorem nf:dY 515 "items"=some 1:=by kernel_rfl
theorem EW:fx.find? (λm=>m.1==515&&m.2.1==("wants_key":Str))=some ((515:Addr),("wants_key":Str),512):=by kernel_rfl
def TV(Z:List Nat)(hp:List PO)(t:Tk)(v:PV):Prop:=(v=t.wo/\t≠.a .r5)\/(t=.a .r5/\∃a,v=.ref a/\a∉Z/\hp[a]?=some (.inst 285 [.int 5,.int 1]))
noncomputable def fW(t:Tk)(v:PV)(p:Nat):PV:=.tup [.str t.kd,v,.int p]
section
variable{m:Nat}
theorem EZ{x:Str}(q:Q (.ref st.hp.length) ⟨st.loc,st.hp++[.inst 397 [.str x]]⟩):X (aY old (k+1) (.obj (.ref 397)) [.str x]) st Q E:=by
 refine WV (X.rR (c:=st.hp.length) (v:=.str x) rfl rfl (gl _ _) xY ?_);simp only[sl];exact X.nx (Rt.nx ⟨rfl,q⟩)
theorem zF{x:List UInt8}(q:Q (.ref st.hp.length) ⟨st.loc,st.hp++[.inst 419 [.bytes x,.bool aj]]⟩):X (aY old (k+1) (.obj (.ref 419)) [.bytes x]) st Q E:=by
 refine R3 (X.rR (c:=st.hp.length) (v:=.bytes x) rfl rfl (gl _ _) v_ ?_);rw[sl];refine X.rR (c:=st.hp.length) (v:=.bool aj) rfl rfl (gl _ _) QW ?_;rw[sl];exact X.nx (Rt.nx ⟨rfl,q⟩)
theorem BB{b:List UInt8}(q:Q (.ref st.hp.length) ⟨st.loc,st.hp++[.inst 515 [.bytes b,.ref (st.hp.length+1)],.list []]⟩):X (aY old (k+1) (.obj (.ref 515)) [.bytes b]) st Q E:=by
 refine WW (X.rR (c:=st.hp.length) (v:=.bytes b) rfl rfl (gl _ _) uV ?_);simp only[sl];have e1:(st.hp++[PO.inst 515 [.bytes b]]++[.list []])[st.hp.length]?=some (.inst 515 [.bytes b]):=by rw[bh (by simp)];exact gl _ _
 have e2:(st.hp++[PO.inst 515 [.bytes b]]).length=st.hp.length+1:=by simp
 have e3:(st.hp++[PO.inst 515 [.bytes b]]++[PO.list []]).set st.hp.length (.inst 515 [PV.bytes b,PV.ref (st.hp.length+1)])=st.hp++[.inst 515 [.bytes b,.ref (st.hp.length+1)],.list []]:=by
  rw[yW _ _ (by simp),sl,cS];rfl
 refine X.asg (X.list (l:=[]) rfl rfl (X.dP (a:=.ref st.hp.length) (by exact rfl) (X.ok (a:=()) (s:=⟨[some (.ref st.hp.length),some (.bytes b)],st.hp++[.inst 515 [.bytes b,.ref (st.hp.length+1)],.list []]⟩) ?_ (X.nx (Rt.nx ⟨rfl,q⟩)))));show fi "items" (.ref st.hp.length) (.ref (st.hp++[PO.inst 515 [.bytes b]]).length) ⟨[some (.ref st.hp.length),some (.bytes b)],st.hp++[PO.inst 515 [.bytes b]]++[.list []]⟩=_;rw[e2];delta fi;dsimp only;simp only[e1,nf,cA,bE,dM,if_false,if_true];rw[<-e3];rfl
theorem yP{b:List UInt8}(h1:(b==At.tr.b)=aj)(h2:(b==[102,97,108,115,101])=aj)(h3:(b==At.nu.b)=aj)(q:E p st.hp):X (aY old (k+1) (.obj (.ref 540)) [.bytes b,.int p]) st Q E:=
 Mn (X.gF (Ev.tC rfl rfl Ev.eqB) h1 (X.nx (K.nx (X.gF (Ev.tC rfl rfl Ev.eqB) h2 (X.nx (K.nx (X.gF (Ev.tC rfl rfl Ev.eqB) h3 (X.nx (K.nx (X.raise (x:="an unknown word") rfl q))))))))))
theorem Ja{x:At}(h:TV Z st.hp (.a x) v)(hZ:∀z∈Z,z<st.hp.length)(q:∀ay w,Upd [] st.hp ay->xr Z ay w x->Q w ⟨st.loc,ay⟩):X (aY old (k+3) (.obj (.ref 547)) [.ref c,fW (.a x) v p,.bool aj]) st Q E:=by
 have fresh:st.hp.length∉Z:=λz=>dM _ (hZ _ z)
 refine Mo (X.asg (X.ev rfl (X.ok (a:=()) (s:=⟨[some (.ref c),some (fW (.a x) v p),some (.bool aj),some (.str x.kd),some v,some (.int p)],st.hp⟩) rfl ?_)));rcases h with⟨rfl,hn⟩|⟨e,a,rfl,ha,g⟩
 ·cases x
  case i7|i0|im=>exact X.ff rfl (X.tt rfl (X.c6 rfl (K.rt (Rt.rt (q _ _ (.refl _ _) rfl)))))
  case r5=>exact absurd rfl hn
  case nA|nW=>exact X.ff rfl (X.ff rfl (X.tt rfl (X.ret (X.call rfl rfl (EZ (K.rt (Rt.rt (q _ _ (.push _ _) ⟨_,rfl,fresh,gl _ _⟩))))))))
  case sx=>exact X.ff rfl (X.ff rfl (X.ff rfl (X.tt rfl (X.ret (X.call rfl rfl (zF (K.rt (Rt.rt (q _ _ (.push _ _) ⟨_,rfl,fresh,gl _ _⟩)))))))))
  case tr=>exact X.ff rfl (X.ff rfl (X.ff rfl (X.ff rfl (X.ff rfl (X.tt rfl (X.ret (X.call rfl rfl (Mn (X.tt rfl (X.c6 rfl (K.rt (Rt.rt (K.rt (Rt.rt (q _ _ (.refl _ _) rfl)))))))))))))))
  case nu=>exact X.ff rfl (X.ff rfl (X.ff rfl (X.ff rfl (X.ff rfl (X.tt rfl (X.ret (X.call rfl rfl (Mn (X.ff rfl (X.ff rfl (X.tt rfl (X.c6 rfl (K.rt (Rt.rt (K.rt (Rt.rt (q _ _ (.refl _ _) rfl)))))))))))))))))
 ·cases e
  exact X.ff rfl (X.tt rfl (X.c6 rfl (K.rt (Rt.rt (q _ _ (.refl _ _) ⟨a,rfl,ha,g⟩)))))
theorem Fw(ht:∀x,t≠.a x)(q:E p st.hp):X (aY old (k+3) (.obj (.ref 547)) [.ref c,fW t t.wo p,.bool aj]) st Q E:=by
 refine Mo (X.asg (X.ev rfl (X.ok (a:=()) (s:=⟨[some (.ref c),some (fW t t.wo p),some (.bool aj),some (.str t.kd),some t.wo,some (.int p)],st.hp⟩) rfl ?_)));rcases t with x|x|x
 ·exact absurd rfl (ht x)
 ·exact X.ff rfl (X.ff rfl (X.ff rfl (X.ff rfl (X.ff rfl (X.ff rfl (X.ff rfl (X.raise (x:="a sign that cannot stand here") rfl q)))))))
 ·refine X.ff rfl (X.ff rfl (X.ff rfl (X.ff rfl (X.ff rfl (X.tt rfl (X.ret (X.call rfl rfl (yP ?_ ?_ ?_ q))))))))
  all_goals(cases x<;>rfl)
theorem Fv(q:E p st.hp):X (aY old (k+3) (.obj (.ref 547)) [.ref c,.tup [.str "end",.bytes [],.int p],.bool aj]) st Q E:=by
 refine Mo (X.asg (X.ev rfl (X.ok (a:=()) (s:=⟨[some (.ref c),some (.tup [.str "end",.bytes [],.int p]),some (.bool aj),some (.str "end"),some (.bytes []),some (.int p)],st.hp⟩) rfl ?_)));exact X.ff rfl (X.ff rfl (X.ff rfl (X.ff rfl (X.ff rfl (X.ff rfl (X.tt rfl (X.raise (x:="the octets end within an object") rfl q)))))))
end
set_option backward.match.sparseCases false
inductive DL:Option PV->Option PV->List (Str×PV)->Prop
 |n:DL none none []
 |a (v:PV):DL (some v) none [("A",v)]
 |w (v:PV):DL none (some v) [("W",v)]
 |aw (v u:PV):DL (some v) (some u) [("A",v),("W",u)]
 |wa (v u:PV):DL (some v) (some u) [("W",u),("A",v)]
noncomputable def wB:Option α->Option α->List Str
 |none,none=>[]
 |some _,none=>["A"]
 |none,some _=>["W"]
 |some _,some _=>["A","W"]
noncomputable def BM(x y:Option α):List α:=x.toList++y.toList
theorem DL.of{x:Option PV}{l':List (Str×PV)}(e:l=l')(h:DL x y l'):DL x y l:=e▸h
theorem DL.yF{x:Option PV}(v:PV)(h:DL x y l):DL (some v) y (cV l "A" v):=by
 cases h with
 |n=>exact .of (l':=[("A",v)]) (by kernel_rfl) (.a v)
 |a u=>exact .of (l':=[("A",v)]) (by kernel_rfl) (.a v)
 |w u=>exact .of (l':=[("W",u),("A",v)]) (by kernel_rfl) (.wa v u)
 |aw u w=>exact .of (l':=[("A",v),("W",w)]) (by kernel_rfl) (.aw v w)
 |wa u w=>exact .of (l':=[("W",w),("A",v)]) (by kernel_rfl) (.wa v w)
theorem DL.Te{x:Option PV}(v:PV)(h:DL x y l):DL x (some v) (cV l "W" v):=by
 cases h with
 |n=>exact .of (l':=[("W",v)]) (by kernel_rfl) (.w v)
 |a u=>exact .of (l':=[("A",u),("W",v)]) (by kernel_rfl) (.aw u v)
 |w u=>exact .of (l':=[("W",v)]) (by kernel_rfl) (.w v)
 |aw u w=>exact .of (l':=[("A",u),("W",v)]) (by kernel_rfl) (.aw u v)
 |wa u w=>exact .of (l':=[("W",v),("A",u)]) (by kernel_rfl) (.wa u v)
theorem DL.keys{x:Option PV}(h:DL x y l):lj (l.map λkv=>.str kv.1)=some ((wB x y).map .str):=by
 cases h<;>kernel_rfl
theorem DL.Zf{x:Option PV}(h:DL x y l):(wB x y).map (gK l)=(BM x y).map some:=by
 cases h<;>kernel_rfl
theorem DL.len{x:Option PV}(h:DL x y l):l.length<=2:=by cases h<;>simp only[cA,bE]<;>decide
def nn(o:Option PV):Option PV:=o.filter λv=>!isNone v
theorem DL.filter{x:Option PV}(h:DL x y l):DL (nn x) (nn y) (l.filter λkv=>!isNone kv.2):=by
 have e1:∀{v:PV} (s:Str) (l:List (Str×PV)),isNone v=ah->nn (some v)=none/\((s,v)::l).filter (λkv=>!isNone kv.2)=l.filter λkv=>!isNone kv.2:=λ{v} _ _ e=>have z:¬(!isNone v)=ah:=by rw[e];decide
  ⟨if_neg z,List.filter_cons_of_neg z⟩
 have e2:∀{v:PV} (s:Str) (l:List (Str×PV)),isNone v=aj->nn (some v)=some v/\((s,v)::l).filter (λkv=>!isNone kv.2)=(s,v)::l.filter λkv=>!isNone kv.2:=λ{v} _ _ e=>have z:(!isNone v)=ah:=by rw[e];decide
  ⟨if_pos z,List.filter_cons_of_pos z⟩
 cases h with
 |n=>exact .n
 |a v=>cases q:isNone v with
  |true=>rw[(e1 "A" [] q).1,(e1 "A" [] q).2];exact .n
  |false=>rw[(e2 "A" [] q).1,(e2 "A" [] q).2];exact .a v
 |w v=>cases q:isNone v with
  |true=>simp only[(e1 "W" [] q).1,(e1 "W" [] q).2];exact .n
  |false=>simp only[(e2 "W" [] q).1,(e2 "W" [] q).2];exact .w v
 |aw v u=>cases q:isNone v with
  |true=>rw[(e1 "A" [("W",u)] q).1,(e1 "A" _ q).2];cases q:isNone u with
   |true=>rw[(e1 "W" [] q).1,(e1 "W" [] q).2];exact .n
   |false=>rw[(e2 "W" [] q).1,(e2 "W" [] q).2];exact .w u
  |false=>rw[(e2 "A" [("W",u)] q).1,(e2 "A" _ q).2];cases q:isNone u with
   |true=>rw[(e1 "W" [] q).1,(e1 "W" [] q).2];exact .a v
   |false=>rw[(e2 "W" [] q).1,(e2 "W" [] q).2];exact .aw v u
 |wa v u=>cases q:isNone u with
  |true=>rw[(e1 "W" [("A",v)] q).1,(e1 "W" _ q).2];cases q:isNone v with
   |true=>rw[(e1 "A" [] q).1,(e1 "A" [] q).2];exact .n
   |false=>rw[(e2 "A" [] q).1,(e2 "A" [] q).2];exact .a v
  |false=>rw[(e2 "W" [("A",v)] q).1,(e2 "W" _ q).2];cases q:isNone v with
   |true=>rw[(e1 "A" [] q).1,(e1 "A" [] q).2];exact .w u
   |false=>rw[(e2 "A" [] q).1,(e2 "A" [] q).2];exact .wa v u
theorem DL.known{x:Option PV}(h:DL x y l)(hx:∀v,x=some v->dh v=ah)(hy:∀v,y=some v->dh v=ah):(l.all λkv=>dh kv.2)=ah:=by
 cases h with
 |n=>rfl
 |a v=>exact congrArg (·&&ah) (hx v rfl)
 |w v=>exact congrArg (·&&ah) (hy v rfl)
 |aw v u=>exact congr (congrArg (λa b=>a&&(b&&ah)) (hx v rfl)) (hy u rfl)
 |wa v u=>exact congr (congrArg (λa b=>a&&(b&&ah)) (hy u rfl)) (hx v rfl)
inductive lC:List Tr->Prop
 |n:lC []
 |c (n:At) (t:Tr) (l:List Tr) (h:n=At.nA\/n=.nW) (k:lC l):lC (.a n::t::l)
noncomputable def ek:List Tr->Option Tr×Option Tr->Option Tr×Option Tr
 |.a .nA::v::l,p=>ek l (some v,p.2)
 |.a .nW::v::l,p=>ek l (p.1,some v)
 |_,p=>p
noncomputable def kl:Tr->Bool
 |.a .nu=>ah
 |_=>aj
def BD(o:Option Tr):Option Tr:=o.filter λt=>!kl t
def td(acc:List Tr):Tr:=.Dv (wB (BD (ek acc (none,none)).1) (BD (ek acc (none,none)).2)) (BM (BD (ek acc (none,none)).1) (BD (ek acc (none,none)).2))
inductive OR(Z:List Nat)(hp:List PO):Option PV->Option Tr->Prop
 |n:OR Z hp none none
 |s {v:PV} {t:Tr} (h:iu Z hp v t):OR Z hp (some v) (some t)
theorem zw{w:PV}{t:Tr}(e:v=w)(h:dh w=ah/\isNone w=kl t):dh v=ah/\isNone v=kl t:=e▸h
theorem iu.kn{t:Tr}(h:iu Z hp v t):dh v=ah/\isNone v=kl t:=by
 have i:∀{n fs},kl t=aj->i' Z hp v n fs->dh v=ah/\isNone v=kl t:=λq ⟨_,e,_⟩=>zw e ⟨rfl,q.symm⟩
 cases t with
 |a x=>cases x<;>first|exact i rfl h|exact zw h ⟨rfl,rfl⟩
 |arr l=>obtain⟨_,⟨_,h⟩,_⟩:=h;exact zw h.e ⟨rfl,rfl⟩
 |Dv ks l=>obtain⟨_,⟨_,_,h⟩,_⟩:=h;exact zw h.e ⟨rfl,rfl⟩
 |s b=>exact i rfl h
theorem iu.known{t:Tr}(h:iu Z hp v t):dh v=ah:=h.kn.1
theorem iu.nu{t:Tr}(h:iu Z hp v t):isNone v=kl t:=h.kn.2
theorem OR.upd(u:Upd Z hp ay){x:Option PV}{t:Option Tr}(h:OR Z hp x t):OR Z ay x t:=by
 cases h with
 |n=>exact .n
 |s h=>exact .s (h.upd u)
theorem OR.nn{x:Option PV}{t:Option Tr}(h:OR Z hp x t):OR Z hp (nn x) (BD t):=by
 cases h with
 |n=>exact .n
 |@s v t h=>
  show OR Z hp (if(!isNone v)=ah then some v else none) (if(!kl t)=ah then some t else none);rw[h.nu];cases kl t with
  |true=>exact .n
  |false=>exact .s h
theorem OR.known{x:Option PV}{t:Option Tr}(h:OR Z hp x t)(v:PV)(e:x=some v):dh v=ah:=by
 cases h with
 |n=>exact nS e
 |s h=>exact ao e▸h.known
theorem OR.nz{x:Option PV}(h:Mine.nn x=some v):v≠.none:=λe=>by
 rw[e] at h;unfold Mine.nn at h;have:=(Option.filter_eq_some_iff.mp h).2;cases this
theorem OR.ks{x:Option PV}{t u:Option Tr}(h:OR Z hp x t)(k:OR Z hp y u):wB x y=wB t u:=by
 cases h<;>cases k<;>rfl
theorem OR.os{x:Option PV}{t u:Option Tr}(h:OR Z hp x t)(k:OR Z hp y u):cj Z hp (BM x y) (BM t u):=by
 cases h with
 |n=>cases k with
  |n=>exact(rfl:_=_)
  |s h=>exact⟨_,_,rfl,h,rfl⟩
 |s h=>cases k with
  |n=>exact⟨_,_,rfl,h,rfl⟩
  |s k=>exact⟨_,_,rfl,h,_,_,rfl,k,rfl⟩
section
variable{m:Nat}
theorem Ev.pu{a:α}:Ev (bB a:M α) st a:=rfl
theorem û(h:n<1000000):cg n=ah:=decide_eq_true (by lia)
theorem Oa(h:Nat):bu 0 ((2*h:Nat):Int) 2=(h:Int):=by
 rw[rangeSize_pos (by decide) (cq _)];lia
theorem Tb{i:M PV}{h:Nat}(g0:Ev i st (.ref li))(g:st.hp[li]?=some (.list items))(hl:items.length=2*h)(hs:2*h<1000000):Ev (mH (aa (pure (.int 0)) (aa (ax (aY old (k+1)) (pure (.obj (.builtin "len"))) (aa i (pure []))) (aa (pure (.int 2)) (pure []))))) st (.range 0 h 2):=by
 have z:items.length<1000000:=hl▸hs;refine Ev.bind (a:=[.int 0,.int items.length,.int 2]) (Ev.cons Ev.pu (Ev.cons (Ev.wF (Ev.cons g0 Ev.nil) g (eJ (aT z) rfl)) (Ev.cons Ev.pu Ev.nil))) ?_;show(if(cg 0&&cg items.length&&decide ((2:Int)=2))=ah then R.ok (It.range 0 (bu 0 items.length 2) 2) st else R.bad)=_;rw[û z,hl,Oa];rfl
def vX:M PF:=aq (bg (bt (af 0) (eB .Add (af 2) (pure (.int 1)))) (rn (af 1) (eh (bt (af 0) (af 2)) "text"))) (pure .next)
theorem Jr{d:Nat}{x:Str}(g:st.hp[d]?=some (.dict l))(z:sz l.length=ah):gc (.ref d) (.str x) v st=.ok () ⟨st.loc,st.hp.set d (.dict (cV l x v))⟩:=by
 refine(HY g).trans (if_pos z)
theorem Bb{d:Nat}{x:Str}(hz:sz items.length=ah)(h0:items[2*i]?=some (.ref a))(h1:items[2*i+1]?=some v)(g:hp[a]?=some (.inst 397 [.str x]))(g1:hp[li]?=some (.list items))(g2:hp[d]?=some (.dict kvs))(zl:sz kvs.length=ah)
 (q:QF .next ⟨[some (.ref li),some (.ref d),some (.int (2*i:Nat))],hp.set d (.dict (cV kvs x v))⟩):X vX ⟨[some (.ref li),some (.ref d),some (.int (2*i:Nat))],hp⟩ QF E:=by
 refine X.asg (X.ev (Ev.sub rfl (Ev.B rfl rfl Ev.gW) (Ev.nL g1 hz h1)) (X.dP (a:=.ref d) (by exact rfl) (X.dP (a:=.str x) (Ev.at_ (Ev.sub (by exact rfl) (by exact rfl) (Ev.nL g1 hz h0)) (Ev.attr g xY rfl rfl)) (X.ok (Jr g2 zl) (X.nx q)))))
theorem zX{h:Nat}:cY st (.range (2*i:Nat) (h+1:Nat) 2)=some (some (.int (2*i:Nat),.range (2*(i+1):Nat) (h:Nat) 2)):=by
 have e2:((h+1:Nat):Int)-1=(h:Nat):=Int.add_sub_cancel (h:Int) 1;show(if(0:Int)<(h+1:Nat) then _ else _)=_;rw[if_pos (Int.natCast_pos.mpr (ec _)),e2];rfl
theorem Kt{l:List α}{a b:α}{r:List α}(h:l.drop i=a::b::r):l[i]?=some a/\l[i+1]?=some b/\l.drop (i+2)=r:=⟨by rw[<-gx,h];rfl,by rw[<-gx,<-cK,h];rfl,by rw[<-cK,h];rfl⟩
noncomputable def BJ:At->Str
 |.nW=>"W"
 |_=>"A"
structure DS(Z:List Nat)(li d:Nat)(items:List PV)(hp:List PO)(x y:Option PV)(p:Option Tr×Option Tr)(kvs:List (Str×PV)):Prop where
 g1:hp[li]?=some (.list items)
 g2:hp[d]?=some (.dict kvs)
 l:DL x y kvs
 x:OR Z hp x p.1
 y:OR Z hp y p.2
theorem DS.step{d:Nat}(j3:li≠d)(hd:d∈Z){n:At}(hn:n=.nA\/n=.nW){t:Tr}{x:Option PV}{p:Option Tr×Option Tr}(h:DS Z li d items hp x y p kvs)(hv:iu Z hp v t):∃x' y' p',DS Z li d items (hp.set d (.dict (cV kvs (BJ n) v))) x' y' p' (cV kvs (BJ n) v)/\∀acc,ek (.a n::t::acc) p=ek acc p':=by
 have uz:Upd Z hp (hp.set d (.dict (cV kvs (BJ n) v))):=.set _ _ hd;have u:Upd [d] hp (hp.set d (.dict (cV kvs (BJ n) v))):=.set _ _ (au.mpr rfl);have g1:=u.2 _ _ h.g1 (by simpa using j3);have g2:(hp.set d (.dict (cV kvs (BJ n) v)))[d]?=_:=bb (ak.mp h.g2).1;rcases hn with rfl|rfl
 ·exact⟨some v,y,(some t,p.2),⟨g1,g2,h.l.yF v,.s (hv.upd uz),h.y.upd uz⟩,λ_=>rfl⟩
 ·exact⟨x,some v,(p.1,some t),⟨g1,g2,h.l.Te v,h.x.upd uz,.s (hv.upd uz)⟩,λ_=>rfl⟩
theorem Qg{n:At}(hn:n=.nA\/n=.nW)(h:xr Z hp v n):∃a,v=.ref a/\hp[a]?=some (.inst 397 [.str (BJ n)]):=by
 rcases hn with rfl|rfl<;>exact⟨_,h.choose_spec.1,h.choose_spec.2.2⟩
theorem Rc{a b:α}{l:List α}(h:(a::b::l).length<2*(k+1)):(a::b::l).length/2=l.length/2+1/\l.length<2*k:=⟨Nat.add_div_right l.length (z:=2) (by decide),Nat.lt_of_add_lt_add_right (n:=2) h⟩
theorem Ba{d:Nat}(hz:sz items.length=ah)(j3:li≠d)(hd:d∈Z){pf:Option Tr×Option Tr}(q:∀ay o x y kvs,Upd [d] hp0 ay->DS Z li d items ay x y pf kvs->QF .next ⟨[some (.ref li),some (.ref d),o],ay⟩)(hw:lC acc):
 ∀(i k:Nat) (o:Option PV) (hp:List PO) (x y:Option PV) (p:Option Tr×Option Tr) (kvs:List (Str×PV)),acc.length<2*k->Upd [d] hp0 hp->DS Z li d items hp x y p kvs->cj Z hp (items.drop (2*i)) acc->ek acc p=pf->
 X (iC k (.range (2*i:Nat) (acc.length/2:Nat) 2) (aX 2) vX) ⟨[some (.ref li),some (.ref d),o],hp⟩ QF E:=by
 induction hw with
 |n=>
  intro i k o hp x y p kvs hk u h hv e;cases k with
  |zero=>cases hk
  |succ k=>exact X.Bi rfl (q _ _ _ _ _ u ((show p=pf from e)▸h))
 |c n t acc hn hw ih=>
  intro i k o hp x y p kvs hk u h hv e;cases k with
  |zero=>cases hk
  |succ k=>
  refine gg λG k_=>?_
  obtain⟨_,_,e1,ha,v,ws,rfl,Ç,Ry⟩:=hv;refine k_ ?_;obtain⟨a,rfl,ga⟩:=Qg hn ha;obtain⟨h0,h1,h2⟩:=Kt e1;refine gg λG k_=>?_
  obtain⟨x',y',p',h',d4⟩:=h.step j3 hd hn Ç;refine k_ ?_;obtain⟨el,hk⟩:=Rc hk;rw[el];rw[d4] at e;exact X.Bj zX (X.ok (a:=()) (s:=⟨[some (.ref li),some (.ref d),some (.int (2*i:Nat))],hp⟩) rfl (Bb hz h0 h1 ga h.g1 h.g2 (decide_eq_true (ai h.l.len (by decide))) (ih (i+1) k _ _ x' y' p' _ hk (u.trans (.set _ _ (au.mpr rfl))) h' (h2▸cj.upd (.set _ _ hd) _ Ry) e)))
theorem lC.xW(h:lC acc):acc.length%2=0:=by
 induction h with
 |n=>rfl
 |c n t l hn _ ih=>simp only[cA,cA,aN,Nat.add_mod_right];exact ih
theorem EE(a b:Option α):(wB a b).length<64:=by cases a<;>cases b<;>exact cW rfl
theorem Nv{d:Nat}{x:Option PV}(h:DS (d::Z) li d items hp x y (ek acc (none,none)) kvs)(hZ:∀z∈Z,z<hp.length):iu Z (hp++[.dict (kvs.filter λkv=>!isNone kv.2)]) (.ref hp.length) (td acc):=by
 have f:=h.l.filter;have e:=OR.ks h.x.nn h.y.nn;exact⟨_,⟨hp.length,_,rfl,λz=>dM _ (hZ _ z),gl _ _,aA f.len (by decide),EE _ _,e▸f.keys,e▸f.Zf,λv hv=>(cx.mp hv).elim (λh=>OR.nz (Au.mp h)) λh=>OR.nz (Au.mp h)⟩,cj.upd (.push _ _) _ (cj.less (λa h _ z=>h (aM _ z)) _ (OR.os h.x.nn h.y.nn))⟩
theorem tL(g:st.hp[li]?=some (.list items))(hv:cj Z st.hp items acc)(hw:lC acc)(hl:acc.length<10000)(hZ:∀z∈Z,z<st.hp.length)(q:∀ay w,Upd [] st.hp ay->iu Z ay w (td acc)->Q w ⟨st.loc,ay⟩):
 X (aY old (k+2) (.obj (.ref 552)) [.ref li]) st Q E:=by
 have hlen:=cj.len acc hv;have UA:=(ak.mp g).1;have hz:sz items.length=ah:=decide_eq_true (hlen▸aT (aB hl (by decide)));have e2:2*(acc.length/2)=acc.length:=Nat.mul_div_cancel' (Nat.dvd_of_mod_eq_zero hw.xW);refine Vv (X.dm (X.ok (a:=.ref st.hp.length) (s:=⟨[some (.ref li),none,none],st.hp++[.dict []]⟩) rfl (X.D9 (i:=.range 0 (acc.length/2:Nat) 2) (Tb (by exact rfl) (by exact(Upd.push (S:=[]) _ _).2 _ _ g nofun) (hlen.trans e2.symm) (e2.symm▸aB hl (by decide))) ?_)));have ul:Upd (st.hp.length::Z) st.hp (st.hp++[.dict []]):=.push _ _;have lf:∀a,a∉Z->a<st.hp.length->a∉st.hp.length::Z:=λa h1 h2 h3=>(aP.mp h3).elim (λe=>dM _ (e▸h2)) h1
 refine Ba (Z:=st.hp.length::Z) hz (aL UA) (aU ..) (λay o x y kvs u h=>K.nx ?_) hw 0 dR none _ none none (none,none) [] (aB hl (by unfold dR;decide)) (.refl _ _) ⟨(Upd.push (S:=[]) _ _).2 _ _ g nofun,gl _ _,.n,.n,.n⟩ (cj.upd ul _ (cj.less lf _ hv)) rfl;refine X.ret (X.ok (a:=.ref ay.length) (s:=⟨[some (.ref li),some (.ref st.hp.length),o],ay++[.dict (kvs.filter λkv=>!isNone kv.2)]⟩) ?_ (Rt.rt (q _ _ (u.drop.trans (.push _ _)) (Nv h λz hz=>aB (hZ z hz) u.drop.1))));show fG (.ref st.hp.length) _=_;unfold fG;have zk:sz kvs.length=ah:=decide_eq_true (ai h.l.len (by decide));simp only[h.g2,zk,h.l.known h.x.known h.y.known,Lo,if_true]
end
def Toks(d:List UInt8):Nat->List (Tk×Nat)->Prop
 |n,[]=>n+kB aj (d.drop n)=d.length
 |n,(t,a)::ts=>n+kB aj (d.drop n)=a/\(∃r,d.drop a=t.b++r/\r.takeWhile gG=[])/\Toks d (a+t.b.length) ts
def Hd(Z:List Nat)(hp:List PO)(c:Nat)(d:List UInt8):List (Tk×Nat)->PV->Prop
 |[],tok=>tok=.tup [.str "end",.bytes [],.int d.length]/\HC hp c d d.length
 |(t,p)::ts,tok=>∃v n,tok=fW t v p/\TV Z hp t v/\HC hp c d n/\Toks d n ts
noncomputable def ti:Tk->List UInt8->Bool
 |.s x,w=>x.b==w
 |_,_=>aj
def Yg(ap:Ap):M PF:=(aq (cI (tC .Eq (af 3) (eList (pure []))) (aq (bw (af 8)) (pure .next)) (pure .next)) (aq (mR (bV ap (eh (bt (af 3) (m_ (pure (.int 1)))) "items") "append" (aa (af 8) (pure [])))) (pure .next)))
def Vc(ap:Ap):M PF:=(aq (bg (ax ap (pure (.obj (.ref 373))) (aa (af 0) (pure []))) (aX 1)) (pure .next))
def Za(ap:Ap):M PF:=(aq (cI (tC .Eq (ax ap (pure (.obj (.builtin "len"))) (aa (af 3) (pure []))) (pure (.int 40))) (aq (cZ (aa (pure (.str "nested too deep")) (aa (af 6) (pure [])))) (pure .next)) (pure .next)) (aq (mR (bV ap (af 3) "append" (aa (ax ap (pure (.obj (.ref 515))) (aa (af 5) (pure []))) (pure [])))) (pure .next)))
def Y7(ap:Ap):M PF:=(aq (bg (ax ap (pure (.obj (.ref 559))) (aa (af 3) (aa (af 5) (aa (af 6) (pure []))))) (aX 8)) (pure .next))
def Zd(ap:Ap):M PF:=(aq (bg (ax ap (pure (.obj (.ref 547))) (aa (af 0) (aa (af 1) (aa (af 2) (pure []))))) (aX 8)) (pure .next))
def Y9(ap:Ap):M PF:=(aq (cI (bY (tC .Eq (af 4) (pure (.str "sign"))) (bY (tC .In (af 5) (bq (aa (pure (.bytes [93])) (aa (pure (.bytes [62,62])) (pure []))))) (pure ah))) (Y7 ap) (Zd ap)) (Yg ap))
def Y6(ap:Ap):M Bool:=(bY (tC .NotEq (af 3) (eList (pure []))) (bY (tV (bV ap (bt (af 3) (m_ (pure (.int 1)))) "wants_key" (pure []))) (bY (tC .NotEq (af 4) (pure (.str "name"))) (bY (eT (tV (ax ap (pure (.obj (.ref 380))) (aa (af 1) (aa (pure (.bytes [62,62])) (pure [])))))) (pure ah)))))
def OE(ap:Ap):M PF:=aq (cI (tV (af 7)) (Za ap) (Y9 ap)) (Vc ap)
def X6(ap:Ap):M PF:=(aq (bg (af 1) (x7 3 [aX 4,aX 5,aX 6])) (aq (bg (zg .And (eC .Eq (af 4) (pure (.str "sign"))) (eC .In (af 5) (bq (aa (pure (.bytes [91])) (aa (pure (.bytes [60,60])) (pure [])))))) (aX 7)) (aq (cI (Y6 ap) (aq (cZ (aa (pure (.str "a key is no name")) (aa (af 6) (pure [])))) (pure .next)) (pure .next)) (OE ap))))
def WH(ap:Ap):M PF:=bM (tV (pure (.bool ah))) (X6 ap)
theorem zH(old:Old)(ap:Ap):Sk old ap=aq (bg (eList (pure [])) (aX 3)) (aq (WH ap) (pure .next)):=rfl
section
variable{m fr:Nat}
theorem TV.ZI(hZ:∀z∈Z,z<hp0.length)(hv:(v=t.wo/\t≠.a .r5)\/(t=.a .r5/\∃a,v=.ref a/\hp0.length<=a/\hp[a]?=some (.inst 285 [.int 5,.int 1]))):TV Z hp t v:=by
 rcases hv with hv|⟨e,a,e2,hl,g⟩
 ·exact .inl hv
 ·exact .inr ⟨e,a,e2,λz=>dH (hZ _ z) hl,g⟩
theorem rW{ts:List (Tk×Nat)}(h:HC st.hp c d n)(ht:Toks d n ts)(hZ:∀z∈Z,z<st.hp.length)(q:∀ay tok,Upd [c] st.hp ay->Hd Z ay c d ts tok->Q tok ⟨st.loc,ay⟩):X (aY old (k+6) (.obj (.ref 373)) [.ref c]) st Q E:=by
 cases ts with
 |nil=>exact Kw h ht (q _ _ (.set _ _ (au.mpr rfl)) ⟨rfl,h.set⟩)
 |cons x ts=>
  obtain⟨t,a⟩:=x;refine gg λG k_=>?_
  obtain⟨h1,⟨r,h2,h3⟩,h4⟩:=ht;refine k_ ?_;exact E6 t h h1 h2 h3 λay v u hc hv=>q ay _ u ⟨v,_,rfl,TV.ZI hZ hv,hc,h4⟩
theorem Ev.last{l:List PV}{x:PV}(e:st.hp[c]?=some (.list (l++[x])))(h:sz (l++[x]).length=ah):Ev (km (.ref c) (.int (-1))) st x:=by
 have hi:idx (-1) (l++[x]).length=some l.length:=by
  have hl:(l++[x]).length=l.length+1:=av;unfold idx;rw[if_pos h,if_neg (by decide),hl,if_pos (show-((l.length+1:Nat):Int)<=-1 from Ls (fY.mpr (aQ 1 _)))];simp only[Int.natCast_add,Pn,Int.natCast_one,Int.add_neg_cancel_right];rfl
 refine lO ?_;show((listAt st.hp c).bind λl=>(idx (-1) l.length).bind λj=>l[j]?)=_;simp only[gZ e,cM,hi,cM,iU]
theorem eq_nil{l:List PV}{b:M PV}(hb:Ev b st (.ref c))(e:st.hp[c]?=some (.list l))(q:QB l.isEmpty ⟨st.loc,st.hp++[.list []]⟩):X (tC .Eq b (eList (pure []))) st QB E:=by
 have hc:=(ak.mp e).1;refine X.tC (X.ev hb (X.list (l:=[]) Ev.nil rfl (X.ok (a:=.bool l.isEmpty) (s:=⟨st.loc,st.hp++[.list []]⟩) ?_ (X.truth q))));show MF (.ref c) (.ref st.hp.length) _=_;unfold MF;rw[show kA (St.hp ⟨st.loc,st.hp++[.list []]⟩) 40 (.ref c) (.ref st.hp.length)=_ from zj (aL hc) (by rw[bh hc];exact e) (gl _ _)]
theorem ne_nil{l:List PV}{b:M PV}(hb:Ev b st (.ref c))(e:st.hp[c]?=some (.list l))(q:QB (!l.isEmpty) ⟨st.loc,st.hp++[.list []]⟩):X (tC .NotEq b (eList (pure []))) st QB E:=by
 have hc:=(ak.mp e).1;refine X.tC (X.ev hb (X.list (l:=[]) Ev.nil rfl (X.ok (a:=.bool (!l.isEmpty)) (s:=⟨st.loc,st.hp++[.list []]⟩) ?_ (X.truth q))));show Nx (.ref c) (.ref st.hp.length) _=_;unfold Nx;rw[show kA (St.hp ⟨st.loc,st.hp++[.list []]⟩) 40 (.ref c) (.ref st.hp.length)=_ from zj (aL hc) (by rw[bh hc];exact e) (gl _ _)]
theorem S6{l:List PV}{x:PV}(e:st.hp[c]?=some (.list (l++[x])))(h:sz (l++[x]).length=ah)(q:Q x ⟨st.loc,st.hp.set c (.list l)⟩):X (aY old (k+1) (.obj (.builtin "list.pop")) [.ref c]) st Q E:=by
 refine X.ok (a:=x) (s:=⟨st.loc,st.hp.set c (.list l)⟩) ?_ q;show Fz (.ref c) st=_;unfold Fz;simp only[e,h,if_true,List.getLast?_append,List.getLast?_singleton,List.dropLast_concat];rfl
structure Top(hp:List PO)(L:List PV)(L':List PV)(f:Nat)(mark:List UInt8)(li:Nat)(vs:List PV):Prop where
 l:L=L'++[.ref f]
 f:hp[f]?=some (.inst 515 [.bytes mark,.ref li])
 i:hp[li]?=some (.list vs)
 z:sz vs.length=ah
noncomputable def wk(mark:List UInt8)(vs:List PV):Bool:=(mark==[60,60])&&((vs.length:Int).fmod 2==0)
theorem sv(t:Top st.hp L L' f mark li vs):Ev (aY old (k+2) (.obj (.ref 512)) [.ref f]) st (.bool (wk mark vs)):=by
 refine gg λG k_=>?_
 obtain⟨_,_,e,rfl,rfl⟩:=(Vu (old:=old) (k:=k+1) (x0:=.ref f) (st:=st) (E:=λ_ _=>False) (Q:=λu s=>u=.bool (wk mark vs)/\s=st) (X.c6 (Ev.bA (Ev.C (Ev.at_ rfl (Ev.attr t.f uV rfl rfl)) rfl Ev.eqB) λ_=>Ev.C (Ev.B (Ev.wF (Ev.cons (Ev.at_ rfl (Ev.attr t.f nf rfl rfl)) Ev.nil) t.i t.z) rfl rfl) rfl Ev.pU) (Rt.rt ⟨rfl,rfl⟩))).run;refine k_ ?_;exact e
noncomputable abbrev Yd:M PV:=zg .And (eC .Eq (bt (af 0) (pure (.int 0))) (pure (.str "sign"))) (eC .Eq (bt (af 0) (pure (.int 1))) (af 1))
theorem Jt(t:Tk)(w:List UInt8):Ev Yd ⟨[some (fW t t.wo p),some (.bytes w)],hp⟩ (.bool (ti t w)):=by
 rcases t with x|x|x
 ·cases x<;>rfl
 ·rfl
 ·rfl
theorem vp(h:TV Z hp t v):Ev (aY old (k+1) (.obj (.ref 380)) [fW t v p,.bytes w]) st (.bool (ti t w)):=by
 have key:Ev Yd ⟨[some (fW t v p),some (.bytes w)],st.hp⟩ (.bool (ti t w)):=by
  rcases h with⟨rfl,_⟩|⟨rfl,a,rfl,_⟩
  ·exact Jt t w
  ·rfl
 obtain⟨_,_,e,rfl,rfl⟩:=(Qm (old:=old) (k:=k) (x0:=fW t v p) (x1:=.bytes w) (st:=st) (E:=λ_ _=>False) (Q:=λu s=>u=.bool (ti t w)/\s=st) (X.c6 key (Rt.rt ⟨rfl,rfl⟩))).run;exact e
theorem wW:Ev (aY old (k+1) (.obj (.ref 380)) [.tup [.str "end",.bytes [],.int p],.bytes w]) st (.bool aj):=by
 refine gg λG k_=>?_
 obtain⟨_,_,e,rfl,rfl⟩:=(Qm (old:=old) (k:=k) (x0:=.tup [.str "end",.bytes [],.int p]) (x1:=.bytes w) (st:=st) (E:=λ_ _=>False) (Q:=λu s=>u=.bool aj/\s=st) (X.c6 (Ev.bA (y:=aj) (z:=aj) rfl (λe=>nomatch e)) (Rt.rt ⟨rfl,rfl⟩))).run;refine k_ ?_;exact e
theorem Fj(w:List UInt8):Ev (m9 (tC .Eq (af 1) (pure (.bytes [93]))) (pure (.bytes [91])) (pure (.bytes [60,60]))) ⟨[some (.ref fr),some (.bytes w),some (.int p),none,none],hp⟩ (.bytes (if w==[93] then[91] else[60,60])):=by
 cases h:w==[93]
 ·exact Ev.gF (Ev.tC rfl rfl Ev.eqB) h rfl
 ·exact Ev.nq (Ev.tC rfl rfl Ev.eqB) h rfl
inductive xv(hp:List PO)(w:List UInt8):List PV->Prop
 |nil:xv hp w []
 |top (L L':List PV) (f:Nat) (mark:List UInt8) (li:Nat) (vs:List PV) (t:Top hp L L' f mark li vs) (z:sz L.length=ah) (hm:(mark==(if w==[93] then[91] else[60,60]))=aj):xv hp w L
theorem qS(g:st.hp[fr]?=some (.list L))(hL:xv st.hp w L)(q:∀ay,Upd [] st.hp ay->E p ay):X (aY old (k+4) (.obj (.ref 559)) [.ref fr,.bytes w,.int p]) st Q E:=by
 have op:=Fj (hp:=st.hp) (fr:=fr) (p:=p) w;refine Qo (X.hY op (X.qp (X.hJ (eq_nil rfl g ⟨λe=>Cn rfl (X.raise (x:="a sign closes what is not open") rfl (q _ (.push _ _))),λe=>?_⟩))));rcases hL with _|⟨_,L',f,mark,li,vs,t,z,hm⟩
 ·cases e
 ·have u:=Upd.push (S:=[]) st.hp (.list []);have g':=u.2 _ _ g aJ;refine X.hJ (X.ev (a:=ah) ?_ (Cn rfl (Cn rfl (X.raise (x:="a sign closes what is not open") rfl (q _ u)))));rw[t.l] at g' z;refine Ev.tC (Ev.at_ (Ev.sub (by exact rfl) (by exact rfl) (Ev.last g' z)) (Ev.attr (u.2 _ _ t.f aJ) uV rfl rfl)) (by exact rfl) ?_;have:=Ev.Ph (st:=⟨[some (.ref fr),some (.bytes w),some (.int p),some (.bytes (if w==[93] then[91] else[60,60])),none],st.hp++[.list []]⟩) (a:=mark) (b:=if w==[93] then[91] else[60,60]);simp only[hm] at this;exact this
theorem qT(g:st.hp[fr]?=some (.list L))(t:Top st.hp L L' f mark li vs)(z:sz L.length=ah)(hm:mark=if w==[93] then[91] else[60,60])(j3:f≠fr/\li≠fr)
 (q:∀ay,Upd [fr] st.hp ay->ay[fr]?=some (.list L')->X (aq (cI (tC .Eq (af 3) (pure (.bytes [91]))) (aq (bw (eh (af 4) "items")) (pure .next)) (pure .next)) (aq (cI (eT (tV (bV (aY old (k+3)) (af 4) "wants_key" (pure [])))) (aq (cZ (aa (pure (.str "a key has no value")) (aa (af 2) (pure [])))) (pure .next)) (pure .next)) (aq (bw (ax (aY old (k+3)) (pure (.obj (.ref 552))) (aa (eh (af 4) "items") (pure [])))) (pure .next)))) ⟨[some (.ref fr),some (.bytes w),some (.int p),some (.bytes mark),some (.ref f)],ay⟩ (Rt Q st.loc) E):X (aY old (k+4) (.obj (.ref 559)) [.ref fr,.bytes w,.int p]) st Q E:=by
 have op:=Fj (hp:=st.hp) (fr:=fr) (p:=p) w;rw[<-hm] at op;have u:=Upd.push (S:=[fr]) st.hp (.list []);have u0:=Upd.push (S:=[]) st.hp (.list []);have g':=u0.2 _ _ g aJ;rw[t.l] at g' z;refine Qo (X.hY op (X.qp (X.hJ (eq_nil rfl g ⟨λe=>by rw[t.l] at e;simp at e,λ_=>X.hJ (X.ev (a:=aj) ?_ ⟨nofun,λ_=>X.ev rfl (C7 rfl (X.nx (K.nx (X.dm (X.fh (v:=.ref fr) (vs:=[]) (by exact rfl) (Ev.mL (id:="list.pop") g' rfl) (by exact rfl) (S6 g' z ?_))))))⟩)⟩))))
 ·refine Ev.tC (Ev.at_ (Ev.sub (by exact rfl) (by exact rfl) (Ev.last g' z)) (Ev.attr (u0.2 _ _ t.f aJ) uV rfl rfl)) (by exact rfl) ?_;have:=Ev.Ph (st:=⟨[some (.ref fr),some (.bytes w),some (.int p),some (.bytes mark),none],st.hp++[.list []]⟩) (a:=mark) (b:=mark);simp only[beq_self_eq_true] at this;exact this
 ·exact q _ (u.trans (.set _ _ (au.mpr rfl))) (bb (ak.mp g').1)
theorem Wc(n:Nat):((n:Int).fmod 2==0)=(n%2==0):=by
 rw[jh _ (by decide:(0:Int)<=2)];exact(lI 0 (n%2)).trans mT
theorem Top.upd(t:Top hp L L' f mark li vs)(u:Upd S hp ay)(h1:f∉S)(h2:li∉S):Top ay L L' f mark li vs:=⟨t.l,u.2 _ _ t.f h1,u.2 _ _ t.i h2,t.z⟩
theorem Df(g:st.hp[fr]?=some (.list L))(t:Top st.hp L L' f [91] li vs)(z:sz L.length=ah)(j3:f≠fr/\li≠fr)(q:∀ay,Upd [fr] st.hp ay->ay[fr]?=some (.list L')->Q (.ref li) ⟨st.loc,ay⟩):
 X (aY old (k+4) (.obj (.ref 559)) [.ref fr,.bytes [93],.int p]) st Q E:=
 qT g t z rfl j3 λay u g'=>X.tt rfl (X.c6 (Ev.at_ rfl (Ev.attr (u.2 _ _ t.f (by simpa using j3.1)) nf rfl rfl)) (K.rt (Rt.rt (q ay u g'))))
theorem Dg(g:st.hp[fr]?=some (.list L))(t:Top st.hp L L' f [60,60] li vs)(z:sz L.length=ah)(j3:f≠fr/\li≠fr)(hv:cj Z st.hp vs acc)(hw:lC acc)(hl:acc.length<10000)(hZ:∀z∈Z,z<st.hp.length)(KI:fr∈Z)
 (q:∀ay w,Upd [fr] st.hp ay->ay[fr]?=some (.list L')->iu Z ay w (td acc)->Q w ⟨st.loc,ay⟩):X (aY old (k+4) (.obj (.ref 559)) [.ref fr,.bytes [62,62],.int p]) st Q E:=by
 refine qT g t z rfl j3 λay u g'=>X.ff rfl ?_
 have t':=t.upd u (by simpa using j3.1) (by simpa using j3.2);have hk:wk [60,60] vs=ah:=by
  unfold wk;rw[cj.len acc hv];have:=hw.xW;rw[Wc,this];rfl
 have w:=λl:List (Option PV)=>sv (old:=old) (k:=k+1) (st:=⟨l,ay⟩) t'
 rw[hk] at w;refine X.ff (Ev.eT (Ev.tV (Ev.fh (v:=.ref f) (vs:=[]) rfl (Ev.m t'.f EW) rfl (w _)))) ?_;refine X.ret (X.call rfl (Ev.cons (Ev.at_ rfl (Ev.attr t'.f nf rfl rfl)) Ev.nil) (tL (Z:=Z) t'.i (cj.upd (u.mono λn h=>by simp only[au.mp h];exact KI) _ hv) hw hl (λz hz=>aB (hZ z hz) u.1) λfw w u2 È=>Rt.rt (q fw w (u.trans u2.nil) (u2.2 _ _ g' aJ) È)))
theorem Dh(g:st.hp[fr]?=some (.list L))(t:Top st.hp L L' f [60,60] li vs)(z:sz L.length=ah)(j3:f≠fr/\li≠fr)(ho:wk [60,60] vs=aj)
 (q:∀ay,Upd [fr] st.hp ay->E p ay):X (aY old (k+4) (.obj (.ref 559)) [.ref fr,.bytes [62,62],.int p]) st Q E:=by
 refine qT g t z rfl j3 λay u g'=>X.ff rfl ?_
 have t':=t.upd u (by simpa using j3.1) (by simpa using j3.2);have w:=λl:List (Option PV)=>sv (old:=old) (k:=k+1) (st:=⟨l,ay⟩) t'
 rw[ho] at w;exact X.tt (Ev.eT (Ev.tV (Ev.fh (v:=.ref f) (vs:=[]) rfl (Ev.m t'.f EW) rfl (w _)))) (X.raise (x:="a key has no value") rfl (q _ u))
end
noncomputable abbrev TS:=List (Tk×Nat)
inductive Res where
 |fault (n:Nat)|ok (t:Tr) (ts:TS)
mutual
noncomputable def rd(e:Nat):Nat->TS->Res
 |0,_=>.fault 0
 |_+1,[]=>.fault e
 |_+1,(.a x,_)::ts=>.ok (.a x) ts
 |k+1,(.s .ob,_)::ts=>Ct e k [] ts
 |k+1,(.s .od,_)::ts=>yC e k [] ts
 |_+1,(_,p)::_=>.fault p
noncomputable def Ct(e:Nat):Nat->List Tr->TS->Res
 |0,_,_=>.fault 0
 |_+1,acc,(.s .cb,_)::ts=>.ok (.arr acc) ts
 |k+1,acc,ts=>match rd e k ts with
  |.fault n=>.fault n
  |.ok t cP=>Ct e k (acc++[t]) cP
noncomputable def yC(e:Nat):Nat->List Tr->TS->Res
 |0,_,_=>.fault 0
 |_+1,_,[]=>.fault e
 |_+1,acc,(.s .cd,_)::ts=>.ok (td acc) ts
 |k+1,acc,(.a .nA,_)::ts=>match rd e k ts with
  |.fault n=>.fault n
  |.ok t cP=>yC e k (acc++[.a .nA,t]) cP
 |k+1,acc,(.a .nW,_)::ts=>match rd e k ts with
  |.fault n=>.fault n
  |.ok t cP=>yC e k (acc++[.a .nW,t]) cP
 |_+1,_,(_,p)::_=>.fault p
end
noncomputable def Tk.wt:Tk->Nat
 |.s .ob=>1
 |.s .od=>2
 |_=>0
noncomputable def tw:TS->Nat
 |[]=>0
 |(t,_)::ts=>t.wt+tw ts
noncomputable def kX:Tk->Bool
 |.s .ob=>ah
 |.s .od=>ah
 |_=>aj
noncomputable def Qu:Tk->Bool
 |.s .cb=>ah
 |.s .cd=>ah
 |_=>aj
noncomputable abbrev X9:M PV:=zg .And (eC .Eq (af 4) (pure (.str "sign"))) (eC .In (af 5) (bq (aa (pure (.bytes [91])) (aa (pure (.bytes [60,60])) (pure [])))))
noncomputable abbrev Y_:M Bool:=bY (tC .Eq (af 4) (pure (.str "sign"))) (bY (tC .In (af 5) (bq (aa (pure (.bytes [93])) (aa (pure (.bytes [62,62])) (pure []))))) (pure ah))
section
variable{m fr:Nat}{a1 a2 a3 a4 o5:Option PV}
theorem yk(h:TV Z hp t v):Ev X9 ⟨[a1,a2,a3,a4,some (.str t.kd),some v,o6,o7,o8],ay⟩ (.bool (kX t)):=by
 rcases h with⟨rfl,h⟩|⟨rfl,a,rfl,_⟩
 ·rcases t with x|x|x<;>cases x<;>rfl
 ·rfl
theorem Ey(h:TV Z hp t v):Ev Y_ ⟨[a1,a2,a3,a4,some (.str t.kd),some v,o6,o7,o8],ay⟩ (Qu t):=by
 rcases h with⟨rfl,h⟩|⟨rfl,a,rfl,_⟩
 ·rcases t with x|x|x<;>cases x<;>rfl
 ·rfl
noncomputable abbrev LL(old:Old)(k:Nat)(QF:PF->St->Prop)(E:Int->List PO->Prop):=Lp (tV (pure (.bool ah))) (X6 (aY old (k+6))) QF E
inductive Wk(hp:List PO):Bool->List PV->Prop
 |nil:Wk hp aj []
 |top (L L':List PV) (f:Nat) (mark:List UInt8) (li:Nat) (vs:List PV) {b:Bool} (t:Top hp L L' f mark li vs) (w:wk mark vs=b):Wk hp b L
theorem rL{kd:Str}{w:PV}{isop sg wkb:Bool}(hk:tok=.tup [.str kd,w,.int p])(À:∀ay,Ev X9 ⟨[some (.ref c),some tok,some (.bool aj),some (.ref fr),some (.str kd),some w,some (.int p),o7,o8],ay⟩ (.bool isop))
 (Ä:∀st,Ev (aY old (k+6) (.obj (.ref 380)) [tok,.bytes [62,62]]) st (.bool sg)) (g:hp[fr]?=some (.list L)) (zL:sz L.length=ah) (hw:Wk hp wkb L)
 (q1:(wkb&&(!decide (kd="name")&&!sg))=ah->E p (hp++[.list []]))
 (q2:(wkb&&(!decide (kd="name")&&!sg))=aj->X (OE (aY old (k+6))) ⟨[some (.ref c),some tok,some (.bool aj),some (.ref fr),some (.str kd),some w,some (.int p),some (.bool isop),o8],hp++[.list []]⟩ (LL old k QF E) E):
 X (WH (aY old (k+6))) ⟨[some (.ref c),some tok,some (.bool aj),some (.ref fr),o4,o5,o6,o7,o8],hp⟩ QF E:=by
 refine X.dt (t:=ah) rfl (λ_=>X.asg (X.ev rfl (X.ok (a:=()) (s:=⟨[some (.ref c),some tok,some (.bool aj),some (.ref fr),some (.str kd),some w,some (.int p),o7,o8],hp⟩) (by rw[hk];rfl) (X.hY (À _) (X.qp (X.bY (ne_nil rfl g ⟨λe=>?_,λe=>?_⟩))))))) nofun
 ·rcases hw with _|⟨_,L',f,mark,li,vs,t,rfl⟩
  ·cases e
  ·have g':=(Upd.push (S:=[]) hp (.list [])).2 _ _ g nofun;have t':=t.upd (Upd.push (S:=[]) hp (.list [])) nofun nofun;rw[t.l] at g' zL;refine X.Ae (Ev.tV (Ev.fh (v:=.ref f) (vs:=[]) (Ev.sub rfl rfl (Ev.last (by exact g') zL)) (Ev.m (by exact t'.f) EW) rfl (sv (by exact t')))) (λe1=>X.ev (Ev.bY (Ev.tC rfl rfl Ev.YN) λe2=>Ev.bY (Ev.eT (Ev.tV (Ev.call rfl (Ev.cons rfl (Ev.cons rfl Ev.nil)) (Ä _)))) λe3=>rfl) ⟨λe=>X.raise (x:="a key is no name") rfl (q1 ?_),λe=>X.nx (K.nx (q2 ?_))⟩) λe1=>⟨nofun,λ_=>X.nx (K.nx (q2 ?_))⟩
   ·rw[e1];simpa using e
   ·rw[e1];simpa using e
   ·rw[e1];rfl
 ·rcases hw with _|⟨_,L',f,mark,li,vs,t,_⟩
  ·exact⟨nofun,λ_=>X.nx (K.nx (q2 rfl))⟩
  ·rw[t.l] at e;simp at e
def AV(old:Old)(k c fr:Nat)(hp:List PO)(o1 o4 o5 o6 o7:Option PV)(v:PV)(QF:PF->St->Prop)(E:Int->List PO->Prop):Prop:=
 X (Yg (aY old (k+6))) ⟨[some (.ref c),o1,some (.bool aj),some (.ref fr),o4,o5,o6,o7,some v],hp⟩ (K (Vc (aY old (k+6))) (LL old k QF E) E) E
def Fin(old:Old)(k c fr:Nat)(d:List UInt8)(Z S:List Nat)(hp0:List PO)(L:List PV)(QF:PF->St->Prop)(E:Int->List PO->Prop):Res->Prop
 |.fault n=>∀ay,Upd S hp0 ay->E n ay
 |.ok t ts=>∀ay v n o1 o4 o5 o6 o7,Upd S hp0 ay->ay[fr]?=some (.list L)->iu Z ay v t->HC ay c d n->Toks d n ts->AV old k c fr ay o1 o4 o5 o6 o7 v QF E
inductive Ctx(hp:List PO)(fr:Nat)(ts:TS):List PV->Prop
 |nil:Ctx hp fr ts []
 |top (L L':List PV) (f:Nat) (mark:List UInt8) (li:Nat) (vs:List PV) (t:Top hp L L' f mark li vs) (w:wk mark vs=aj) (h1:f≠fr) (h2:li≠fr) (hm:(mark=[91]/\∀p cP,ts≠(.s .cb,p)::cP)\/mark=[60,60]):Ctx hp fr ts L
theorem Ctx.hw(h:Ctx hp fr ts L):Wk hp aj L:=by
 rcases h with _|⟨_,L',f,mark,li,vs,t,w,_⟩
 ·exact .nil
 ·exact .top _ _ _ _ _ _ t w
theorem Mg{x:At}(h:TV Z hp (.a x) v)(hZ:∀z∈Z,z<hp.length)(hk:tok=fW (.a x) v p)(q:∀ay w,Upd [] hp ay->xr Z ay w x->AV old k c fr ay (some tok) (some (.str x.kd)) (some v) (some (.int p)) (some (.bool aj)) w QF E):
 X (OE (aY old (k+6))) ⟨[some (.ref c),some tok,some (.bool aj),some (.ref fr),some (.str x.kd),some v,some (.int p),some (.bool aj),o8],hp⟩ (LL old k QF E) E:=by
 refine X.gF (t:=aj) rfl rfl (X.gF (Ey (t:=.a x) h) rfl (X.dm (X.call rfl rfl ?_)));exact hk.symm▸Ja h hZ λay w u hw=>X.nx (K.nx (by have:=q ay w u hw;rw[hk] at this;exact this))
end
set_option backward.match.sparseCases true
structure jL(hp:List PO)(Z:List Nat)(c fr:Nat):Prop where
 z:∀z∈Z,z<hp.length
 hc:c∈Z
 hf:fr∈Z
 ne:c≠fr
theorem jL.upd{fr:Nat}(C:jL hp Z c fr)(u:Upd S hp ay):jL ay Z c fr:=⟨λz h=>aB (C.z z h) u.1,C.hc,C.hf,C.ne⟩
theorem Upd.fresh{fb:List PO}{fr:Nat}(u:Upd [c,fr] hp ay)(hf:hp.length<=f)(hl:hp.length<=li)(v:Upd [c,fr,f,li] ay fb):Upd [c,fr] hp fb:=⟨ai u.1 v.1,λa o e k=>v.2 a o (u.2 a o e k) (by
 have:=(ak.mp e).1;simp only[aP,aJ,or_false,not_or] at k⊢;exact⟨k.1,k.2,aL (aB this hf),aL (aB this hl)⟩)⟩
section
variable{m fr:Nat}{a1 a2 a3 a4 o5:Option PV}
theorem Ld{loc:List (Option PV)}(h0:loc[0]?=some (some (.ref c)))(h:HC hp c d n)(ht:Toks d n ts)(hZ:∀z∈Z,z<hp.length)(q:∀ay tok,Upd [c] hp ay->Hd Z ay c d ts tok->X (WH (aY old (k+6))) ⟨loc.set 1 (some tok),ay⟩ QF E):X (Vc (aY old (k+6))) ⟨loc,hp⟩ (LL old k QF E) E:=by
 have g:Ev (af 0) ⟨loc,hp⟩ (.ref c):=by delta Ev af;rw[h0]
 exact X.dm (X.call rfl (Ev.cons g Ev.nil) (rW h ht hZ λay tok u hd=>X.nx (Lp.nx (q ay tok u hd))))
structure OH(hp H:List PO)(fr:Nat)(L:List PV)(b:List UInt8):Prop where
 u:Upd [fr] hp H
 g1:H[fr]?=some (.list (L++[.ref hp.length]))
 g2:H[hp.length]?=some (.inst 515 [.bytes b,.ref (hp.length+1)])
 g3:H[hp.length+1]?=some (.list [])
theorem OH.new{b:List UInt8}(g:hp[fr]?=some (.list L)):OH hp ((hp++[PO.inst 515 [.bytes b,.ref (hp.length+1)],PO.list []]).set fr (PO.list (L++[.ref hp.length]))) fr L b:=by
 have KI:=(ak.mp g).1;have u0:Upd [fr] hp (hp++[PO.inst 515 [.bytes b,.ref (hp.length+1)],PO.list []]):=⟨by simp only[av];exact aF ..,λa o e _=>by rw[bh (ak.mp e).1];exact e⟩;have us:Upd [fr] (hp++[PO.inst 515 [.bytes b,.ref (hp.length+1)],PO.list []]) ((hp++[PO.inst 515 [.bytes b,.ref (hp.length+1)],PO.list []]).set fr (PO.list (L++[.ref hp.length]))):=.set _ _ (au.mpr rfl);have hn:∀{a},hp.length<=a->a∉[fr]:=λh z=>dH (au.mp z▸KI) h
 refine⟨u0.trans us,bb (aB KI u0.1),us.2 _ _ ?_ (hn (aC _)),us.2 _ _ ?_ (hn (bX _))⟩
 ·rw[cL (aC _),kG];rfl
 ·rw[cL (show hp.length<=hp.length+1 from bX _),gJ];rfl
theorem OH.z{H:List PO}{b:List UInt8}(O:OH hp H fr L b)(hZ:∀z∈Z,z<hp.length):∀z∈hp.length::(hp.length+1)::Z,z<H.length:=λz h=>
 (aP.mp h).elim (λe=>e▸(ak.mp O.g2).1) λh=>(aP.mp h).elim (λe=>e▸(ak.mp O.g3).1) λh=>aB (hZ z h) O.u.1
theorem open_x{b:List UInt8}(g:hp[fr]?=some (.list L))(hL:L.length<40)(h:HC hp c d n)(ht:Toks d n ts)(C:jL hp Z c fr)
 (q:∀ay tok f li,Upd [c,fr] hp ay->jL ay Z c fr->f∉Z->li∉Z->f≠li->Hd (f::li::Z) ay c d ts tok->ay[fr]?=some (.list (L++[.ref f]))->Top ay (L++[.ref f]) L f b li []->(∀fb,Upd [c,fr,f,li] ay fb->Upd [c,fr] hp fb)->
  X (WH (aY old (k+6))) ⟨[some (.ref c),some tok,some (.bool aj),some (.ref fr),o4,some (.bytes b),o6,some (.bool ah),o8],ay⟩ QF E):
 X (OE (aY old (k+6))) ⟨[some (.ref c),some tok,some (.bool aj),some (.ref fr),o4,some (.bytes b),o6,some (.bool ah),o8],hp⟩ (LL old k QF E) E:=by
 have zL:sz L.length=ah:=decide_eq_true (by lia);have KI:=(ak.mp g).1;have hc:=h.lt;refine X.tt rfl (X.ff (Ev.tC (x:=.int L.length) (y:=.int 40) (Ev.wF rfl g zL) rfl ?_) (X.AJ rfl g (X.call rfl rfl (BB ⟨L,?_,zL,X.nx (K.nx ?_)⟩))))
 ·have:=Ev.pU (st:=⟨[some (.ref c),some tok,some (.bool aj),some (.ref fr),o4,some (.bytes b),o6,some (.bool ah),o8],hp⟩) (a:=L.length) (b:=40);rwa[show((L.length:Int)==40)=aj from beq_eq_false_iff_ne.mpr (by lia)] at this
 ·show(hp++_)[fr]?=_;rw[bh KI];exact g
 show X _ ⟨_,(hp++[PO.inst 515 [.bytes b,.ref (hp.length+1)],PO.list []]).set fr (PO.list (L++[.ref hp.length]))⟩ _ _;have O:=OH.new (b:=b) g;generalize(hp++[PO.inst 515 [.bytes b,.ref (hp.length+1)],PO.list []]).set fr (PO.list (L++[.ref hp.length]))=H at*;have hn:∀{a},hp.length<=a->a∉[c]:=λh z=>dH (au.mp z▸hc) h
 exact Ld (Z:=hp.length::(hp.length+1)::Z) rfl (h.upd O.u (λz=>C.ne (au.mp z))) ht (O.z C.z) λay tok u hd=>
  have uu:Upd [c,fr] hp ay:=(O.u.mono λ_ z=>.tail _ z).trans (u.mono λ_ z=>au.mp z▸aU ..)
  q ay tok hp.length (hp.length+1) uu ((C.upd O.u).upd u) (λz=>dM _ (C.z _ z)) (λz=>Nat.not_succ_lt_self (C.z _ z)) (aL (aO _)) hd (u.2 _ _ O.g1 (λz=>C.ne (au.mp z).symm)) ⟨rfl,u.2 _ _ O.g2 (hn (aC _)),u.2 _ _ O.g3 (hn (bX _)),rfl⟩ λfb u2=>uu.fresh (aC _) (bX _) u2
theorem Lm(t:Top hp L L' f mark li vs)(g:hp[fr]?=some (.list L))(zL:sz L.length=ah)(h:HC hp c d n)(ht:Toks d n ts)(hZ:∀z∈Z,z<hp.length)(UA:li≠c)
 (q:∀ay tok,Upd [c,li] hp ay->ay[li]?=some (.list (vs++[v]))->Hd Z ay c d ts tok->X (WH (aY old (k+6))) ⟨[some (.ref c),some tok,some (.bool aj),some (.ref fr),o4,o5,o6,o7,some v],ay⟩ QF E):
 AV old k c fr hp o1 o4 o5 o6 o7 v QF E:=by
 have u0:=Upd.push (S:=[]) hp (.list []);have t':=t.upd u0 nofun nofun;have g':=u0.2 _ _ g nofun;rw[t.l] at g' zL;unfold AV;refine X.qp (eq_nil rfl g ⟨λe=>by rw[t.l] at e;simp at e,λ_=>X.nx (K.nx ?_)⟩);refine X.app (c:=li) (v:=v) (Ev.at_ (Ev.sub rfl rfl (Ev.last (by exact g') zL)) (Ev.attr (by exact t'.f) nf rfl rfl)) (by exact t'.i) rfl t.z (X.nx (K.nx ?_));have u1:Upd [c,li] hp ((hp++[PO.list []]).set li (PO.list (vs++[v]))):=u0.nil.trans (.set _ _ (by simp));have g1:((hp++[PO.list []]).set li (.list (vs++[v])))[li]?=some (.list (vs++[v])):=bb (ak.mp t'.i).1;have G8:HC ((hp++[PO.list []]).set li (PO.list (vs++[v]))) c d n:=(h.upd u0 nofun).upd (Upd.set (S:=[li]) _ _ (by simp)) (by simpa usingλz=>UA z.symm);exact Ld (Z:=Z) rfl G8 ht (λz hz=>aB (hZ z hz) u1.1) λay tok u hd=>q ay tok (u1.trans (u.mono λ_ h=>by simp at h;simp[h])) (u.2 _ _ g1 (by simpa using UA)) hd
theorem qr(l l':List Tr):iI (l++l')=iI l+iI l':=by
 induction l with
 |nil=>exact(aZ _).symm
 |cons t l ih=>exact(congrArg (t.wt+·) ih).trans (aN ..).symm
def ow(o:Option Tr):Nat:=iI o.toList
theorem Sv(o:Option Tr):ow (BD o)<=ow o:=by
 cases o with
 |none=>exact aC _
 |some t=>
  show ow (if(!kl t)=ah then some t else none)<=_;cases kl t
  ·exact aC _
  ·exact df _
theorem JI{P:List Tr->Prop}(h0:P [])(h1:∀t,P [t])(h2:∀t v l,P l->P (t::v::l))(l:List Tr):P l:=
 have:P l/\∀t,P (t::l):=by
  induction l with
  |nil=>exact⟨h0,h1⟩
  |cons v l ih=>exact⟨ih.2 v,λt=>h2 t v l ih.1⟩
 this.1
theorem Jx(t v:Tr)(l:List Tr)(p:Option Tr×Option Tr):ek (t::v::l) p=ek l (some v,p.2)\/ek (t::v::l) p=ek l (p.1,some v)\/ek (t::v::l) p=p:=by
 cases t with
 |a x=>cases x<;>first|exact .inl rfl|exact .inr (.inl rfl)|exact .inr (.inr rfl)
 |_=>exact .inr (.inr rfl)
theorem Jw(t:Tr)(p:Option Tr×Option Tr):ek [t] p=p:=by
 cases t with
 |a x=>cases x<;>rfl
 |_=>rfl
theorem zR(v:Tr):ow (some v)=v.wt:=rfl
theorem Jy(acc:List Tr):∀(p:Option Tr×Option Tr),ow (ek acc p).1+ow (ek acc p).2<=ow p.1+ow p.2+iI acc:=by
 refine JI (P:=λacc=>∀(p:Option Tr×Option Tr),ow (ek acc p).1+ow (ek acc p).2<=ow p.1+ow p.2+iI acc) (λp=>aC _) (λt p=>by rw[Jw];exact aF _ _) (λt v l ih p=>?_) acc;have e:iI (t::v::l)=t.wt+(v.wt+iI l):=rfl;rw[e];rcases Jx t v l p with h|h|h<;>rw[h]
 ·have:=ih (some v,p.2);rw[zR,bz v.wt,aN] at this;exact ai this (bQ (aQ _ _) (aQ _ _))
 ·have:=ih (p.1,some v);simp only[zR,aN] at this;exact ai this (bQ (aF _ _) (aQ _ _))
 ·exact aF _ _
theorem R9(acc:List Tr):(td acc).wt<=2+iI acc:=by
 have h1:=Jy acc (none,none);have h2:=Sv (ek acc (none,none)).1;have h3:=Sv (ek acc (none,none)).2;have h4:ow none=0:=rfl;have h5:∀x y:Option Tr,iI (BM x y)=ow x+ow y:=λx y=>qr _ _
 unfold td Tr.wt;rw[h5];rw[h4,aZ] at h1;exact bf (ai (bQ h2 h3) h1) 2
def RL(w:Nat)(ts:TS):Res->Prop
 |.fault _=>True
 |.ok t cP=>(cP.length<ts.length/\cP<:+ts)/\t.wt+tw cP<=w+tw ts
theorem RL.key{w w':Nat}{x:Tk}{r:Res}(h:RL w ts r)(hw:w<=w'+x.wt):RL w' ((x,p)::ts) r:=by
 cases r with
 |fault=>trivial
 |ok t cP=>
  refine⟨⟨fL h.1.1,h.1.2.trans (jZ ..)⟩,?_⟩;show t.wt+tw cP<=w'+(x.wt+tw ts);rw[<-aN];exact ai h.2 (bR hw _)
theorem RL.two{w:Nat}{r1:Res}{f:Tr->TS->Res}(h:RL 0 ts r1)(hf:∀t cP,RL (w+t.wt) cP (f t cP)):RL w ts (match r1 with
 |.fault n=>.fault n
 |.ok t cP=>f t cP):=by
 cases r1 with
 |fault n=>trivial
 |ok t cP=>
  have h':=hf t cP;show RL w ts (f t cP);cases hr:f t cP with
  |fault=>trivial
  |ok u ý=>
   simp only[hr] at h';refine⟨⟨bP h'.1.1 h.1.1,h'.1.2.trans h.1.2⟩,ai h'.2 ?_⟩;rw[aN];exact bf (ai h.2 (bI (aZ _))) _
theorem GH(l:List Tr)(t:Tr):iI (l++[t])=iI l+t.wt:=qr _ _
theorem se(e k:Nat):(∀ts,RL 0 ts (rd e k ts))/\(∀acc ts,RL (1+iI acc) ts (Ct e k acc ts))/\(∀acc ts,RL (2+iI acc) ts (yC e k acc ts)):=by
 induction k with
 |zero=>exact⟨λ_=>trivial,λ_ _=>trivial,λ_ _=>trivial⟩
 |succ k ih=>
  obtain⟨h1,h2,h3⟩:=ih;refine⟨λts=>?_,λacc ts=>?_,λacc ts=>?_⟩
  ·rcases ts with _|⟨⟨x|x|x,p⟩,ts⟩
   ·trivial
   ·exact⟨⟨aO _,jZ ..⟩,(show 0+tw ts<=0+(0+tw ts) from bI (aZ _).symm)⟩
   ·cases x
    case ob=>exact RL.key (h2 [] ts) (aC _)
    case od=>exact RL.key (h3 [] ts) (aC _)
    all_goals trivial
   ·trivial
  ·have d:=RL.two (w:=1+iI acc) (f:=λt cP=>Ct e k (acc++[t]) cP) (h1 ts) λt cP=>by rw[aN,<-GH];exact h2 _ _
   rcases ts with _|⟨⟨x|x|x,p⟩,ts⟩
   ·exact d
   ·exact d
   ·cases x
    case cb=>exact⟨⟨aO _,jZ ..⟩,bf (aQ _ _) _⟩
    all_goals exact d
   ·exact d
  ·have d:∀(x:At) ts,RL (2+iI acc) ts _:=λx ts=>RL.two (f:=λt cP=>yC e k (acc++[.a x,t]) cP) (h1 ts) λt cP=>by
    have:=h3 (acc++[.a x,t]) cP;rwa[qr,show iI [.a x,t]=0+(t.wt+0) from rfl,aZ,f7,<-aN] at this
   rcases ts with _|⟨⟨x|x|x,p⟩,ts⟩
   ·trivial
   ·cases x
    case nA=>exact RL.key (d .nA ts) (aF _ _)
    case nW=>exact RL.key (d .nW ts) (aF _ _)
    all_goals trivial
   ·cases x
    case cd=>exact⟨⟨aO _,jZ ..⟩,bQ (R9 acc) (aQ _ _)⟩
    all_goals trivial
   ·trivial
end
structure OS where
 a:Option PV
 b:Option PV
 c:Option PV
 d:Option PV
 e:Option PV
noncomputable abbrev SL(c:Nat)(tok:PV)(fr:Nat)(o:OS):List (Option PV):=[some (.ref c),some tok,some (.bool aj),some (.ref fr),o.a,o.b,o.c,o.d,o.e]
structure BF(Z:List Nat)(hp:List PO)(c fr:Nat)(d:List UInt8)(ts:TS)(tok:PV)(L:List PV)(f li:Nat)(mark:List UInt8)(vs:List PV)(acc:List Tr):Prop where
 C:jL hp Z c fr
 h1:f∉Z
 h2:li∉Z
 h3:f≠li
 hd:Hd (f::li::Z) hp c d ts tok
 g:hp[fr]?=some (.list (L++[.ref f]))
 t:Top hp (L++[.ref f]) L f mark li vs
 v:cj (f::li::Z) hp vs acc
structure NB(L:List PV)(ts:TS)(n kf:Nat):Prop where
 w:L.length+1+tw ts<40
 f:2*ts.length+2<=kf
 l:n+ts.length<5000
def OA(old:Old)(k c fr:Nat)(d:List UInt8)(kf:Nat):Prop:=∀(Z:List Nat) (hp:List PO) (ts:TS) (tok:PV) (L:List PV) (o:OS) (QF:PF->St->Prop) (E:Int->List PO->Prop),jL hp Z c fr->Hd Z hp c d ts tok->Ctx hp fr ts L->hp[fr]?=some (.list L)->L.length+tw ts<40->2*ts.length+1<=kf->ts.length<5000->
 Fin old k c fr d Z [c,fr] hp L QF E (rd d.length kf ts)->X (WH (aY old (k+6))) ⟨SL c tok fr o,hp⟩ QF E
def AA(old:Old)(k c fr:Nat)(d:List UInt8)(kf:Nat):Prop:=∀(Z:List Nat) (hp:List PO) (ts:TS) (tok:PV) (L:List PV) (f li:Nat) (vs:List PV) (acc:List Tr) (o:OS) (QF:PF->St->Prop) (E:Int->List PO->Prop),BF Z hp c fr d ts tok L f li [91] vs acc->NB L ts acc.length kf->
 Fin old k c fr d Z [c,fr,f,li] hp L QF E (Ct d.length kf acc ts)->X (WH (aY old (k+6))) ⟨SL c tok fr o,hp⟩ QF E
def DD(old:Old)(k c fr:Nat)(d:List UInt8)(kf:Nat):Prop:=∀(Z:List Nat) (hp:List PO) (ts:TS) (tok:PV) (L:List PV) (f li:Nat) (vs:List PV) (acc:List Tr) (o:OS) (QF:PF->St->Prop) (E:Int->List PO->Prop),BF Z hp c fr d ts tok L f li [60,60] vs acc->lC acc->NB L ts acc.length kf->
 Fin old k c fr d Z [c,fr,f,li] hp L QF E (yC d.length kf acc ts)->X (WH (aY old (k+6))) ⟨SL c tok fr o,hp⟩ QF E
section
variable{m fr:Nat}{a1 a2 a3 a4 o5:Option PV}
theorem HC.push(h:HC hp c d n)(o:PO):HC (hp++[o]) c d n:=h.upd (Upd.push (S:=[]) _ _) nofun
theorem iy(g:hp[fr]?=some (.list L))(o:PO):(hp++[o])[fr]?=some (.list L):=(Upd.push (S:=[]) _ _).2 _ _ g nofun
theorem TV.upd(h:TV Z hp t v)(u:Upd Z hp ay):TV Z ay t v:=by
 rcases h with h|⟨e,a,e2,k,g⟩
 ·exact .inl h
 ·exact .inr ⟨e,a,e2,k,u.2 _ _ g k⟩
theorem jL.push(C:jL hp Z c fr)(o:PO):jL (hp++[o]) Z c fr:=C.upd (Upd.push (S:=[]) _ _)
theorem Fin.from{r:Res}(u:Upd S hp ay)(h:Fin old k c fr d Z S hp L QF E r):Fin old k c fr d Z S ay L QF E r:=by
 cases r with
 |fault n=>exactλfb v=>h fb (u.trans v)
 |ok t ts=>exactλfb v n o1 o4 o5 o6 o7 w=>h fb v n o1 o4 o5 o6 o7 (u.trans w)
theorem Fin.op{r:Res}(u:∀fb,Upd [c,fr,f,li] ay fb->Upd [c,fr] hp fb)(h:Fin old k c fr d Z [c,fr] hp L QF E r):Fin old k c fr d Z [c,fr,f,li] ay L QF E r:=by
 cases r with
 |fault n=>exactλfb v=>h fb (u _ v)
 |ok t ts=>exactλfb v n o1 o4 o5 o6 o7 w=>h fb v n o1 o4 o5 o6 o7 (u _ w)
theorem UM(h:t≠.s .cd):ti t [62,62]=aj:=by
 rcases t with x|x|x
 ·rfl
 ·cases x<;>first|rfl|exact absurd rfl h
 ·rfl
theorem TV.ON(h:TV Z hp t v)(hr:t≠.a .r5):v=t.wo:=h.elim (·.1) λh=>absurd h.1 hr
def SO(c fr p:Nat)(t:Tk)(v:PV)(o8:Option PV):List (Option PV):=[some (.ref c),some (fW t v p),some (.bool aj),some (.ref fr),some (.str t.kd),some v,some (.int p),some (.bool (kX t)),o8]
abbrev GO(old:Old)(k c fr p:Nat)(hp:List PO)(t:Tk)(v:PV)(o8:Option PV)(QF:PF->St->Prop)(E:Int->List PO->Prop):Prop:=X (OE (aY old (k+6))) ⟨SO c fr p t v o8,hp++[.list []]⟩ (LL old k QF E) E
theorem Kp{x:Sg}(hx:x=.cb\/x=.cd)(h:∀st:St,st.hp=hp++[.list []]->X (aY old (k+6) (.obj (.ref 559)) [.ref fr,.bytes x.b,.int p]) st (λ_ _=>False) E):GO old k c fr p hp (.s x) (Tk.s x).wo o8 QF E:=by
 have h:=h ⟨SO c fr p (.s x) (Tk.s x).wo o8,hp++[.list []]⟩ rfl;rcases hx with rfl|rfl<;>exact X.gF (t:=aj) rfl rfl (X.nq (t:=ah) rfl rfl (X.dm (X.call rfl rfl (h.mono (λ_ _ h=>h.elim) λ_ _ e=>e))))
theorem K4(h1:kX t=aj)(h2:Qu t=aj)(hr:∀x,t≠.a x)(he:E p (hp++[.list []])):GO old k c fr p hp t t.wo o8 QF E:=by
 delta GO SO;exact h1.symm▸X.gF (t:=aj) rfl rfl (X.gF (Ey (Z:=[]) (hp:=hp) (t:=t) (v:=t.wo) (.inl ⟨rfl,hr _⟩)) h2 (X.dm (X.call rfl rfl (Fw hr he))))
theorem Top.push(t:Top hp L L' f mark li vs)(o:PO):Top (hp++[o]) L L' f mark li vs:=t.upd (Upd.push (S:=[]) _ _) nofun nofun
theorem VQ(g:hp[fr]?=some (.list L))(zL:sz L.length=ah)(hx:Ctx hp fr ((.s .cb,p)::ts) L)(fin:∀ay,Upd [c,fr] hp ay->E p ay):GO old k c fr p hp (.s .cb) (Tk.s .cb).wo o8 QF E:=by
 refine Kp (.inl rfl) λst e=>qS (w:=[93]) (by rw[e];exact iy g _) ?_ λay u=>fin _ ((Upd.push _ _).trans (e▸u).nil)
 rw[e];rcases hx with _|⟨_,L',f,mark,li,vs,t,_,_,_,⟨_,h⟩|h⟩
 ·exact .nil
 ·exact absurd rfl (h _ _)
 ·exact .top _ _ _ _ _ _ (t.push _) zL (by rw[h];rfl)
theorem VS(g:hp[fr]?=some (.list L))(zL:sz L.length=ah)(hx:Ctx hp fr ((.s .cd,p)::ts) L)(fin:∀ay,Upd [c,fr] hp ay->E p ay):GO old k c fr p hp (.s .cd) (Tk.s .cd).wo o8 QF E:=by
 refine Kp (.inr rfl) λst e=>?_
 have g':=iy g (.list []);rw[<-e] at g';rcases hx with _|⟨_,L',f,mark,li,vs,t,ho,h1,h2,⟨h,_⟩|h⟩
 ·exact qS (w:=[62,62]) g' .nil λay u=>fin _ ((Upd.push _ _).trans (e▸u).nil)
 ·exact qS (w:=[62,62]) g' (.top _ _ _ _ _ _ (e▸t.push _) zL (by rw[h];rfl)) λay u=>fin _ ((Upd.push _ _).trans (e▸u).nil)
 ·subst h;exact Dh g' (e▸t.push _) zL ⟨h1,h2⟩ ho λay u=>fin _ ((Upd.push _ _).trans ((e▸u).mono λ_ h=>aM _ h))
theorem K2{x:Sg}(hi:kX (.s x)=ah)(g:hp[fr]?=some (.list L))(hL:L.length<40)(hc:HC hp c d n)(ht:Toks d n ts)(C:jL hp Z c fr)(q:∀ay tok f li o,BF Z ay c fr d ts tok L f li x.b [] []->(∀fb,Upd [c,fr,f,li] ay fb->Upd [c,fr] hp fb)->
 X (WH (aY old (k+6))) ⟨SL c tok fr o,ay⟩ QF E):GO old k c fr p hp (.s x) (Tk.s x).wo o8 QF E:=by
 delta GO SO;exact hi.symm▸open_x (iy g _) hL (hc.push _) ht (C.push _) λay tok f li u C' h1 h2 h3 sH g' t' u'=>q ay tok f li ⟨_,_,_,_,_⟩ ⟨C',h1,h2,h3,sH,g',t',rfl⟩ λfb w=>(Upd.push _ _).trans (u' fb w)
theorem TJ{x:Sg}{l:Nat}(h:l+tw ((.s x,p)::ts)<40)(hi:kX (.s x)=ah):l+1+tw ts<40:=by
 have:1<=(Tk.s x).wt:=by cases x<;>first|decide|cases hi
 unfold tw at h;exact aA (by simp only[aN];exact bf (bR this _) _) h
theorem OA.on(hA:AA old k c fr d kf)(hD:DD old k c fr d kf)(C:jL hp Z c fr)(hv:TV Z hp t v)(hc:HC hp c d n)(ht:Toks d n ts)(hx:Ctx hp fr ((t,p)::ts) L)(g:hp[fr]?=some (.list L))(zL:sz L.length=ah)(hL:L.length+tw ((t,p)::ts)<40)(hf:2*ts.length+2<=kf)(hl:ts.length<5000)
 (fin:Fin old k c fr d Z [c,fr] hp L QF E (rd d.length (kf+1) ((t,p)::ts))):GO old k c fr p hp t v o8 QF E:=by
 rcases t with x|x|x
 ·exact Mg (hv.upd (Upd.push _ _)) (C.push (.list [])).z rfl λay w u hw=>fin ay w n _ _ _ _ _ ((Upd.push _ _).trans u.nil) (u.2 _ _ (iy g _) nofun) hw ((hc.push _).upd u nofun) ht
 ·obtain rfl:=hv.ON nofun;have Yp:L.length<40:=aA (aF _ _) hL;cases x
  case ob=>exact K2 rfl g Yp hc ht C λay tok f li o B u'=>hA Z ay ts tok L f li [] [] o QF E B ⟨TJ hL rfl,hf,by rw[bE,aZ];exact hl⟩ (fin.op u')
  case od=>exact K2 rfl g Yp hc ht C λay tok f li o B u'=>hD Z ay ts tok L f li [] [] o QF E B .n ⟨TJ hL rfl,hf,by rw[bE,aZ];exact hl⟩ (fin.op u')
  case br=>exact K4 rfl rfl nofun (fin _ (.push _ _))
  case cb=>exact VQ g zL hx fin
  case cd=>exact VS g zL hx fin
 ·obtain rfl:=hv.ON nofun;exact K4 rfl rfl nofun (fin _ (.push _ _))
theorem OA.step(hA:AA old k c fr d kf)(hD:DD old k c fr d kf):OA old k c fr d (kf+1):=by
 intro Z hp ts tok L o QF E C hd hx g hL hf hl fin;have zL:sz L.length=ah:=decide_eq_true (by lia);rcases ts with _|⟨⟨t,p⟩,ts⟩
 ·obtain⟨rfl,hc⟩:=hd;refine rL (isop:=aj) (sg:=aj) (wkb:=aj) (w:=.bytes []) rfl (λ_=>rfl) (λ_=>wW) g zL hx.hw nofun λ_=>?_
  exact X.gF (t:=aj) rfl rfl (X.gF (t:=aj) rfl rfl (X.dm (X.call rfl rfl (Fv (fin _ (.push _ _))))))
 refine gg λG k_=>?_
 obtain⟨v,n,rfl,hv,hc,ht⟩:=hd;refine k_ ?_;exact rL (isop:=kX t) (sg:=ti t [62,62]) (wkb:=aj) rfl (λ_=>yk hv) (λ_=>vp hv) g zL hx.hw nofun λ_=>OA.on hA hD C hv hc ht hx g zL hL (bW hf) (pN hl) fin
theorem N2{e:Nat}(h:∀p cP,ts≠(.s .cb,p)::cP):Ct e (kf+1) acc ts=match rd e kf ts with
 |.fault n=>.fault n
 |.ok t cP=>Ct e kf (acc++[t]) cP:=by
 rcases ts with _|⟨⟨x|x|x,p⟩,ts⟩<;>first|rfl|skip
 cases x<;>first|rfl|exact absurd rfl (h _ _)
theorem Hd.Ā(u:Upd [] hp ay)(h:Hd Z hp c d ts tok):Hd Z ay c d ts tok:=by
 rcases ts with _|⟨⟨t,p⟩,ts⟩
 ·exact⟨h.1,h.2.upd u nofun⟩
 ·obtain⟨v,n,e,hv,hc,ht⟩:=h;exact⟨v,n,e,hv.upd u.nil,hc.upd u nofun,ht⟩
theorem jL.more(C:jL hp Z c fr)(hf:f<hp.length)(hl:li<hp.length):jL hp (f::li::Z) c fr:=⟨λz h=>by
 rcases aP.mp h with rfl|h
 ·exact hf
 ·rcases aP.mp h with rfl|h
  ·exact hl
  ·exact C.z z h,aM _ (aM _ C.hc),aM _ (aM _ C.hf),C.ne⟩
theorem ip{b:Nat}(h:a≠b):a∉[b]:=λz=>h (au.mp z)
theorem wJ{b:Nat}(h:a≠b)(k:a≠c):a∉[b,c]:=λz=>(aP.mp z).elim h (ip k)
theorem Bz{P:Nat->Prop}{b:Nat}(h:P b)(k:P c)(a:Nat)(z:a∈[b,c]):P a:=(aP.mp z).elim (λe=>e▸h) λz=>au.mp z▸k
theorem Oj{a b:List PO}(u:Upd [c,fr] a b):Upd [c,fr,f,li] a b:=u.mono (Bz (aU ..) (.tail _ (aU ..)))
theorem Tt{a b:List PO}(u:Upd [c,li] a b):Upd [c,fr,f,li] a b:=u.mono (Bz (aU ..) (.tail _ (.tail _ (.tail _ (aU ..)))))
theorem To{a b:List PO}(u:Upd [fr] a b):Upd [c,fr,f,li] a b:=u.mono λ_ z=>au.mp z▸.tail _ (aU ..)
section
variable{o:OS}
theorem BF.fc(B:BF Z hp c fr d ts tok L f li mark vs acc):f≠c:=λe=>B.h1 (e▸B.C.hc)
theorem BF.lc(B:BF Z hp c fr d ts tok L f li mark vs acc):li≠c:=λe=>B.h2 (e▸B.C.hc)
theorem BF.ff(B:BF Z hp c fr d ts tok L f li mark vs acc):f≠fr:=λe=>B.h1 (e▸B.C.hf)
theorem BF.lf(B:BF Z hp c fr d ts tok L f li mark vs acc):li≠fr:=λe=>B.h2 (e▸B.C.hf)
theorem BF.C2(B:BF Z hp c fr d ts tok L f li mark vs acc):jL hp (f::li::Z) c fr:=B.C.more (ak.mp B.t.f).1 (ak.mp B.t.i).1
theorem NB.z(N:NB L ts n m):sz (L++[PV.ref f]).length=ah:=decide_eq_true (by simp only[av,bk];exact ai (aF _ _) (ai (aT N.w) (by decide)))
theorem NB.next{t:Tr}{cP:TS}(N:NB L ts acc.length (kf+1))(hr:rd n kf ts=.ok t cP):NB L cP (acc++[t]).length kf:=by
 have h:(cP.length<ts.length/\cP<:+ts)/\t.wt+tw cP<=0+tw ts:=by have:=(se n kf).1 ts;rwa[hr] at this
 have h1:=h.1.1;have h2:=h.2;obtain⟨a,b,e⟩:=N;clear h hr;refine⟨?_,?_,?_⟩
 ·exact aA (bf (ai (aQ _ _) (ai h2 (bI (aZ _)))) _) a
 ·exact bW (ai (e9 (jG (aC _))) (ai (bI (by simp only[Pp])) (ai (bR (b9 2 h1) 2) b)))
 ·simp only[av,bk,aN,bz 1];exact aA (bf h1 _) e
theorem X4{y:At}:tw ((.a y,p)::ts)=tw ts:=aZ _
theorem NB.tl{y:At}(N:NB L ((.a y,p)::ts) acc.length m):NB L ts (acc++[Tr.a y]).length m:=⟨X4 (p:=p) (y:=y)▸N.w,ai (bR (b9 2 (bX _)) 2) N.f,by simp only[av,bk,aN,bz 1];exact N.l⟩
theorem BF.next{fw:List PO}{JB:PV}{cP:TS}{t:Tr}(B:BF Z hp c fr d ts tok L f li mark vs acc)(u:Upd [c,fr] hp ay)(u2:Upd [c,li] ay fw)(g:ay[fr]?=some (.list (L++[.ref f])))(gi:fw[li]?=some (.list (vs++[v])))(zv:acc.length<5000)(hv:iu (f::li::Z) ay v t)(hd:Hd (f::li::Z) fw c d cP JB):BF Z fw c fr d cP JB L f li mark (vs++[v]) (acc++[t]):=
 have e1:Upd (f::li::Z) hp ay:=u.mono (Bz B.C2.hc B.C2.hf);have e2:Upd (f::li::Z) ay fw:=u2.mono (Bz B.C2.hc (.tail _ (aU ..)))
 ⟨(B.C.upd u).upd u2,B.h1,B.h2,B.h3,hd,u2.2 _ _ g (wJ B.C.ne.symm B.lf.symm),⟨rfl,u2.2 _ _ (B.t.upd u (wJ B.fc B.ff) (wJ B.lc B.lf)).f (wJ B.fc B.h3),gi,decide_eq_true (by simp only[av,bk,cj.len _ B.v];exact ai zv (by decide))⟩,
  cj.snoc _ (cj.upd e2 _ (cj.upd e1 _ B.v)) (iu.upd e2 _ hv)⟩
theorem NB.al(N:NB L ts n m):n<5000:=aA (aF _ _) N.l
theorem La(hO:OA old k c fr d kf)(B:BF Z hp c fr d ts tok L f li mark vs acc)(N:NB L ts acc.length (kf+1))(hw:wk mark vs=aj)(hm:(mark=[91]/\∀p cP,ts≠(.s .cb,p)::cP)\/mark=[60,60])(Ek:∀n,rd d.length kf ts=.fault n->∀ay,Upd [c,fr] hp ay->E n ay)
 (q:∀t cP ay v tok o,rd d.length kf ts=.ok t cP->Upd [c,fr,f,li] hp ay->BF Z ay c fr d cP tok L f li mark (vs++[v]) (acc++[t])->NB L cP (acc++[t]).length kf->X (WH (aY old (k+6))) ⟨SL c tok fr o,ay⟩ QF E):X (WH (aY old (k+6))) ⟨SL c tok fr o,hp⟩ QF E:=by
 refine hO (f::li::Z) hp ts tok (L++[.ref f]) o QF E B.C2 B.hd (.top _ _ _ _ _ _ B.t hw B.ff B.lf hm) B.g (by simp only[av,bk];exact N.w) (bW N.f) (aA (aQ _ _) N.l) ?_;cases hr:rd d.length kf ts with
 |fault n=>exact Ek n hr
 |ok tr cP=>exactλay v n o1 o4 o5 o6 o7 u g hv hc ht=>Lm (Z:=f::li::Z) (B.t.upd u (wJ B.fc B.ff) (wJ B.lc B.lf)) g N.z hc ht (B.C2.upd u).z B.lc λfw tok u2 gi hd2=>q tr cP fw v tok ⟨_,_,_,_,_⟩ hr ((Oj u).trans (Tt u2)) (B.next u u2 g gi N.al hv hd2) (N.next hr)
theorem BF.go{x:Tk}{b:Bool}(B:BF Z hp c fr d ((x,p)::ts) tok L f li mark vs acc)(N:NB L ((x,p)::ts) n m)(hw:Wk hp b (L++[.ref f]))(q1:(b&&(!decide (x.kd="name")&&!ti x [62,62]))=ah->E p (hp++[.list []]))
 (q:(b&&(!decide (x.kd="name")&&!ti x [62,62]))=aj->∀v n,TV (f::li::Z) hp x v->HC hp c d n->Toks d n ts->GO old k c fr p hp x v o.e QF E):X (WH (aY old (k+6))) ⟨SL c tok fr o,hp⟩ QF E:=by
 refine gg λG k_=>?_
 obtain⟨v,n,rfl,hv,hc,ht⟩:=B.hd;refine k_ ?_;exact rL rfl (λ_=>yk hv) (λ_=>vp hv) B.g N.z hw q1 λh=>q h v n hv hc ht
theorem AA.cb(B:BF Z hp c fr d ((.s .cb,p)::ts) tok L f li [91] vs acc)(N:NB L ((.s .cb,p)::ts) acc.length m)(fin:Fin old k c fr d Z [c,fr,f,li] hp L QF E (.ok (.arr acc) ts)):X (WH (aY old (k+6))) ⟨SL c tok fr o,hp⟩ QF E:=by
 refine B.go N (.top _ _ _ _ _ _ B.t rfl) nofun λ_ v n hv hc ht=>?_
 obtain rfl:=hv.ON nofun;refine X.gF (t:=aj) rfl rfl (X.nq (t:=ah) rfl rfl (X.dm (X.call rfl rfl (Df (by exact iy B.g _) (B.t.push _) N.z ⟨B.ff,B.lf⟩ λay u g'=>X.nx (K.nx ?_)))));have u':Upd [fr] hp ay:=(Upd.push _ _).trans u;exact fin ay (.ref li) n _ _ _ _ _ (To u') g' ⟨vs,⟨li,rfl,B.h2,u'.2 _ _ B.t.i (ip B.lf),by rw[cj.len _ B.v];exact aB N.al (by unfold dR;decide)⟩,
  cj.upd (u'.mono λn h=>by rw[au.mp h];exact B.C.hf) _ (cj.less (λa h _ z=>h (aM _ (aM _ z))) _ B.v)⟩ (hc.upd u' (ip B.C.ne)) ht
theorem AA.step(hO:OA old k c fr d kf)(hA:AA old k c fr d kf):AA old k c fr d (kf+1):=by
 intro Z hp ts tok L f li vs acc o QF E B N fin;by_cases Rf:∃p cP,ts=(.s .cb,p)::cP
 ·obtain⟨p,cP,rfl⟩:=Rf;exact AA.cb B N fin
 ·have Rf:∀p cP,ts≠(.s .cb,p)::cP:=λp cP e=>Rf ⟨p,cP,e⟩
  rw[N2 Rf] at fin;refine La hO B N rfl (.inl ⟨rfl,Rf⟩) (λn hr ay u=>?_) λtr cP ay v tok o hr u B' N'=>?_
  ·rw[hr] at fin;exact fin ay (Oj u)
  ·rw[hr] at fin;exact hA Z ay cP tok L f li (vs++[v]) (acc++[tr]) o QF E B' N' (fin.from u)
theorem JP(hv:cj Z hp vs acc)(hw:lC acc):wk [60,60] vs=ah:=by
 unfold wk;rw[cj.len acc hv,Wc,hw.xW];rfl
theorem OM{y:At}(hv:cj Z hp vs (acc++[.a y]))(hw:lC acc):wk [60,60] vs=aj:=by
 unfold wk;simp only[cj.len _ hv,Wc,av,bk,show(acc.length+1)%2=1 from by rw[TY,hw.xW]];rfl
theorem lC.snoc{x:At}(hx:x=.nA\/x=.nW)(t:Tr)(h:lC acc):lC (acc++[.a x]++[t]):=by
 induction h with
 |n=>exact .c _ _ _ hx .n
 |c n u l h _ ih=>exact .c n u _ h ih
theorem FK{e:Nat}{x:At}(hx:x=.nA\/x=.nW):yC e (kf+1) acc ((.a x,p)::ts)=match rd e kf ts with
 |.fault n=>.fault n
 |.ok t cP=>yC e kf (acc++[.a x]++[t]) cP:=by
 have e1:∀t:Tr,acc++[.a x]++[t]=acc++[.a x,t]:=λt=>cS ..
 simp only[e1];rcases hx with rfl|rfl<;>rfl
theorem BF.wk(B:BF Z hp c fr d ts tok L f li [60,60] vs acc)(hw:lC acc):Wk hp ah (L++[.ref f]):=.top _ _ _ _ _ _ B.t (JP B.v hw)
theorem DD.nil(B:BF Z hp c fr d [] tok L f li [60,60] vs acc)(hw:lC acc)(N:NB L [] n m)(fin:∀ay,Upd [c,fr,f,li] hp ay->E d.length ay):X (WH (aY old (k+6))) ⟨SL c tok fr o,hp⟩ QF E:=by
 obtain⟨rfl,hc⟩:=B.hd;exact rL (isop:=aj) (sg:=aj) (wkb:=ah) (w:=.bytes []) rfl (λ_=>rfl) (λ_=>wW) B.g N.z (B.wk hw) (λ_=>fin _ (.push _ _)) λh=>nomatch(show ah=aj from h)
theorem DD.cd(B:BF Z hp c fr d ((.s .cd,p)::ts) tok L f li [60,60] vs acc)(hw:lC acc)(N:NB L ((.s .cd,p)::ts) acc.length m)(fin:Fin old k c fr d Z [c,fr,f,li] hp L QF E (.ok (td acc) ts)):X (WH (aY old (k+6))) ⟨SL c tok fr o,hp⟩ QF E:=by
 refine B.go N (B.wk hw) nofun λ_ v n hv hc ht=>?_
 obtain rfl:=hv.ON nofun;refine X.gF (t:=aj) rfl rfl (X.nq (t:=ah) rfl rfl (X.dm (X.call rfl rfl (Dg (Z:=Z) (by exact iy B.g _) (B.t.push _) N.z ⟨B.ff,B.lf⟩ (cj.less (λa h _ z=>h (aM _ (aM _ z))) _ (cj.upd (.push _ _) _ B.v)) hw (bP N.al (by decide)) (B.C.push (.list [])).z B.C.hf λay w u g' Cr=>X.nx (K.nx ?_)))));have u':Upd [fr] hp ay:=(Upd.push _ _).trans u;exact fin ay w n _ _ _ _ _ (To u') g' Cr (hc.upd u' (ip B.C.ne)) ht
theorem DD.nm(hO:OA old k c fr d kf)(hD:DD old k c fr d kf){y:At}(hy:y=.nA\/y=.nW)(B:BF Z hp c fr d ((.a y,p)::ts) tok L f li [60,60] vs acc)(hw:lC acc)(N:NB L ((.a y,p)::ts) acc.length (kf+1))(fin:Fin old k c fr d Z [c,fr,f,li] hp L QF E (yC d.length (kf+1) acc ((.a y,p)::ts))):X (WH (aY old (k+6))) ⟨SL c tok fr o,hp⟩ QF E:=by
 rw[FK hy] at fin;have Z2:decide ((Tk.a y).kd="name")=ah:=by rcases hy with rfl|rfl<;>rfl
 refine B.go N (B.wk hw) (by rw[Z2];nofun) λ_ v n hv hc ht=>Mg (hv.upd (Upd.push _ _)) (B.C2.push _).z rfl λay w u Cr=>?_
 have u':Upd [] hp ay:=(Upd.push _ _).trans u;refine Lm (Z:=f::li::Z) (B.t.upd u' nofun nofun) (u'.2 _ _ B.g nofun) N.z (hc.upd u' nofun) ht (B.C2.upd u').z B.lc λfw tok u2 gi hd2=>?_
 have B2:=B.next (t:=.a y) u'.nil u2 (u'.2 _ _ B.g nofun) gi N.al Cr hd2
 have u3:Upd [c,fr,f,li] hp fw:=u'.nil.trans (Tt u2);refine La (o:=⟨_,_,_,_,_⟩) hO B2 N.tl (OM B2.v hw) (.inr rfl) (λn hr sI u4=>?_) λtr cP sI v3 X3 o hr u4 B3 N3=>?_
 ·rw[hr] at fin;exact fin sI (u3.trans (Oj u4))
 ·rw[hr] at fin;exact hD Z sI cP X3 L f li _ _ o QF E B3 (lC.snoc hy tr hw) N3 (fin.from (u3.trans u4))
theorem Zu(x:Tk):(∃y,x=.a y/\(y=.nA\/y=.nW))\/x=.s .cd\/(ah&&(!decide (x.kd="name")&&!ti x [62,62]))=ah/\∀e kf acc p ts,yC e (kf+1) acc ((x,p)::ts)=.fault p:=by
 rcases x with y|y|y
 ·cases y<;>first|exact .inr (.inr ⟨rfl,λ_ _ _ _ _=>rfl⟩)|exact .inl ⟨_,rfl,.inl rfl⟩|exact .inl ⟨_,rfl,.inr rfl⟩
 ·cases y<;>first|exact .inr (.inr ⟨rfl,λ_ _ _ _ _=>rfl⟩)|exact .inr (.inl rfl)
 ·exact .inr (.inr ⟨rfl,λ_ _ _ _ _=>rfl⟩)
theorem DD.step(hO:OA old k c fr d kf)(hD:DD old k c fr d kf):DD old k c fr d (kf+1):=by
 intro Z hp ts tok L f li vs acc o QF E B hw N fin;rcases ts with _|⟨⟨x,p⟩,ts⟩
 ·exact DD.nil B hw N fin
 rcases Zu x with⟨y,rfl,hy⟩|rfl|⟨h1,h2⟩
 ·exact DD.nm hO hD hy B hw N fin
 ·exact DD.cd B hw N fin
 ·simp only[h2] at fin;exact B.go N (B.wk hw) (λ_=>fin _ (.push _ _)) (by rw[h1];nofun)
end
theorem I3(old:Old)(k c fr:Nat)(d:List UInt8)(kf:Nat):OA old k c fr d kf/\AA old k c fr d kf/\DD old k c fr d kf:=by
 induction kf with
 |zero=>exact⟨λ_ _ _ _ _ _ _ _ _ _ _ _ _ h=>(eQ _ h).elim,λ_ _ _ _ _ _ _ _ _ _ _ _ _ N=>(eQ _ N.f).elim,λ_ _ _ _ _ _ _ _ _ _ _ _ _ _ N=>(eQ _ N.f).elim⟩
 |succ kf ih=>exact⟨OA.step ih.2.1 ih.2.2,AA.step ih.1 ih.2.1,DD.step ih.1 ih.2.2⟩
theorem TV.lift{o:PO}(h:TV Z hp t v):TV (hp.length::Z) (hp++[o]) t v:=by
 rcases h with h|⟨e,a,e2,k,g⟩
 ·exact .inl h
 ·exact .inr ⟨e,a,e2,λz=>(aP.mp z).elim (λe=>dM _ (e▸(ak.mp g).1)) k,(Upd.push (S:=[]) _ _).2 _ _ g nofun⟩
theorem Hd.lift{o:PO}(h:Hd Z hp c d ts tok):Hd (hp.length::Z) (hp++[o]) c d ts tok:=by
 rcases ts with _|⟨⟨t,p⟩,ts⟩
 ·exact⟨h.1,h.2.push _⟩
 ·obtain⟨v,n,e,hv,h⟩:=h;exact⟨v,n,e,hv.lift,h.1.push _,h.2⟩
theorem jL.new{o:PO}(hZ:∀z∈Z,z<hp.length)(hc:c∈Z):jL (hp++[o]) (hp.length::Z) c hp.length:=
 have hl:hp.length<(hp++[o]).length:=by simp only[av];exact aO _
 ⟨λz h=>(aP.mp h).elim (λe=>e▸hl) λh=>bP (hZ z h) hl,aM _ hc,aU ..,aL (hZ _ hc)⟩
theorem Upd.back{o:PO}(u:Upd [c,hp.length] (hp++[o]) ay):Upd [c] hp ay:=⟨ai (by simp only[av];exact aF ..) u.1,λa o e h=>by
 have ha:=(ak.mp e).1;exact u.2 a o (by rw[bh ha];exact e) (wJ (λe=>h (au.mpr e)) (aL ha))⟩
theorem Fe(hd:Hd Z st.hp c d ts tok)(hZ:∀z∈Z,z<st.hp.length)(Eg:c∈Z)(hL:tw ts<40)(hl:ts.length<5000)
 (hf:∀n,rd d.length (2*ts.length+1) ts=.fault n->∀ay,Upd [c] st.hp ay->E n ay)
 (q:∀t cP ay v n,rd d.length (2*ts.length+1) ts=.ok t cP->Upd [c] st.hp ay->iu Z ay v t->HC ay c d n->Toks d n cP->Q v ⟨st.loc,ay⟩):X (aY old (k+7) (.obj (.ref 567)) [.ref c,tok,.bool aj]) st Q E:=by
 refine Qp ?_;simp only[zH];refine X.dm (X.list (l:=[]) rfl rfl (X.seq ?_));refine(I3 old k c st.hp.length d (2*ts.length+1)).1 (st.hp.length::Z) (st.hp++[.list []]) ts tok [] ⟨_,_,_,_,_⟩ _ E (.new hZ Eg) hd.lift .nil (gl _ _) (by simp only[bE,aZ];exact hL) (aC _) hl ?_;cases hr:rd d.length (2*ts.length+1) ts with
 |fault n=>exactλay u=>hf n hr ay u.back
 |ok t cP=>exactλay v n o1 o4 o5 o6 o7 u g hv vD ht=>X.qp (eq_nil rfl g ⟨λ_=>X.c6 rfl (K.rt (K.rt (Lp.rt (K.rt (Rt.rt (q t cP _ v n hr (u.back.trans (.push _ _)) (iu.upd (.push _ _) _ (iu.less (λa h _ z=>h (aM _ z)) _ hv)) (vD.push _) ht)))))),nofun⟩)
end
set_option backward.match.sparseCases false
theorem DT:dY 590 "word"=some 0:=by kernel_rfl
theorem q_:dY 590 "operands"=some 1:=by kernel_rfl
theorem R7:fx.find? (λm=>m.1==590&&m.2.1==("told":Str))=some ((590:Addr),("told":Str),587):=by kernel_rfl
noncomputable def wx:Tk->Bool
 |.o _=>ah
 |_=>aj
noncomputable def vj(b:UInt8):PV:=.str ⟨#[b.toNat]⟩
theorem wY:∀b:List UInt8,strsOf (b.map vj)=some (b.map λx=>⟨#[x.toNat]⟩)
 |[]=>rfl
 |x::b=>by
  show(strsOf (b.map vj)).map _=_;simp only[wY b];rfl
theorem t9:∀b:List UInt8,(b.map λx=>(⟨#[x.toNat]⟩:Str)).flatMap (λs=>s.cps.toList)=b.map (·.toNat)
 |[]=>rfl
 |x::b=>by simp only[bH,Cy,t9 b];rfl
theorem wX:∀b:List UInt8,((b.map λx=>(⟨#[x.toNat]⟩:Str)).all λs=>s.length==1)=ah
 |[]=>rfl
 |x::b=>by simp only[bH,dJ,wX b];rfl
section
variable{m:Nat}
noncomputable abbrev X_:M PV:=zg .And (eC .Eq (bt (af 0) (pure (.int 0))) (pure (.str "word"))) (eC .NotIn (bt (af 0) (pure (.int 1))) (pure (.tup [.bytes [116,114,117,101],.bytes [102,97,108,115,101],.bytes [110,117,108,108]])))
theorem Iz(t:Tk):Ev X_ ⟨[some (fW t t.wo p)],hp⟩ (.bool (wx t)):=by
 rcases t with x|x|x<;>cases x<;>rfl
theorem lH(h:TV Z hp t v):Ev (aY old (k+1) (.obj (.ref 601)) [fW t v p]) st (.bool (wx t)):=by
 have key:Ev X_ ⟨[some (fW t v p)],st.hp⟩ (.bool (wx t)):=by
  rcases h with⟨rfl,h⟩|⟨rfl,a,rfl,_⟩
  ·exact Iz t
  ·rfl
 obtain⟨_,_,e,rfl,rfl⟩:=(Qq (old:=old) (k:=k) (x0:=fW t v p) (st:=st) (E:=λ_ _=>False) (Q:=λu s=>u=.bool (wx t)/\s=st) (X.c6 key (Rt.rt ⟨rfl,rfl⟩))).run;exact e
theorem Mq(x:UInt8)(h0:Ev (af 0) st (.int x.toNat)):Ev (ax (aY old (k+1)) (pure (.obj (.builtin "chr"))) (aa (af 0) (pure []))) st (vj x):=by
 refine Ev.call (vs:=[.int x.toNat]) rfl (Ev.cons h0 Ev.nil) ?_;have hx:=x.toNat_lt;have hh:0<=(x.toNat:Int)/\(x.toNat:Int)<1114112:=⟨by lia,by lia⟩;have e:∀v,aY old (k+1) (.obj (.builtin "chr")) [v]=Dd v:=λv=>by kernel_rfl
 unfold Ev;rw[e];unfold Dd;dsimp only;rw[if_pos hh,gU];rfl
theorem CX.bytes{b:List UInt8}(hb:b.length<500)(q:∀ay o,Upd [j] hp0 ay->ay[j]?=some (.list (b.map vj))->QS ⟨[o],ay⟩)(r:List UInt8):∀(l:List UInt8) (kk:Nat) (o:Option PV) (hp:List PO),l++r=b->r.length<kk->Upd [j] hp0 hp->hp[j]?=some (.list (l.map vj))->CX kk (.bytes b l.length) j (pure ah) (ax (aY old (k+1)) (pure (.obj (.builtin "chr"))) (aa (af 0) (pure []))) ⟨[o],hp⟩ QS:=by
 induction r with
 |nil=>
  intro l kk o hp e hk u g;rw[c5] at e;cases kk with
  |zero=>cases hk
  |succ kk=>
   have h:b[l.length]?=none:=dB (bI (congrArg _ e.symm));exact CX.end_ (by simp only[cY,h]) (q hp o u (e▸g))
 |cons x r ih=>
  intro l kk o hp e hk u g;cases kk with
  |zero=>cases hk
  |succ kk=>
   have hx:b[l.length]?=some x:=by rw[<-e,cL (aC _),kG];rfl
   have hl:l.length<=b.length:=by simp only[<-e,av];exact aF ..
   refine CX.step (v:=.int x.toNat) (it':=.bytes b (l.length+1)) (by simp only[cY,hx]) (X.ev rfl (Cn rfl ?_))
   with_reducible refine X.ev (Mq x ?_) ⟨l.map vj,g,eJ (m:=500) ?_ rfl,?_⟩
   ·exact rfl
   ·rw[aW];exact aT (aA hl hb)
   ·have h:=ih (l++[x]) kk (some (.int x.toNat)) (hp.set j (.list (l.map vj++[vj x]))) (by rw[cS];exact e) (bJ hk) (u.trans (.set _ _ (au.mpr rfl))) (by rw[cw];exact bb (ak.mp g).1);rw[av] at h;exact h
theorem CX.Mk{b:List UInt8}(hb:b.length<500)(g:hp[j]?=some (.list []))(q:∀ay o,Upd [j] hp ay->ay[j]?=some (.list (b.map vj))->QS ⟨[o],ay⟩):CX dR (.bytes b 0) j (pure ah) (ax (aY old (k+1)) (pure (.obj (.builtin "chr"))) (aa (af 0) (pure []))) ⟨[none],hp⟩ QS:=
 CX.bytes hb q b [] dR none hp rfl (aB hb (by unfold dR;decide)) (.refl _ _) g
theorem w9{b:List UInt8}(hb:b.length<500)(q:∀ay,Upd [] st.hp ay->Q (.str (du b)) ⟨st.loc,ay⟩):X (aY old (k+2) (.obj (.ref 606)) [.bytes b]) st Q E:=by
 refine Vx (X.ret (X.EU (v:=.str "") (g:=.obj (.builtin "str.join")) rfl rfl (X.cX (X.comp (X.ev (a:=It.bytes b 0) (Ev.bind (a:=PV.bytes b) (by exact rfl) (by exact rfl)) (CX.Mk hb (gl _ _) λay o u g=>X.ev (a:=[]) rfl (X.ev (ED g (eJ (m:=500) (by rw[aW];exact aT hb) rfl) (wY b) (wX b)) (Rt.rt ?_))))))));rw[t9];exact q ay u.drop
theorem E0{x:Str}{w:PV}(q:Q (.ref st.hp.length) ⟨st.loc,st.hp++[.inst 590 [.str x,w]]⟩):X (aY old (k+1) (.obj (.ref 590)) [.str x,w]) st Q E:=by
 refine WX (X.rR (c:=st.hp.length) (v:=.str x) rfl rfl (gl _ _) DT ?_);rw[sl];refine X.rR (c:=st.hp.length) (v:=w) rfl rfl (gl _ _) q_ ?_;rw[sl];exact X.nx (Rt.nx ⟨rfl,q⟩)
end
inductive mX(Z:List Nat)(hp:List PO):PV->Str×List Tr->Prop
 |mk {x:Str×List Tr} (a o:Nat) (vs:List PV) (h1:a∉Z) (h2:o∉Z) (g1:hp[a]?=some (.inst 590 [.str x.1,.ref o])) (g2:hp[o]?=some (.list vs)) (hv:cj Z hp vs x.2):mX Z hp (.ref a) x
def eP(Z:List Nat)(hp:List PO):List PV->List (Str×List Tr)->Prop
 |vs,[]=>vs=[]
 |vs,x::l=>∃v ws,vs=v::ws/\mX Z hp v x/\eP Z hp ws l
section
variable{Z':List Nat}{x:Str×List Tr}
theorem mX.le(u:uy Z Z' hp ay)(h:mX Z hp v x):mX Z' ay v x:=by
 cases h with
 |mk a o vs h1 h2 g1 g2 hv=>exact .mk a o vs (u a _ h1 g1).1 (u o _ h2 g2).1 (u a _ h1 g1).2 (u o _ h2 g2).2 (hv.le u)
theorem mX.upd(u:Upd Z hp ay)(h:mX Z hp v x):mX Z ay v x:=h.le u.le
theorem eP.le(u:uy Z Z' hp ay){l:List (Str×List Tr)}:∀{vs:List PV},eP Z hp vs l->eP Z' ay vs l:=by
 induction l with
 |nil=>exactλh=>h
 |cons x l ih=>exactλ⟨v,ws,e,h,k⟩=>⟨v,ws,e,h.le u,ih k⟩
theorem eP.upd(u:Upd Z hp ay){l:List (Str×List Tr)}(h:eP Z hp vs l):eP Z ay vs l:=h.le u.le
theorem eP.less(u:∀a,a∉Z->a<hp.length->a∉Z'){l:List (Str×List Tr)}(h:eP Z hp vs l):eP Z' hp vs l:=h.le (.less u)
theorem eP.snoc(k:mX Z hp v x){l:List (Str×List Tr)}:∀{vs:List PV},eP Z hp vs l->eP Z hp (vs++[v]) (l++[x]):=by
 induction l with
 |nil=>intro vs h;rw[show vs=[] from h];exact⟨v,[],rfl,k,rfl⟩
 |cons x l ih=>intro vs ⟨w,ws,e,h,h2⟩;rw[e];exact⟨w,ws++[v],rfl,h,ih h2⟩
theorem eP.len{l:List (Str×List Tr)}:∀{vs:List PV},eP Z hp vs l->vs.length=l.length:=by
 induction l with
 |nil=>intro vs h;rw[show vs=[] from h];rfl
 |cons x l ih=>intro vs ⟨_,ws,e,_,h2⟩;rw[e];exact congrArg (·+1) (ih h2)
end
set_option backward.match.sparseCases true
theorem Upd.mB(u:Upd [] hp0 hp)(h:∀a∈S,hp0.length<=a)(v:Upd S hp ay):Upd [] hp0 ay:=⟨ai u.1 v.1,λa o e _=>v.2 a o (u.2 a o e nofun) λz=>dH (ak.mp e).1 (h a z)⟩
def lV:M Bool:=tC .NotEq (bt (af 4) (pure (.int 0))) (pure (.str "end"))
def O_(ap:Ap):M PF:=(aq (bg (ax ap (pure (.obj (.ref 373))) (aa (af 1) (pure []))) (aX 4)) (pure .next))
def Zb(ap:Ap):M PF:=(aq (cI (tC .NotEq (bt (af 4) (pure (.int 1))) (pure (.bytes [66,73]))) (aq (mR (bV ap (af 2) "append" (aa (ax ap (pure (.obj (.ref 590))) (aa (ax ap (pure (.obj (.ref 606))) (aa (bt (af 4) (pure (.int 1))) (pure []))) (aa (af 3) (pure [])))) (pure [])))) (aq (bg (eList (pure [])) (aX 3)) (pure .next))) (aq (cI (tC .Eq (af 3) (eList (pure []))) (aq (mR (bV ap (af 2) "append" (aa (ax ap (pure (.obj (.ref 634))) (aa (af 1) (pure []))) (pure [])))) (pure .next)) (aq (cZ (aa (pure (.str "BI has operands")) (aa (bt (af 4) (pure (.int 2))) (pure [])))) (pure .next))) (pure .next))) (pure .next))
def lU(ap:Ap):M PF:=(aq (cI (eT (tV (ax ap (pure (.obj (.ref 601))) (aa (af 4) (pure []))))) (aq (mR (bV ap (af 3) "append" (aa (ax ap (pure (.obj (.ref 567))) (aa (af 1) (aa (af 4) (aa (pure (.bool aj)) (pure []))))) (pure [])))) (pure .next)) (Zb ap)) (O_ ap))
def AF:M PF:=(aq (cI (tC .NotEq (af 3) (eList (pure []))) (aq (cZ (aa (pure (.str "operands without an operator")) (aa (bt (af 4) (pure (.int 2))) (pure [])))) (pure .next)) (pure .next)) (aq (bw (af 2)) (pure .next)))
theorem IU(old:Old)(ap:Ap):Sn old ap=(aq (bg (ax ap (pure (.obj (.ref 147))) (aa (af 0) (pure []))) (aX 1)) (aq (bg (eList (pure [])) (aX 2)) (aq (bg (eList (pure [])) (aX 3)) (aq (bg (ax ap (pure (.obj (.ref 373))) (aa (af 1) (pure []))) (aX 4)) (aq (bM lV (lU ap)) AF))))):=rfl
structure RS(hp0 hp:List PO)(c fo op:Nat)(jS:List PV)(fl:List (Str×List Tr))(vs:List PV)(acc:List Tr):Prop where
 u:Upd [] hp0 hp
 lc:hp0.length<=c
 lf:hp0.length<=fo
 lo:hp0.length<=op
 n1:c≠fo
 n2:c≠op
 n3:fo≠op
 bc:c<hp.length
 g1:hp[fo]?=some (.list jS)
 g2:hp[op]?=some (.list vs)
 ops:eP [op,c,fo] hp jS fl
 vals:cj [op,c,fo] hp vs acc
section
variable{m fo op:Nat}{jS:List PV}
theorem WZ{P:Nat->Prop}{b e:Nat}(h:P b)(k:P c)(l:P e)(a:Nat)(z:a∈[b,c,e]):P a:=(aP.mp z).elim (λe=>e▸h) (Bz k l a)
theorem lX{P:Nat->Prop}{b:Nat}(h:P b)(a:Nat)(z:a∈[b]):P a:=au.mp z▸h
theorem RS.zs(R:RS hp0 hp c fo op jS fl vs acc):∀z∈[op,c,fo],z<hp.length:=WZ (ak.mp R.g2).1 R.bc (ak.mp R.g1).1
theorem TO{a b:List PO}(u:Upd [c] a b):Upd [op,c,fo] a b:=u.mono (lX (.tail _ (aU ..)))
theorem OI{a b:List PO}(u:Upd [op] a b):Upd [op,c,fo] a b:=u.mono (lX (aU ..))
theorem JN{a b:List PO}(u:Upd [fo] a b):Upd [op,c,fo] a b:=u.mono (lX (.tail _ (.tail _ (aU ..))))
theorem RS.upd(R:RS hp0 hp c fo op jS fl vs acc)(u:Upd [c] hp ay):RS hp0 ay c fo op jS fl vs acc:=
 ⟨R.u.mB (lX R.lc) u,R.lc,R.lf,R.lo,R.n1,R.n2,R.n3,aB R.bc u.1,u.2 _ _ R.g1 (ip R.n1.symm),u.2 _ _ R.g2 (ip R.n2.symm),R.ops.upd (TO u),cj.upd (TO u) _ R.vals⟩
theorem RS.Qa{x:Str×List Tr}(R:RS hp0 hp c fo op jS fl vs acc)(h:mX [op,c,fo] hp v x):RS hp0 (hp.set fo (.list (jS++[v]))) c fo op (jS++[v]) (fl++[x]) vs acc:=by
 have us:Upd [fo] hp (hp.set fo (.list (jS++[v]))):=.set _ _ (au.mpr rfl);exact⟨R.u.mB (lX R.lf) us,R.lc,R.lf,R.lo,R.n1,R.n2,R.n3,by simp only[eL];exact R.bc,bb (ak.mp R.g1).1,us.2 _ _ R.g2 (ip R.n3.symm),eP.snoc (h.upd (JN us)) (R.ops.upd (JN us)),cj.upd (JN us) _ R.vals⟩
theorem RS.CW{t:Tr}(R:RS hp0 hp c fo op jS fl vs acc)(h:iu [op,c,fo] hp v t):RS hp0 (hp.set op (.list (vs++[v]))) c fo op jS fl (vs++[v]) (acc++[t]):=by
 have us:Upd [op] hp (hp.set op (.list (vs++[v]))):=.set _ _ (au.mpr rfl);exact⟨R.u.mB (lX R.lo) us,R.lc,R.lf,R.lo,R.n1,R.n2,R.n3,by simp only[eL];exact R.bc,us.2 _ _ R.g1 (ip R.n3),bb (ak.mp R.g2).1,R.ops.upd (OI us),cj.snoc _ (cj.upd (OI us) _ R.vals) (iu.upd (OI us) _ h)⟩
theorem Gh{loc:List (Option PV)}(h0:loc[1]?=some (some (.ref c)))(h:HC hp c d n)(ht:Toks d n ts)(hZ:∀z∈Z,z<hp.length)(q:∀ay tok,Upd [c] hp ay->Hd Z ay c d ts tok->QF .next ⟨loc.set 4 (some tok),ay⟩):X (O_ (aY old (k+6))) ⟨loc,hp⟩ QF E:=by
 have g:Ev (af 1) ⟨loc,hp⟩ (.ref c):=by delta Ev af;rw[h0]
 exact X.dm (X.call rfl (Ev.cons g Ev.nil) (rW h ht hZ λay tok u hd=>X.nx (q ay tok u hd)))
theorem kd_end(t:Tk):(!decide (t.kd="end"))=ah:=by
 rcases t with x|x|x
 ·cases x<;>rfl
 ·rfl
 ·rfl
theorem RS.zl(R:RS hp0 hp c fo op jS fl vs acc)(h:acc.length<4000):sz vs.length=ah:=eJ (m:=4000) (by rw[cj.len _ R.vals];exact aT h) rfl
theorem NF(R:RS hp0 hp c fo op jS fl vs acc)(hd:Hd [op,c,fo] hp c d ((t,p)::ts) tok)(hi:wx t=aj)(hL:tw ((t,p)::ts)<40)(hl:acc.length+((t,p)::ts).length<4000)
 (hf:∀n,rd d.length (2*((t,p)::ts).length+1) ((t,p)::ts)=.fault n->∀ay,Upd [] hp0 ay->E n ay)
 (q:∀u cP ay v tok,rd d.length (2*((t,p)::ts).length+1) ((t,p)::ts)=.ok u cP->RS hp0 ay c fo op jS fl (vs++[v]) (acc++[u])->Hd [op,c,fo] ay c d cP tok->X (bM lV (lU (aY old (k+7)))) ⟨[some (.bytes d),some (.ref c),some (.ref fo),some (.ref op),some tok],ay⟩ QF E):
 X (bM lV (lU (aY old (k+7)))) ⟨[some (.bytes d),some (.ref c),some (.ref fo),some (.ref op),some tok],hp⟩ QF E:=by
 have Z4:acc.length<4000:=aA (aF _ _) hl;have Rn:((t,p)::ts).length<5000:=aA (aQ _ _) (bP hl (by decide));have ZS:=hd;refine gg λG k_=>?_
 obtain⟨v,n,rfl,hv,hc,ht⟩:=hd;refine k_ ?_;refine X.dt (t:=!decide (t.kd="end")) rfl (λ_=>X.nq (Ev.eT (Ev.tV (Ev.call rfl (Ev.cons rfl Ev.nil) (lH hv)))) (by rw[hi];rfl) (X.AJ rfl R.g2 (X.call rfl rfl (Fe ZS R.zs (.tail _ (aU ..)) hL Rn (λn hr ay u=>hf n hr ay (R.u.mB (lX R.lc) u)) λu cP ay w n' hr ud hw vD UD=>⟨vs,(R.upd ud).g2,R.zl Z4,X.nx (K.nx ?_)⟩)))) λe=>nB (e.symm.trans (kd_end t))
 have R2:=(R.upd ud).CW hw;exact Gh (Z:=[op,c,fo]) rfl (vD.upd (.set _ _ (au.mpr rfl)) (ip R.n2)) UD R2.zs λfw tok u2 hd2=>Lp.nx (q u cP fw w tok hr (R2.upd u2) hd2)
theorem NL(x:Op):x.b.length<500:=by cases x<;>exact cW rfl
theorem RS.XI{A:List PO}{s:Str}(R:RS hp0 hp c fo op jS fl vs acc)(u:Upd [fo] hp A)(l:hp.length<=n)(la:n<A.length)(gn:A[n]?=some (.inst 590 [.str s,.ref op]))(gf:A[fo]?=some (.list (jS++[.ref n]))):RS hp0 (A++[.list []]) c fo A.length (jS++[.ref n]) (fl++[(s,acc)]) [] []:=by
 have uf:Upd [fo] hp (A++[.list []]):=u.trans (.push _ _);have lz:∀{a},a<hp.length->a≠A.length/\a≠n:=λh=>⟨aL (aB h u.1),aL (aB h l)⟩
 have lf:=(ak.mp R.g1).1;have lo:=(ak.mp R.g2).1;have less:∀a,a∉[op,c,fo]->a<hp.length->a∉[A.length,c,fo]:=λa h h2 z=>(aP.mp z).elim (lz h2).1 λz=>h (.tail _ z)
 have uz:Upd [A.length,c,fo] hp (A++[.list []]):=JN uf;exact⟨R.u.mB (lX R.lf) uf,R.lc,R.lf,ai R.u.1 u.1,R.n1,(lz R.bc).1,(lz lf).1,aB R.bc uf.1,iy gf _,gl _ _,
  eP.snoc (.mk n op vs (λz=>(aP.mp z).elim (aL la) λz=>Bz (P:=λa=>a≠n) (lz R.bc).2 (lz lf).2 n z rfl) (λz=>(aP.mp z).elim (lz lo).1 (wJ R.n2.symm R.n3.symm)) ((Upd.push (S:=[]) _ _).2 _ _ gn nofun) (uf.2 _ _ R.g2 (ip R.n3.symm)) (cj.upd uz _ (cj.less less _ R.vals))) (eP.upd uz (R.ops.less less)),rfl⟩
theorem yz{x:Op}(R:RS hp0 hp c fo op jS fl vs acc)(hv:TV [op,c,fo] hp (.o x) v)(hc:HC hp c d n)(hx:(x.b==[66,73])=aj)(hl:fl.length<4000)
 (q:∀ay G' w,RS hp0 ay c fo G' (jS++[w]) (fl++[(du x.b,acc)]) [] []->HC ay c d n->X (O_ (aY old (k+7))) ⟨[some (.bytes d),some (.ref c),some (.ref fo),some (.ref G'),some (fW (.o x) v p)],ay⟩ (Lp lV (lU (aY old (k+7))) QF E) E):
 X (bM lV (lU (aY old (k+7)))) ⟨[some (.bytes d),some (.ref c),some (.ref fo),some (.ref op),some (fW (.o x) v p)],hp⟩ QF E:=by
 obtain rfl:=hv.ON nofun;have hz:sz jS.length=ah:=eJ (m:=4000) (by rw[R.ops.len];exact aT hl) rfl;refine X.dt (t:=ah) rfl (λ_=>X.gF (Ev.eT (Ev.tV (Ev.call rfl (Ev.cons rfl Ev.nil) (lH hv)))) rfl
  (X.nq (Ev.tC rfl rfl Ev.Ph) (by rw[hx];rfl) (X.AJ rfl R.g1 (X.iw rfl (X.cX (X.call rfl rfl (w9 (NL x) λmh u1=>X.ev (Ev.cons rfl Ev.nil) (E0 ⟨jS,(u1.trans (.push _ _)).2 _ _ R.g1 nofun,hz,X.dm (X.list (l:=[]) Ev.nil rfl (X.nx (K.nx ?_)))⟩)))))))) nofun
 have up:Upd [] hp (mh++[PO.inst 590 [.str (du x.b),PV.ref op]]):=u1.trans (.push _ _);have us:Upd [fo] (mh++[PO.inst 590 [.str (du x.b),PV.ref op]]) ((mh++[PO.inst 590 [.str (du x.b),PV.ref op]]).set fo (.list (jS++[.ref mh.length]))):=.set _ _ (au.mpr rfl);have lf:=(ak.mp R.g1).1;exact q _ _ _ (R.XI (up.nil.trans us) u1.1 (by simp only[eL,av];exact aO _) (us.2 _ _ (gl _ _) (ip (cO (aB lf u1.1)))) (bb (aB lf up.1))) (((hc.upd up nofun).upd us (ip R.n1)).push _)
theorem NN{x:Op}(R:RS hp0 hp c fo op jS fl vs acc)(hd:Hd [op,c,fo] hp c d ((.o x,p)::ts) tok)(hx:(x.b==[66,73])=aj)(hl:fl.length<4000)
 (q:∀ay G' w tok,RS hp0 ay c fo G' (jS++[w]) (fl++[(du x.b,acc)]) [] []->Hd [G',c,fo] ay c d ts tok->X (bM lV (lU (aY old (k+7)))) ⟨[some (.bytes d),some (.ref c),some (.ref fo),some (.ref G'),some tok],ay⟩ QF E):
 X (bM lV (lU (aY old (k+7)))) ⟨[some (.bytes d),some (.ref c),some (.ref fo),some (.ref op),some tok],hp⟩ QF E:=by
 refine gg λG k_=>?_
 obtain⟨v,n,rfl,hv,hc,ht⟩:=hd;refine k_ ?_;exact yz R hv hc hx hl λay G' w R2 ZR=>Gh (Z:=[G',c,fo]) rfl ZR ht R2.zs λfw tok u2 hd2=>Lp.nx (q fw _ _ tok (R2.upd u2) hd2)
end
set_option backward.match.sparseCases false
inductive Due where
 |fault (n:Nat)|ok (l:List (Str×List Tr))
def v5(e:Nat):Nat->List (Str×List Tr)->List Tr->TS->Due
 |0,_,_,_=>.fault 0
 |_+1,fl,acc,[]=>if acc.isEmpty then .ok fl else .fault e
 |k+1,fl,acc,(t,p)::ts=>match t with
  |.o x=>v5 e k (fl++[(du x.b,acc)]) [] ts
  |_=>match rd e (2*((t,p)::ts).length+1) ((t,p)::ts) with
   |.fault n=>.fault n
   |.ok u cP=>v5 e k fl (acc++[u]) cP
def yu(ts:TS):Prop:=∀p,(Tk.o .BI,p)∉ts
section
variable{m fo op:Nat}{jS:List PV}{loc:List (Option PV)}
theorem cj.empty(h:cj Z hp vs acc):vs.isEmpty=acc.isEmpty:=by
 have:=cj.len _ h;cases vs<;>cases acc<;>first|rfl|cases this
theorem MD(R:RS hp0 hp c fo op jS fl vs acc)(hd:Hd [op,c,fo] hp c d [] tok)(hf:acc.isEmpty=aj->∀ay,Upd [] hp0 ay->E d.length ay)(q:acc.isEmpty=ah->∀ay,Upd [] hp0 ay->ay[fo]?=some (.list jS)->eP [] ay jS fl->Q (.ref fo) ⟨loc,ay⟩):
 X (bM lV (lU (aY old (k+7)))) ⟨[some (.bytes d),some (.ref c),some (.ref fo),some (.ref op),some tok],hp⟩ (K AF (Rt Q loc) E) E:=by
 obtain⟨rfl,hc⟩:=hd;rw[<-cj.empty R.vals] at hf q;have u:=R.u.trans (.push _ (.list []));exact X.dt (t:=aj) rfl nB λ_=>K.nx (X.qp (ne_nil rfl R.g2 ⟨λe=>X.raise (x:="operands without an operator") rfl (hf (by simpa using e) _ u),λe=>X.nx (K.nx (X.c6 rfl (Rt.rt (q (by simpa using e) _ u ((Upd.push (S:=[]) _ _).2 _ _ R.g1 nofun) (eP.upd (.push _ _) (R.ops.less λ_ _ _=>aJ))))))⟩))
structure LB(ts:TS)(n n2 kf:Nat):Prop where
 b:yu ts
 w:tw ts<40
 l:n+ts.length<4000
 l2:n2+ts.length<4000
 k:ts.length<kf
theorem LB.nx{y:Str×List Tr}(B:LB ((t,p)::ts) m fl.length (n+1)):LB ts 0 (fl++[y]).length n:=
 ⟨λp h=>B.b p (aM _ h),aA (aQ _ _) B.w,aA (by simp only[aZ];exact ai (bX _) (aQ _ m)) B.l,by simp only[av,bk,aN,bz 1];exact B.l2,bJ B.k⟩
theorem LB.sub{cP:TS}{u:Tr}(B:LB ts acc.length m (n+1))(hr:rd j k ts=.ok u cP):LB cP (acc++[u]).length m n:=by
 have h:(cP.length<ts.length/\cP<:+ts)/\u.wt+tw cP<=0+tw ts:=by have:=(se j k).1 ts;rwa[hr] at this
 obtain⟨⟨h1,h2⟩,h3⟩:=h;have sl:=aT h1;refine⟨λp h=>B.b p (h2.subset h),?_,?_,aA (bf sl _) B.l2,aB h1 (fK B.k)⟩
 ·simp only[aZ] at h3;exact aA (ai (aQ _ _) h3) B.w
 ·simp only[av,bk,aN,bz 1];exact aA (bf h1 _) B.l
theorem Dx{e:Nat}(h:wx t=aj):v5 e (kf+1) fl acc ((t,p)::ts)=match rd e (2*((t,p)::ts).length+1) ((t,p)::ts) with
 |.fault n=>.fault n
 |.ok u cP=>v5 e kf fl (acc++[u]) cP:=by
 cases t with
 |o x=>cases h
 |_=>rfl
theorem SH{x:Op}(h:yu ((.o x,p)::ts)):(x.b==[66,73])=aj:=by
 cases x<;>first|rfl|exact absurd (aU ..) (h p)
theorem ER(hf:∀n,D=.fault n->∀ay,Upd [] hp0 ay->E n ay)(q:∀l,D=.ok l->∀ay ws,Upd [] hp0 ay->ay[fo]?=some (.list ws)->eP [] ay ws l->Q (.ref fo) ⟨loc,ay⟩)(kf:Nat):
 ∀(ts:TS) (hp:List PO) (op:Nat) (jS vs:List PV) (fl:List (Str×List Tr)) (acc:List Tr) (tok:PV),RS hp0 hp c fo op jS fl vs acc->Hd [op,c,fo] hp c d ts tok->LB ts acc.length fl.length kf->v5 d.length kf fl acc ts=D->
 X (bM lV (lU (aY old (k+7)))) ⟨[some (.bytes d),some (.ref c),some (.ref fo),some (.ref op),some tok],hp⟩ (K AF (Rt Q loc) E) E:=by
 induction kf with
 |zero=>exactλ_ _ _ _ _ _ _ _ _ _ B=>(lA _ B.k).elim
 |succ kf ih=>
  intro ts hp op jS vs fl acc tok R hd B e;cases ts with
  |nil=>
   have e:(if acc.isEmpty=ah then Due.ok fl else .fault d.length)=D:=e;exact MD R hd (λh=>hf _ (by rw[<-e,h];rfl)) λh ay u g o=>q fl (by rw[<-e,h];rfl) ay _ u g o
  |cons x ts=>
   obtain⟨t,p⟩:=x;cases h:wx t with
   |true=>
    cases t with
    |o x=>exact NN R hd (SH B.b) (aA (aF _ _) B.l2) λay G' w JB R' sH=>ih ts ay G' _ _ _ _ JB R' sH B.nx e
    |_=>cases h
   |false=>
    rw[Dx h] at e;refine NF R hd h B.w B.l (λn hr=>hf n (by rw[<-e,hr])) λu cP ay v tok hr R' sH=>?_
    rw[hr] at e;exact ih cP ay op _ _ _ _ tok R' sH (B.sub hr) e
theorem z'(hs:sz d.length=ah)(q:∀hp c fo op,RS st.hp hp c fo op [] [] [] []->HC hp c d 0->X (aq (bg (ax (aY old (k+7)) (pure (.obj (.ref 373))) (aa (af 1) (pure []))) (aX 4)) (aq (bM lV (lU (aY old (k+7)))) AF)) ⟨[some (.bytes d),some (.ref c),some (.ref fo),some (.ref op),none],hp⟩ (Rt Q st.loc) E):
 X (aY old (k+8) (.obj (.ref 641)) [.bytes d]) st Q E:=by
 refine VC ?_;simp only[IU];have hc:HC (st.hp++[cur d 0]++[PO.list []]++[PO.list []]) st.hp.length d 0:=((⟨gl _ _,hs⟩:HC (st.hp++[cur d 0]) st.hp.length d 0).push _).push _;have e1:st.hp.length<(st.hp++[cur d 0]).length:=by simp only[av];exact aO _
 have e2:(st.hp++[cur d 0]).length<(st.hp++[cur d 0]++[PO.list []]).length:=by rw[av (as:=st.hp++[cur d 0])];exact aO _
 exact X.dm (X.call rfl rfl (Dp hs (X.dm (X.list (l:=[]) Ev.nil rfl (X.dm (X.list (l:=[]) Ev.nil rfl
  (q (st.hp++[cur d 0]++[PO.list []]++[PO.list []]) st.hp.length (st.hp++[cur d 0]).length (st.hp++[cur d 0]++[PO.list []]).length
   ⟨((Upd.push _ _).trans (.push _ _)).trans (.push _ _),aC _,aT e1,aT (bP e1 e2),aL e1,aL (bP e1 e2),aL e2,hc.lt,iy (gl _ _) _,gl _ _,rfl,rfl⟩ hc)))))))
theorem A4(hs:sz d.length=ah)(ht:Toks d 0 ts)(hb:yu ts)(hL:tw ts<40)(hl:ts.length<4000)(hf:∀n,v5 d.length (ts.length+1) [] [] ts=.fault n->∀ay,Upd [] st.hp ay->E n ay)
 (q:∀l,v5 d.length (ts.length+1) [] [] ts=.ok l->∀ay a ws,Upd [] st.hp ay->ay[a]?=some (.list ws)->eP [] ay ws l->Q (.ref a) ⟨st.loc,ay⟩):X (aY old (k+8) (.obj (.ref 641)) [.bytes d]) st Q E:=
 have h0:0+ts.length<4000:=by rw[aZ];exact hl
 z' hs λhp c fo op R hc=>X.dm (X.call rfl rfl (rW (Z:=[op,c,fo]) hc ht R.zs λay tok u2 hd=>X.seq (ER hf (λl h fw ws u3 g o=>q l h fw _ ws u3 g o) (ts.length+1) ts ay _ [] [] [] [] tok (R.upd u2) hd ⟨hb,hL,h0,h0,aO _⟩ rfl)))
end
set_option backward.match.sparseCases true
def di(x:Str×List Tr):PV:=.tup [.str x.1,.tup (cU x.2)]
def dW(old:Old)(k:Nat)(d:List UInt8)(D:Due):Prop:=∀(st:St) (Q:PV->St->Prop) (E:Int->List PO->Prop),(∀n,D=.fault n->∀ay,Upd [] st.hp ay->E n ay)->(∀l,D=.ok l->∀ay a ws,Upd [] st.hp ay->ay[a]?=some (.list ws)->eP [] ay ws l->Q (.ref a) ⟨st.loc,ay⟩)->X (aY old k (.obj (.ref 641)) [.bytes d]) st Q E
def Zc(m:Nat)(l:List (Str×List Tr)):Prop:=l.length<4000/\∀x∈l,iI x.2<=m/\x.2.length<4000
def qz(n0:Nat)(hp:List PO)(v:PV):Due->Prop
 |.fault n=>v=.tup [.str "fault",.int n]
 |.ok l=>∃a,v=.tup [.str "ok",.ref a]/\n0<=a/\hp[a]?=some (.list (l.map di))
section
variable{m:Nat}{x:Str×List Tr}
theorem Fh(h:mX [] st.hp v x)(hw:iI x.2<=m)(hl:x.2.length<4000)(q:∀ay,Upd [] st.hp ay->Q (di x) ⟨st.loc,ay⟩):X (aY old (m+4) (.obj (.ref 587)) [v]) st Q E:=by
 cases h with
 |mk a o vs _ _ g1 g2 hv=>
 have hz:vs.length<dR:=by rw[cj.len _ hv];exact aB hl (by unfold dR;decide)
 have WD:sz (cU x.2).length=ah:=eJ (m:=4000) (by rw[fq];exact aT hl) rfl;exact Vw (X.ret (X.tup (X.jz (Ev.at_ rfl (Ev.attr g1 DT rfl rfl)) (X.cX (X.iw rfl (X.cX (ua (Z:=[]) (OD m) (Ev.at_ rfl (Ev.attr g1 q_ rfl rfl)) g2 hz hv hw λay u g=>X.ev (a:=[]) rfl (X.ev (sq g WD) (X.ev (a:=[]) rfl ⟨rfl,Rt.rt (q ay u)⟩)))))))))
inductive OT(hp:List PO)(m:Nat)(v:PV):PV->Prop
 |mk (x:Str×List Tr) (h:mX [] hp v x) (w:iI x.2<=m) (l:x.2.length<4000):OT hp m v (di x)
theorem eP.all2{l:List (Str×List Tr)}:∀{ws:List PV},eP [] hp ws l->(∀x∈l,iI x.2<=m/\x.2.length<4000)->xq (OT hp m) ws (l.map di):=by
 induction l with
 |nil=>intro ws h _;rw[show ws=[] from h];exact(rfl:_=_)
 |cons x l ih=>
  intro ws ⟨v,ws,e,h,h2⟩ hh;rw[e];exact⟨_,_,rfl,.mk x h (hh x (aU ..)).1 (hh x (aU ..)).2,ih h2 λy hy=>hh y (aM _ hy)⟩
theorem OT.go{p:PV}{loc:List (Option PV)}{o:M PV}(h:OT hp0 m v p)(u:Upd [] hp0 hp)(g:Ev o ⟨loc,hp⟩ v)(q:∀ay,Upd [] hp ay->Q p ⟨loc,ay⟩):X (bV (aY old (m+5)) o "told" (pure [])) ⟨loc,hp⟩ Q E:=by
 cases h with
 |mk x ho w l=>
  have ho:=ho.upd u;cases ho with
  |mk a o vs h1 h2 g1 g2 hv=>exact X.fh (vs:=[]) g (Ev.m (m:=(590,"told",587)) g1 R7) rfl (Fh (m:=m+1) (.mk a o vs h1 h2 g1 g2 hv) (jG w) l q)
theorem u9(hc:dW old (m+5) d D)(hD:∀l,D=.ok l->Zc m l)(q:∀ay v,Upd [] st.hp ay->qz st.hp.length ay v D->Q v ⟨st.loc,ay⟩):X (aY old (m+6) (.obj (.ref 707)) [.bytes d]) st Q E:=by
 refine VL (X.seq (X.OG (X.ret (X.tup (X.jz rfl (X.cX ?_))))));refine X.comp (X.bind (X.call (vs:=[.bytes d]) rfl rfl (hc _ _ _ (λn e ay u loc=>?_) λl e ay a ws u g o=>?_)))
 ·subst e;exact K.rt (Rt.rt (q ay _ u rfl))
 ·subst e;have hlen:ws.length<dR:=by rw[eP.len o];exact aB (hD l rfl).1 (by unfold dR;decide)
  have ha:=(ak.mp g).1;refine X.ev (a:=.list a 0) (by delta Ev j4;simp only[g]) ?_;refine CX.all hlen (aL ha) (by rw[bh ha];exact g) (gl _ _) (eP.all2 o (hD l rfl).2) (λ_ _ _ _ _=>rfl) (λv p h ay u Q q=>h.go u.drop rfl q) λfw o u2 g'=>?_
  exact X.ev (a:=[]) rfl ⟨rfl,K.rt (Rt.rt (q fw _ (u.trans u2.drop) ⟨_,rfl,u.1,g'⟩))⟩
end
theorem uc{f:PV->PV->Option Bool}{l:List PV}:(∀a∈l,f a a=some ah)->jq f l l=some ah:=by
 induction l with
 |nil=>exactλ_=>rfl
 |cons a l ih=>
  intro h;show(f a a).bind (λx=>(jq f l l).map λy=>x&&y)=_;rw[h a (.head _),ih λb hb=>h b (.tail _ hb)];rfl
theorem jQ{l:List PV}(h:∀a∈l,kA hp n a a=some ah):kA hp (n+1) (.tup l) (.tup l)=some ah:=by
 show(jq (kA hp n) l l).map _=_;exact(uc h).symm▸congrArg some (by simp)
theorem jP{s:Str}:kA hp (n+1) (.str s) (.str s)=some ah:=congrArg some (decide_eq_true rfl)
theorem Bd:kA hp (n+1) (.bytes s) (.bytes s)=some ah:=congrArg some (beq_self_eq_true s)
theorem H4{s:Int}:kA hp (n+1) (.int s) (.int s)=some ah:=congrArg some (beq_self_eq_true s)
mutual
theorem DJ:∀(t:Tr) (n:Nat),t.wt+2<=n->kA hp n t.told t.told=some ah
 |t,0,h=>by lia
 |t,1,h=>by lia
 |.a x,n+2,h=>by cases x<;>rfl
 |.s b,n+2,h=>jQ λa ha=>by
  rcases aP.mp ha with rfl|ha
  ·exact jP
  ·obtain rfl:=au.mp ha;exact Bd
 |.arr l,n+2,h=>jQ λa ha=>by
  rcases aP.mp ha with rfl|ha
  ·exact jP
  ·exact lE l (n+1) (by simp only[Tr.wt] at h;lia) a ha
 |.Dv ks l,n+2,h=>jQ λa ha=>by
  rcases aP.mp ha with rfl|ha
  ·exact jP
  ·obtain⟨⟨s,v⟩,hz,rfl⟩:=bD.mp ha;refine jQ λa ha=>?_
   simp only[Tr.wt] at h;rcases aP.mp ha with rfl|ha
   ·cases n with
    |zero=>lia
    |succ n=>exact jP
   ·obtain rfl:=au.mp ha;exact lE l n (by lia) _ (gy hz).2
theorem lE:∀(l:List Tr) (n:Nat),iI l+2<=n->∀a∈cU l,kA hp n a a=some ah
 |[],n,h,a,ha=>by cases ha
 |t::l,n,h,a,ha=>by
  simp only[iI] at h;rcases aP.mp ha with rfl|ha
  ·exact DJ t n (by lia)
  ·exact lE l n (by lia) a ha
end
theorem MH{x:Str×List Tr}(h:iI x.2+2<=n):kA hp (n+2) (di x) (di x)=some ah:=jQ λa ha=>by
 rcases aP.mp ha with rfl|ha
 ·exact jP
 ·obtain rfl:=au.mp ha;exact jQ λa ha=>lE _ _ h a ha
theorem DG{l k:List PV}(q:i≠j)(h1:hp[i]?=some (.list l))(h2:hp[j]?=some (.list k))(hl:l.length=k.length):kA hp (n+1) (.ref i) (.ref j)=jq (kA hp n) l k:=by
 show(if i=j then none else(listAt hp i).bind λl=>(listAt hp j).bind λk=>if l.length=k.length then jq (kA hp n) l k else some aj)=_;rw[if_neg q,gZ h1,gZ h2];exact if_pos hl
theorem rF{n0:Nat}{w:PV}{loc:List (Option PV)}(h1:qz n0 hp v D)(h2:qz hp.length ay w D)(u:Upd [] hp ay)(hD:∀l,D=.ok l->∀x∈l,iI x.2<=32):Ev (fA .Eq v w) ⟨loc,ay⟩ (.bool ah):=by
 have key:kA ay 40 v w=some ah:=by
  cases D with
  |fault n=>
   simp only[show v=_ from h1,show w=_ from h2];exact jQ λa ha=>by
    rcases aP.mp ha with rfl|ha
    ·exact jP
    ·obtain rfl:=au.mp ha;exact H4
  |ok l=>
   obtain⟨a,rfl,_,g⟩:=h1;obtain⟨b,rfl,hb,g2⟩:=h2;have ha:=(ak.mp g).1;have g:=u.2 _ _ g nofun;have e:kA ay 39 (.ref a) (.ref b)=some ah:=by
    simp only[DG (aL (aB ha hb)) g g2 rfl];refine uc λp hp=>?_
    obtain⟨x,hx,rfl⟩:=bD.mp hp;exact MH (n:=36) (ai (bR (hD l rfl x hx) _) (by decide))
   show(jq (kA ay 39) [.str "ok",.ref a] [.str "ok",.ref b]).map _=_;show((kA ay 39 (.str "ok") (.str "ok")).bind λx=>((kA ay 39 (.ref a) (.ref b)).bind λx=>(some ah).map λy=>x&&y).map λy=>x&&y).map _=_;rw[e,show kA ay 39 (.str "ok") (.str "ok")=some ah from jP];rfl
 show MF v w _=_;unfold MF;rw[show kA (St.hp ⟨loc,ay⟩) 40 v w=_ from key]
def kj(hp:List PO)(c:Nat):Prop:=∃a b:Nat,hp[c]?=some (.list [.int a,.int b])
def U1:M PF:=(aq (bg (eB .Mod (bt (af 0) (pure (.int 0))) (af 1)) (aX 2)) (aq (bg (eB .FloorDiv (bt (af 0) (pure (.int 0))) (af 1)) (rn (af 0) (pure (.int 0)))) (aq (bw (af 2)) (pure .next))))
section
variable{m:Nat}
theorem vn{loc:List (Option PV)}{l:List PV}{x:PV}(g:hp[c]?=some (.list l))(z:sz l.length=ah)(h:j<l.length):gc (.ref c) (.int j) x ⟨loc,hp⟩=.ok () ⟨loc,hp.set c (.list (l.set j x))⟩:=by
 refine(qm g).trans ((if_pos (cq j)).trans ?_);rw[qo z h];rfl
theorem ze{b many:Nat}{loc:List (Option PV)}(g:hp[c]?=some (.list [.int a,.int b]))(hm:0<many)(Rp:many<1000)(q:∀d<many,∀ay,Upd [c] hp ay->kj ay c->Q (.int d) ⟨loc,ay⟩):X U1 ⟨[some (.ref c),some (.int many),none],hp⟩ (Rt Q loc) E:=by
 have s0:∀l:List (Option PV),Ev (km (.ref c) (.int (0:Nat))) ⟨l,hp⟩ (.int a):=λl=>Ev.nL g rfl rfl
 have hz:(many:Int)≠0:=Int.ofNat_ne_zero.mpr (cO hm);have h1:∀s,Ev (iP .Mod (.int a) (.int many)) s (.int (a%many:Nat)):=λs=>Ev.int (i:=(a:Int).fmod many) (congrFun (if_neg hz) s) (by rw[jh _ (cq _)];rfl)
 have h2:∀s,Ev (iP .FloorDiv (.int a) (.int many)) s (.int (a/many:Nat)):=λs=>Ev.int (i:=(a:Int).fdiv many) ((congrFun (if_neg hz) s).trans (congrFun (if_pos (by
  simp only[aI];exact⟨decide_eq_true ⟨ji (by decide) (cq _),dq.mpr (bP Rp (by decide))⟩,decide_eq_true (show many<_ from bP Rp (by decide))⟩)) s)) (by rw[Int.fdiv_eq_ediv_of_nonneg _ (cq _)];rfl)
 refine X.hY (Ev.B (Ev.sub rfl rfl (s0 _)) rfl (h1 _)) (X.asg (X.ev (Ev.B (Ev.sub rfl rfl (s0 _)) rfl (h2 _)) (X.dP (a:=.ref c) (by exact rfl) (X.dP (a:=.int (0:Nat)) (by exact rfl) (X.ok (a:=()) (vn g rfl (He _)) (X.c6 (v:=.int (a%many:Nat)) (by exact rfl) (Rt.rt (q _ (Nat.mod_lt _ hm) _ (.set _ _ (au.mpr rfl)) ⟨a/many,b,bb (ak.mp g).1⟩))))))))
theorem kO{many:Nat}(h:kj st.hp c)(hm:0<many)(Rp:many<1000)(q:∀d<many,∀ay,Upd [c] st.hp ay->kj ay c->Q (.int d) ⟨st.loc,ay⟩):X (aY old (k+1) (.obj (.ref 655)) [.ref c,.int many]) st Q E:=by
 obtain⟨a,b,g⟩:=h;have s0:∀l:List (Option PV),Ev (km (.ref c) (.int (0:Nat))) ⟨l,st.hp⟩ (.int a):=λl=>Ev.nL g rfl rfl
 refine VE (X.tP (Ev.tC (Ev.sub rfl rfl (s0 _)) rfl Ev.pU) (λe=>?_) λe=>X.nx (K.nx (ze g hm Rp q)));have s1:∀l:List (Option PV),Ev (km (.ref c) (.int (1:Nat))) ⟨l,st.hp⟩ (.int b):=λl=>Ev.nL g rfl rfl
 have hc:=(ak.mp g).1;have u1:Upd [c] st.hp (st.hp.set c (.list [.int a,.int (b+1:Nat)])):=.set _ _ (au.mpr rfl);have g2:(st.hp.set c (.list [.int a,.int (b+1:Nat)]))[c]?=some (.list [.int a,.int (b+1:Nat)]):=bb hc;have u2:Upd [c] (st.hp.set c (.list [.int a,.int (b+1:Nat)])) ((st.hp.set c (.list [.int a,.int (b+1:Nat)])).set c (.list [.int (1091*(b+1)+8719:Nat),.int (b+1:Nat)])):=.set _ _ (au.mpr rfl);have h3:∀s,Ev (iP .Mult (.int 1091) (.int (b+1:Nat))) s (.int (1091*(b+1):Nat)):=λs=>by
  show(if(small 1091||small ((b+1:Nat):Int))=ah then(bB (PV.int (1091*((b+1:Nat):Int))):M PV) else M.bad) s=_;rw[if_pos (by rw[show small 1091=ah by decide];rfl)];rfl
 refine X.asg (X.ev (Ev.B (Ev.sub rfl rfl (s1 _)) rfl Ev.gW) (X.dP (a:=.ref c) (by exact rfl) (X.dP (a:=.int (1:Nat)) (by exact rfl) (X.ok (a:=()) (vn g rfl (aO _)) ?_))));refine X.asg (X.ev (Ev.B (Ev.B rfl (Ev.sub rfl rfl (Ev.nL (j:=1) g2 rfl rfl)) (h3 _)) rfl Ev.gW) (X.dP (a:=.ref c) (by exact rfl) (X.dP (a:=.int (0:Nat)) (by exact rfl) (X.ok (a:=()) (vn g2 rfl (He _)) ?_))));exact X.nx (K.nx (ze (bb (by simpa using hc)) hm Rp λd hd ay u=>q d hd ay (u1.trans (u2.trans u))))
theorem Fu{l:List PV}(h:kj st.hp c)(g:st.hp[a]?=some (.list l))(ha:a≠c)(h0:0<l.length)(hl:l.length<1000)(q:∀v∈l,∀ay,Upd [c] st.hp ay->kj ay c->Q v ⟨st.loc,ay⟩):X (aY old (k+2) (.obj (.ref 662)) [.ref c,.ref a]) st Q E:=by
 refine VF (X.ret (X.sub (X.ev (a:=.ref a) (by exact rfl) (X.call (vs:=[.ref c,.int l.length]) rfl (Ev.cons rfl (Ev.cons (Ev.wF rfl g (decide_eq_true (by lia))) Ev.nil)) (kO h h0 hl λd hd ay u hp=>?_)))));exact X.ev (Ev.nL (u.2 _ _ g (by simpa using ha)) (decide_eq_true (by lia)) (bp hd)) (Rt.rt (q _ (qf hd) ay u hp))
end
set_option backward.match.sparseCases false
noncomputable def Y5:List At:=[.i7,.i0,.im,.r5,.sx,.nA,.nW,.tr,.nu]
def TD:List (List UInt8×PV):=Y5.map λx=>(x.b,.tup x.told)
noncomputable def Un:List Tk:=[.a .sx,.a .im,.a .r5,.a .nA,.a .nW,.a .i0,.a .i7,.a .nu,.a .tr]
noncomputable def bl(l:List Tk):List PV:=l.map λt=>.bytes t.b
def Tx:Tk->Option PV
 |.a x=>some (.tup x.told)
 |_=>none
theorem Lc(t:Tk):gK TD t.b=Tx t:=by rcases t with x|x|x<;>cases x<;>kernel_rfl
theorem JA:lj (TD.map λkv=>.bytes kv.1)=some (bl Un):=by kernel_rfl
section
variable{m:Nat}{loc:List (Option PV)}{b:M PF}
theorem zd{bs:List (List UInt8)}{m:M (List PV)}(hm:Ev m ⟨st.loc,st.hp++[.cN []]⟩ vs)(hl:vs.length=bs.length)(q:Q (.ref st.hp.length) ⟨st.loc,st.hp++[.cN (jb [] (bs.zip vs))]⟩):X (pB bs m) st Q E:=by
 refine X.ok ?_ q;unfold pB;rw[show m {st with hp:=st.hp++[.cN []]}=_ from hm];simp only[hl,if_true,gl,sl]
theorem vm{a:M PV}{l:List (List UInt8×PV)}{s0:List (Option PV)}(ha:∀s,Ev a s v)(z:l.length<=16777216)(h:X b ⟨some (.ref hp.length)::s0,hp++[.cN (cV l w v)]⟩ QF E):X (aq (bg a (rn (af 0) (pure (.bytes w)))) b) ⟨some (.ref hp.length)::s0,hp++[.cN l]⟩ QF E:=by
 refine X.asg (X.ev (ha _) (X.dP (a:=.ref hp.length) (by exact rfl) (X.dP (a:=.bytes w) (by exact rfl) (X.ok (a:=()) (s:=⟨some (.ref hp.length)::s0,hp++[.cN (cV l w v)]⟩) ?_ h))));refine(Dz (gl _ _)).trans ((if_pos (decide_eq_true z)).trans ?_);rw[sl]
theorem oZ(q:Q (.ref st.hp.length) ⟨st.loc,st.hp++[.cN TD]⟩):X (aY old (k+1) (.obj (.ref 669)) []) st Q E:=by
 refine VG (X.dm (zd (vs:=[.tup At.i7.told,.tup At.i0.told,.tup At.im.told,.tup At.r5.told,.tup At.sx.told]) (by exact rfl) rfl ?_));refine vm (v:=.tup At.nA.told) (λ_=>rfl) (by decide+kernel) (vm (v:=.tup At.nW.told) (λ_=>rfl) (by decide+kernel) (vm (v:=.tup At.tr.told) (λ_=>rfl) (by decide+kernel) (vm (v:=.tup At.nu.told) (λ_=>rfl) (by decide+kernel) (X.c6 (by exact rfl) (Rt.rt ?_)))));exact q
theorem F1(q:∀ay,Upd [] st.hp ay->∀a,st.hp.length<=a->ay[a]?=some (.list (bl Un))->Q (.ref a) ⟨st.loc,ay⟩):X (ax (aY old (k+1)) (pure (.obj (.builtin "sorted"))) (aa (ax (aY old (k+1)) (pure (.obj (.type "list"))) (aa (ax (aY old (k+1)) (pure (.obj (.ref 669))) (pure [])) (pure []))) (pure []))) st Q E:=by
 refine X.iw rfl (X.cX (X.iw rfl (X.cX (X.call (vs:=[]) rfl rfl (oZ ?_)))));refine X.ev (a:=[]) rfl (X.ok (a:=.ref (st.hp++[PO.cN TD]).length) (s:=⟨st.loc,st.hp++[.cN TD]++[.list (TD.map λkv=>.bytes kv.1)]⟩) ?_ ?_)
 ·show rN (.ref st.hp.length) _=_;delta rN wz;simp only[gl,show sz TD.length=ah from rfl,if_true]
 refine X.ev (a:=[]) rfl (X.ok (a:=.ref (st.hp++[PO.cN TD]++[PO.list (TD.map λkv=>PV.bytes kv.1)]).length) (s:=⟨st.loc,st.hp++[.cN TD]++[.list (TD.map λkv=>.bytes kv.1)]++[.list (bl Un)]⟩) ?_ ?_)
 ·show iD (.ref (st.hp++[PO.cN TD]).length) _=_;unfold iD;simp only[gl,aW,show TD.length<64 from by decide+kernel,if_true,JA]
 ·exact q _ (((Upd.push _ _).trans (.push _ _)).trans (.push _ _)) _ (by simp only[av];lia) (gl _ _)
theorem qD{b:Nat}{l k:List PV}(g1:st.hp[a]?=some (.list l))(g2:st.hp[b]?=some (.list k))(z:l.length+k.length<=16777216)(q:Q (.ref st.hp.length) ⟨st.loc,st.hp++[.list (l++k)]⟩):X (iP .Add (.ref a) (.ref b)) st Q E:=by
 refine X.ok (a:=.ref st.hp.length) ?_ q;show wD (.ref a) (.ref b) st=_;have z:sz (l.length+k.length)=ah:=decide_eq_true z;refine(qm g1).trans ((qm g2).trans ((if_pos z).trans (if_pos ?_)));rw[av];exact z
noncomputable def Cs:Tk->Bool
 |.o .BI=>aj
 |.o .ID=>aj
 |.o .Q=>aj
 |_=>ah
noncomputable def lw:List Tk->Nat
 |[]=>0
 |t::l=>t.wt+lw l
theorem rO:∀a b:List Tk,lw (a++b)=lw a+lw b
 |[],b=>by simp[lw]
 |t::a,b=>by simp only[GP,lw,lw,rO a b,aN]
structure Gd(L W:Nat)(l:List Tk):Prop where
 len:l.length<=L
 wt:lw l<=W
 ok:∀t∈l,Cs t=ah
theorem Gd.app{L L' W':Nat}{l l':List Tk}(h:Gd L W l)(h':Gd L' W' l'):Gd (L+L') (W+W') (l++l'):=⟨by rw[av];exact bQ h.len h'.len,by rw[rO];exact bQ h.wt h'.wt,λt ht=>(cx.mp ht).elim (h.ok t) (h'.ok t)⟩
theorem Gd.mono{L L' W':Nat}{l:List Tk}(h:Gd L W l)(h1:L<=L')(h2:W<=W'):Gd L' W' l:=⟨ai h.len h1,ai h.wt h2,h.ok⟩
theorem Gd.nil{L:Nat}:Gd L W []:=⟨df _,df _,λ_ h=>absurd h aJ⟩
theorem xI(a b:List Tk):bl (a++b)=bl a++bl b:=cw
theorem kL(a:List Tk):(bl a).length=a.length:=aW ..
structure LA(n0:Nat)(hp:List PO)(a L W:Nat)(l:List Tk):Prop where
 fr:n0<=a
 at_:hp[a]?=some (.list (bl l))
 gd:Gd L W l
structure PR(hp0:List PO)(c:Nat)(hp:List PO):Prop where
 hc:c<hp0.length
 u:Upd [c] hp0 hp
 g5:kj hp c
inductive LK(hp0:List PO)(c:Nat)(hp:List PO)(a L W:Nat):Prop
 |mk (l:List Tk) (P:PR hp0 c hp) (la:LA hp0.length hp a L W l):LK hp0 c hp a L W
def G3(old:Old)(k i deep L W:Nat):Prop:=∀(st:St) (c:Nat) (Q:PV->St->Prop) (E:Int->List PO->Prop),kj st.hp c->(∀ay a,LK st.hp c ay a L W->Q (.ref a) ⟨st.loc,ay⟩)->X (aY old k (.obj (.ref i)) [.ref c,.int deep]) st Q E
theorem kj.lt(h:kj hp c):c<hp.length:=by
 obtain⟨_,_,g⟩:=h;exact(ak.mp g).1
theorem kj.upd(h:kj hp c)(u:Upd [] hp ay):kj ay c:=by
 obtain⟨x,y,g⟩:=h;exact⟨x,y,u.2 _ _ g nofun⟩
theorem kj.push(h:kj hp c)(o:PO):kj (hp++[o]) c:=h.upd (.push _ _)
theorem LA.upd{n0 L:Nat}{l:List Tk}(h:LA n0 hp a L W l)(hc:c<n0)(u:Upd [c] hp ay):LA n0 ay a L W l:=⟨h.fr,u.2 _ _ h.at_ (ip (cO (aB hc h.fr))),h.gd⟩
section
variable{mh:List PO}{a' L L' W':Nat}
theorem PR.up(P:PR hp0 c hp)(u:Upd [c] hp ay)(g5:kj ay c):PR hp0 c ay:=⟨P.hc,P.u.trans u,g5⟩
theorem PR.Ll(P:PR hp0 c hp)(u:Upd [] hp ay):PR hp0 c ay:=P.up u.nil (P.g5.upd u)
theorem PR.push(P:PR hp0 c hp)(o:PO):PR hp0 c (hp++[o]):=P.Ll (.push _ _)
theorem PR.of(g5:kj hp c):PR hp c hp:=⟨g5.lt,.refl _ _,g5⟩
theorem PR.trans(P:PR hp0 c hp)(P':PR hp c ay):PR hp0 c ay:=P.up P'.u P'.g5
theorem LK.pr(h:LK hp0 c hp a L W):PR hp0 c hp:=by cases h with|mk l P la=>exact P
theorem LK.up(h:LK hp0 c hp a L W)(u:Upd [c] hp ay)(g5:kj ay c):LK hp0 c ay a L W:=by
 cases h with|mk l P la=>exact .mk l (P.up u g5) (la.upd P.hc u)
theorem LK.Ll(h:LK hp0 c hp a L W)(u:Upd [] hp ay):LK hp0 c ay a L W:=h.up u.nil (h.pr.g5.upd u)
theorem LK.tr(h:LK hp0 c hp a L W)(P:PR hp c ay):LK hp0 c ay a L W:=h.up P.u P.g5
theorem LK.base(P:PR hp0 c hp)(h:LK hp c ay a L W):LK hp0 c ay a L W:=by
 cases h with|mk l P' la=>exact .mk l (P.trans P') ⟨ai P.u.1 la.fr,la.at_,la.gd⟩
theorem LK.mono(h:LK hp0 c hp a L W)(h1:L<=L')(h2:W<=W'):LK hp0 c hp a L' W':=by
 cases h with|mk l P la=>exact .mk l P ⟨la.fr,la.at_,la.gd.mono h1 h2⟩
theorem LK.new(P:PR hp0 c hp){l:List Tk}(hg:Gd L W l):LK hp0 c (hp++[.list (bl l)]) hp.length L W:=.mk l (P.push _) ⟨P.u.1,gl _ _,hg⟩
theorem LK.add(h:LK hp0 c st.hp a L W)(h':LK hp0 c st.hp a' L' W')(z:L+L'<=1000)(q:∀ay b,PR st.hp c ay->LK hp0 c ay b (L+L') (W+W')->Q (.ref b) ⟨st.loc,ay⟩):X (iP .Add (.ref a) (.ref a')) st Q E:=by
 cases h with
 |mk l P la=>cases h' with
  |mk l' _ WM=>
   refine qD la.at_ WM.at_ (by simp only[kL,kL];exact ai (bQ la.gd.len WM.gd.len) (ai z (by decide))) ?_;rw[<-xI];exact q _ _ ((PR.of P.g5).push _) (.new P (la.gd.app WM.gd))
theorem KY{es:M (List PV)}{l:List Tk}(P:PR hp0 c st.hp)(h:Ev es st (bl l))(hg:Gd L W l)(z:L<=1000)(q:∀ay a,PR st.hp c ay->LK hp0 c ay a L W->Q (.ref a) ⟨st.loc,ay⟩):X (eList es) st Q E:=
 X.list h (eJ (m:=1000) (by rw[kL];exact ai hg.len z) rfl) (q _ _ ((PR.of P.g5).push _) (.new P hg))
end
def Vb(ap:Ap):M PF:=(aq (bw (eList (aa (ax ap (pure (.obj (.ref 662))) (aa (af 0) (aa (ax ap (pure (.obj (.builtin "sorted"))) (aa (ax ap (pure (.obj (.type "list"))) (aa (ax ap (pure (.obj (.ref 669))) (pure [])) (pure []))) (pure []))) (pure [])))) (pure [])))) (pure .next))
theorem Of:(Un.all λt=>t.wt==0&&Cs t)=ah:=by kernel_rfl
theorem Gd.one{L:Nat}{l:List Tk}(hl:(l.all λt=>t.wt==0&&Cs t)=ah)(ht:t∈l)(hL:1<=L):Gd L W [t]:=by
 have h:=a6.mp hl t ht;simp only[aI] at h;refine⟨hL,?_,λu hu=>by rw[au.mp hu];exact h.2⟩;simp only[lw,lw,eq_of_beq h.1];exact df _
theorem Fo{L:Nat}(h:kj hp c)(hL:1<=L)(q:∀ay a,LK hp c ay a L W->Q (.ref a) ⟨loc,ay⟩):X (Vb (aY old (k+2))) ⟨[some (.ref c),o1,o2],hp⟩ (Rt Q loc) E:=by
 refine X.ret (X.EN (X.cX (X.iw rfl (X.jz (by exact rfl) (X.cX (F1 λay u a ha g=>?_))))));refine X.ev (a:=[]) rfl (Fu (h.upd u) g (cO (aB h.lt ha)) (by decide+kernel) (by decide+kernel) λv hv fb u' g5=>X.ev (a:=[]) rfl ⟨rfl,?_⟩);refine gg λG k_=>?_
 obtain⟨t,ht,rfl⟩:=bD.mp hv;refine k_ ?_;exact Rt.rt (q _ _ (.new (l:=[t]) (((PR.of h).Ll u).up u' g5) (.one Of ht hL)))
def UZ(ap:Ap):M PF:=(aq (bg (eB .Add (af 2) (ax ap (pure (.obj (.ref 676))) (aa (af 0) (aa (af 1) (pure []))))) (aX 2)) (pure .next))
theorem FN:cY st (.range (i:Nat) (n+1:Nat) 1)=some (some (.int (i:Nat),.range ((i+1:Nat)) (n:Nat) 1)):=by
 have e2:((n+1:Nat):Int)-1=(n:Nat):=by lia
 show(if(0:Int)<(n+1:Nat) then _ else _)=_;rw[if_pos (by lia),e2];rfl
theorem ö(n:Nat):bu 0 (n:Int) 1=(n:Int):=by
 rw[rangeSize_pos (by decide) (cq _)];lia
theorem Jm{s:St}(hm:n<1000):Ev (g9 [.int (n:Int)]) s (.range (0:Nat) (n:Nat) 1):=by
 show(if cg (n:Int) then R.ok (It.range 0 (bu 0 n 1) 1) s else R.bad)=_;rw[ö,if_pos (show cg (n:Int)=ah from decide_eq_true (by lia))];rfl
theorem N7{s:St}(hn:n<1000)(q:QI (.range (0:Nat) n 1) s):X (g9 [.int (n:Int)]) s QI E:=by
 have h:=Jm (s:=s) (n:=n) hn;generalize g9 [.int (n:Int)]=m at*;have:=X.ev (E:=E) (Q:=QI) h q;exact this
theorem FO{many:Nat}{m:M (List PV)}(h:X m st (λvs s=>∃n:Nat,vs=[.int n]/\n<many/\QI (.range (0:Nat) n 1) s) E)(hm:many<1000):X (mH m) st QI E:=by
 exact X.bind (h.mono (λvs s h=>by
  refine h.elim λn h=>?_
  rw[h.1]
  with_reducible exact N7 (bP h.2.1 hm) h.2.2) λ_ _ e=>e)
theorem BL{deep L N:Nat}(ih:G3 old (k+1) 676 deep L W)(hN:L*N<=1000)(q:∀ay o a,LK hp0 c ay a (L*N) (W*N)->QF .next ⟨[some (.ref c),some (.int deep),some (.ref a),o],ay⟩)(n:Nat):∀(kf i:Nat) (o:Option PV) (hp:List PO) (a:Nat),n<kf->i+n=N->LK hp0 c hp a (L*i) (W*i)->
 X (iC kf (.range (i:Nat) (n:Nat) 1) (aX 3) (UZ (aY old (k+1)))) ⟨[some (.ref c),some (.int deep),some (.ref a),o],hp⟩ QF E:=by
 induction n with
 |zero=>
  intro kf i o hp a hk e h;cases kf with
  |zero=>cases hk
  |succ kf=>exact X.Bi rfl (q _ _ _ (e▸h))
 |succ n RB=>
  intro kf i o hp a hk e h;cases kf with
  |zero=>cases hk
  |succ kf=>
   refine X.Bj FN (X.ok (a:=()) (s:=⟨[some (.ref c),some (.int deep),some (.ref a),some (.int (i:Nat))],hp⟩) rfl (X.dm (X.B (X.ev (a:=.ref a) (by exact rfl) (X.call (vs:=[.ref c,.int deep]) rfl rfl (ih _ c _ _ h.pr.g5 λay b h'=>?_))))));exact LK.add (st:=⟨[some (.ref c),some (.int deep),some (.ref a),some (.int (i:Nat))],ay⟩) (h.tr h'.pr) (.base h.pr h') (ai (b9 L (show i+1<=N from e▸bf (e9 (df n)) i)) hN) λfw b2 _ h2=>X.nx (RB kf (i+1) _ _ _ (bJ hk) (by simp only[<-e,aN,bz 1]) h2)
theorem yw{deep L:Nat}(ih:G3 old (k+1) 676 deep L W)(hL:L<=100):G3 old (k+2) 683 deep (L*2) (W*2):=λst c Q E g5 q=>by
 refine VH (X.dm (X.list (l:=[]) Ev.nil rfl (X.MU (FO (many:=3) (X.cX (X.call (vs:=[.ref c,.int (3:Nat)]) rfl (by exact rfl) (kO (g5.push _) (by decide) (by decide) λd hd ay u tf=>X.ev (a:=[]) rfl ⟨d,rfl,hd,?_⟩))) (by decide)))));have hd2:=fK hd;exact BL (i:=0) (N:=d) (hp0:=st.hp) ih (ai (Nat.mul_le_mul hL hd2) (by decide)) (λay o a h=>K.nx (X.c6 (by exact rfl) (Rt.rt (q _ a (h.mono (b9 _ hd2) (b9 _ hd2)))))) d dR none ay st.hp.length (bP hd (by unfold dR;decide)) (aZ _) (LK.up (LK.new (l:=[]) (L:=L*0) (W:=W*0) (PR.of g5) .nil) u tf)
end
set_option backward.match.sparseCases true
section
variable{m:Nat}{loc:List (Option PV)}{b:M PF}
theorem Fc:G3 old (k+3) 676 2 1 0:=λst c Q E g5 q=>
 Qr (X.hY (Ev.gF (t:=aj) rfl rfl (by exact rfl)) (X.ff (by exact rfl) (X.ff (by exact rfl) (Fo g5 (aC _) q))))
theorem FU{es V9:M (List PV)}{m:M PV}{l l2:List Tk}{L L1 L2 W1 W2:Nat}(P:PR hp0 c st.hp)(g1:Ev es st (bl l))(h1:Gd L1 W1 l)(g2:∀hp,Ev V9 ⟨st.loc,hp⟩ (bl l2))(h2:Gd L2 W2 l2)(hm:∀ay Q,kj ay c->(∀fb a,LK ay c fb a L W->Q (.ref a) ⟨st.loc,fb⟩)->X m ⟨st.loc,ay⟩ Q E)(z:L1+L+L2<=1000)
 (q:∀ay a,LK hp0 c ay a (L1+L+L2) (W1+W+W2)->Q (.ref a) ⟨st.loc,ay⟩):X (eB .Add (eB .Add (eList es) m) (eList V9)) st Q E:=by
 have z1:=ai (aF _ _) z;refine X.B (X.B (KY P g1 h1 (ai (aF _ _) z1) λmh a1 P1 r1=>hm _ _ P1.g5 λfw a2 r2=>?_));refine LK.add (st:=⟨st.loc,fw⟩) (r1.tr r2.pr) (.base (P.trans P1) r2) z1 λsI a3 P3 r3=>?_
 refine KY (st:=⟨st.loc,sI⟩) r3.pr (g2 _) h2 (ai (aQ _ _) z) λKN a4 P4 r4=>?_
 exact LK.add (st:=⟨st.loc,KN⟩) (r3.tr P4) r4 z λWs a5 _ r5=>q _ _ r5
theorem ZJ:Gd 1 1 [.s .ob]:=⟨aC _,aC _,λt h=>by rw[au.mp h];rfl⟩
theorem ZK:Gd 2 2 [.s .od,.a .nA]:=⟨aC _,aC _,λt h=>(aP.mp h).elim (λe=>by rw[e];rfl) λh=>by rw[au.mp h];rfl⟩
theorem Yo{x:Sg}(h:(Tk.s x).wt=0/\Cs (.s x)=ah):Gd 1 0 [.s x]:=⟨aC _,bI h.1,λt h'=>by rw[au.mp h'];exact h.2⟩
theorem zM{deep L L' W':Nat}(hd:deep<2)(h1:G3 old (k+2) 683 (deep+1) (L*2) (W*2))(h2:G3 old (k+2) 676 (deep+1) L W)(z1:1+L*2+1<=L')(z2:2+L+1<=L')(z3:L'<=100)(y1:1+W*2+0<=W')(y2:2+W+0<=W'):G3 old (k+3) 676 deep L' W':=λst c Q E g5 q=>by
 have t1:Ev (tC .Lt (af 1) (pure (.int 2))) ⟨[some (.ref c),some (.int deep),none],st.hp⟩ ah:=by
  have:=Ev.tC (op:=.Lt) (a:=af 1) (b:=pure (.int 2)) (st:=⟨[some (.ref c),some (.int deep),none],st.hp⟩) (x:=.int deep) (y:=.int 2) rfl rfl Ev.lt;rwa[decide_eq_true (show(deep:Int)<2 by lia)] at this
 have zz:∀{n},n<=L'->n<=1000:=λh=>ai h (ai z3 (by decide))
 refine Qr (X.dm (X.m9 (X.ev t1 (Cn rfl (X.call (vs:=[.ref c,.int (4:Nat)]) rfl (by exact rfl) (kO g5 (by decide) (by decide) λd hd ay u tf=>?_))))));have P:PR st.hp c ay:=⟨g5.lt,u,tf⟩;refine X.tP (Ev.tC (by exact rfl) (by exact rfl) Ev.pU) (λe=>X.ret (FU (st:=⟨[some (.ref c),some (.int deep),some (.int d)],ay⟩) (l:=[.s .ob]) (l2:=[.s .cb]) P (by exact rfl) ZJ (λ_=>by exact rfl) (Yo ⟨rfl,rfl⟩) (λfw Q p q=>X.call (vs:=[.ref c,.int (deep+1:Nat)]) rfl (by exact Ev.cons rfl (Ev.cons (Ev.B rfl rfl Ev.gW) Ev.nil)) (h1 _ c _ _ p q)) (zz z1) λsI a r=>K.rt (Rt.rt (q _ _ (r.mono z1 y1))))) λe=>X.nx (K.nx ?_)
 exact X.tP (Ev.tC (by exact rfl) (by exact rfl) Ev.pU) (λe=>X.ret (FU (st:=⟨[some (.ref c),some (.int deep),some (.int d)],ay⟩) (l:=[.s .od,.a .nA]) (l2:=[.s .cd]) P (by exact rfl) ZK (λ_=>by exact rfl) (Yo ⟨rfl,rfl⟩) (λfw Q p q=>X.call (vs:=[.ref c,.int (deep+1:Nat)]) rfl (by exact Ev.cons rfl (Ev.cons (Ev.B rfl rfl Ev.gW) Ev.nil)) (h2 _ c _ _ p q)) (zz z2) λsI a r=>K.rt (Rt.rt (q _ _ (r.mono z2 y2)))))
  λe=>X.nx (K.nx (Fo tf (ai (aQ _ _) z1) λfb a r=>q _ a (.base P r)))
theorem Fb:G3 old (k+5) 676 1 4 2:=zM (by decide) (yw Fc (by decide)) Fc (by decide) (by decide) (by decide) (by decide) (by decide)
theorem ND:G3 old (k+7) 676 0 10 5:=zM (by decide) (yw Fb (by decide)) Fb (by decide) (by decide) (by decide) (by decide) (by decide)
theorem I4:G3 old (k+8) 683 0 20 10:=yw ND (by decide)
theorem lM{o:M PV}{es:M (List PV)}{l:List PV}(g5:kj st.hp c)(g0:Ev o st (.ref c))(he:Ev es st l)(h0:0<l.length)(hl:l.length<1000)(q:∀v∈l,∀ay,Upd [c] st.hp ay->kj ay c->Q v ⟨st.loc,ay⟩):X (ax (aY old (k+2)) (pure (.obj (.ref 662))) (aa o (aa (eList es) (pure [])))) st Q E:=
 X.iw rfl (X.jz g0 (X.cX (X.list he (decide_eq_true (by lia)) (X.ev (a:=[]) rfl (Fu (g5.push _) (gl _ _) (cO g5.lt) h0 hl λv hv ay u tf=>q v hv ay ((Upd.push _ _).trans u) tf)))))
noncomputable def Yb:List Tk:=[.o .q,.o .Tj,.o .R,.o .pr,.o .Ts,.o .BX]
noncomputable def Yc:List Tk:=[.s .ob,.s .cb,.s .od,.s .cd,.s .br,.a .i7,.a .i0,.o .R,.a .nA,.a .nu,.o .f]
theorem NM:(Yb.all λt=>t.wt==0&&Cs t)=ah:=by kernel_rfl
theorem NQ:(Yc.all λt=>decide (t.wt<=2)&&Cs t)=ah:=by kernel_rfl
def U0(ap:Ap):M PF:=(aq (bg (eB .Add (eB .Add (af 1) (ax ap (pure (.obj (.ref 683))) (aa (af 0) (aa (pure (.int 0)) (pure []))))) (eList (aa (ax ap (pure (.obj (.ref 662))) (aa (af 0) (aa (eList (aa (pure (.bytes [113])) (aa (pure (.bytes [84,106])) (aa (pure (.bytes [82])) (aa (pure (.bytes [39])) (aa (pure (.bytes [84,42])) (aa (pure (.bytes [66,88])) (pure [])))))))) (pure [])))) (pure [])))) (aX 1)) (pure .next))
theorem FP{o3 o5:Option PV}{N:Nat}(hN:N<=3)(q:∀ay o a,LK hp0 c ay a (21*N) (10*N)->QF .next ⟨[some (.ref c),some (.ref a),o,o3,o4,o5],ay⟩)(n:Nat):∀(kf i:Nat) (o:Option PV) (hp:List PO) (a:Nat),n<kf->i+n=N->LK hp0 c hp a (21*i) (10*i)->
 X (iC kf (.range (i:Nat) (n:Nat) 1) (aX 2) (U0 (aY old (k+8)))) ⟨[some (.ref c),some (.ref a),o,o3,o4,o5],hp⟩ QF E:=by
 induction n with
 |zero=>
  intro kf i o hp a hk e h;cases kf with
  |zero=>cases hk
  |succ kf=>exact X.Bi rfl (q _ _ _ (e▸h))
 |succ n RB=>
  intro kf i o hp a hk e h;cases kf with
  |zero=>cases hk
  |succ kf=>
   have z:21*i+20+1<=1000:=ai (b9 21 (ai (show i+1<=N from e▸bf (e9 (df n)) i) hN)) (by decide);refine X.Bj FN (X.ok (a:=()) (s:=⟨[some (.ref c),some (.ref a),some (.int (i:Nat)),o3,o4,o5],hp⟩) rfl (X.dm (X.B (X.B (X.ev (a:=.ref a) (by exact rfl) (X.call (vs:=[.ref c,.int (0:Nat)]) rfl (by exact rfl) (I4 ⟨[some (.ref c),some (.ref a),some (.int (i:Nat)),o3,o4,o5],hp⟩ c _ _ h.pr.g5 λay b h'=>?_)))))));refine LK.add (st:=⟨[some (.ref c),some (.ref a),some (.int (i:Nat)),o3,o4,o5],ay⟩) (h.tr h'.pr) (.base h.pr h') (Nat.le_of_succ_le z) λfw b2 P2 r2=>X.EN (X.cX (lM (l:=bl Yb) P2.g5 (by exact rfl) (by exact rfl) (by decide+kernel) (by decide+kernel) λv hv sI u3 yB=>?_))
   obtain⟨t,ht,rfl⟩:=bD.mp hv;have r3:=r2.up u3 yB;exact X.ev (a:=[]) rfl ⟨rfl,LK.add (L':=1) (W':=0) (st:=⟨[some (.ref c),some (.ref a),some (.int (i:Nat)),o3,o4,o5],sI++[.list (bl [t])]⟩) (r3.Ll (.push _ _)) (.new r3.pr (.one NM ht (aC _))) z λKN b4 _ r4=>X.nx (RB kf (i+1) _ _ _ (bJ hk) (by simp only[<-e,aN,bz 1]) r4)⟩
theorem qV{l:List α}:cut l none (some (n:Int))=l.take n:=by
 unfold cut;simp only[lB,qx,l4,xm];rw[<-List.take_take,j0]
theorem qU{l:List α}:cut l (some (n:Int)) none=l.drop n:=by
 unfold cut;simp only[lB,qx];rw[fm (by rw[cB];exact aC _)];rcases xl n l.length with h|h
 ·rw[gA h]
 ·rw[qu h,qe,kq h]
theorem K8{a b c:M PV}{l:List PV}{x y:PV}{lo hi:Option Int}(ha:Ev a st (.ref i))(hb:Ev b st x)(hc:Ev c st y)(g:st.hp[i]?=some (.list l))(h1:k7 x=some lo)(h2:k7 y=some hi)(z:l.length<1000)(q:Q (.ref st.hp.length) ⟨st.loc,st.hp++[.list (cut l lo hi)]⟩):X (iB old a b c) st Q E:=by
 refine X.dP ha (X.dP hb (X.dP hc (X.ok (a:=.ref st.hp.length) ?_ q)));show mI (.ref i) x y st=_;unfold mI;simp only[h1,h2];exact(qm g).trans ((if_pos (decide_eq_true (by lia))).trans (if_pos (decide_eq_true (by have:=zc l lo hi;lia))))
theorem zC:∀(n:Nat) (l:List Tk),lw (l.drop n)<=lw l
 |0,l=>aC _
 |n+1,[]=>aC _
 |n+1,t::l=>ai (zC n l) (aQ _ _)
theorem Gd.cut{L:Nat}{l:List Tk}(h:Gd L W l)(s j:Nat)(mid:List Tk)(hm:Gd 1 2 mid):Gd (L+1) (W+2) (l.take s++mid++(l.drop s).drop j):=by
 have h1:(l.take s).length+((l.drop s).drop j).length<=L:=ai (bf (by rw[cB];exact dU ..) _) (by rw[<-av,xk];exact h.len);have h2:lw (l.take s)+lw ((l.drop s).drop j)<=W:=ai (bf (zC j (l.drop s)) _) (by rw[<-rO,xk];exact h.wt);refine⟨?_,?_,λt ht=>?_⟩
 ·rw[av,av,gB];exact bQ h1 hm.len
 ·rw[rO,rO,gB];exact bQ h2 hm.wt
 ·rcases cx.mp ht with ht|ht
  ·exact(cx.mp ht).elim (λht=>h.ok t (l6 ht)) (hm.ok t)
  ·exact h.ok t (l5 (l5 ht))
theorem HE(l:List Tk)(n:Nat):(bl l).take n=bl (l.take n):=Lw.symm
theorem HD(l:List Tk)(n:Nat):(bl l).drop n=bl (l.drop n):=Lv.symm
theorem LA.zl{n0 L:Nat}{l:List Tk}(la:LA n0 hp a L W l)(hL:L<1000):(bl l).length<1000:=by rw[kL];exact aA la.gd.len hL
theorem LA.Qy{n0 L s:Nat}{l:List Tk}(la:LA n0 st.hp a L W l)(hL:L<1000){x y:M PV}(h0:Ev x st (.ref a))(h1:Ev y st (.int (s:Nat)))(q:∀ay b,Upd [] st.hp ay->ay[b]?=some (.list (bl (l.take s)))->Q (.ref b) ⟨st.loc,ay⟩):X (iB old x (pure .none) y) st Q E:=by
 refine K8 (lo:=none) (hi:=some (s:Int)) h0 (by exact rfl) h1 la.at_ rfl rfl (la.zl hL) ?_;rw[qV,HE];exact q _ _ (.push _ _) (gl _ _)
theorem LA.cutD{n0 L s:Nat}{l:List Tk}(la:LA n0 st.hp a L W l)(hL:L<1000){x y:M PV}(h0:Ev x st (.ref a))(h1:Ev y st (.int (s:Nat)))(q:∀ay b,Upd [] st.hp ay->ay[b]?=some (.list (bl (l.drop s)))->Q (.ref b) ⟨st.loc,ay⟩):X (iB old x y (pure .none)) st Q E:=by
 refine K8 (lo:=some (s:Int)) (hi:=none) h0 h1 (by exact rfl) la.at_ rfl rfl (la.zl hL) ?_;rw[qU,HD];exact q _ _ (.push _ _) (gl _ _)
theorem Kn{d s:Nat}{l mid:List Tk}(hl:Gd 63 30 l)(hm:Gd 1 2 mid)(g1:st.hp[a]?=some (.list (bl (l.take s++mid))))(g2:st.hp[d]?=some (.list (bl (l.drop (s+j)))))(P:PR hp0 c st.hp)(q:∀ay b,LK hp0 c ay b 64 32->Q (.ref b) ⟨st.loc,ay⟩):X (iP .Add (.ref a) (.ref d)) st Q E:=by
 have h:=hl.cut s j mid hm;rw[<-cK] at g2;refine qD g1 g2 (by rw[kL,kL,<-av];exact ai h.len (by decide)) ?_;rw[<-xI];exact q _ _ (.new P h)
def P0(old:Old):M PF:=(aq (cI (tC .Eq (af 3) (pure (.int 1))) (aq (bw (eB .Add (iB old (af 1) (pure .none) (af 4)) (iB old (af 1) (eB .Add (af 4) (pure (.int 1))) (pure .none)))) (pure .next)) (pure .next)) (aq (cI (tC .Eq (af 3) (pure (.int 2))) (aq (bw (eB .Add (eB .Add (iB old (af 1) (pure .none) (af 4)) (eList (aa (af 5) (pure [])))) (iB old (af 1) (af 4) (pure .none)))) (pure .next)) (pure .next)) (aq (bw (m9 (tC .Eq (af 3) (pure (.int 3))) (eB .Add (eB .Add (iB old (af 1) (pure .none) (af 4)) (eList (aa (af 5) (pure [])))) (iB old (af 1) (eB .Add (af 4) (pure (.int 1))) (pure .none))) (af 1))) (pure .next))))
theorem KS{s:Nat}{l:List Tk}{hi:M PV}(la:LA hp0.length st.hp a 63 30 l)(ht:Gd 1 2 [t])(e1:∀h,Ev (af 1) ⟨st.loc,h⟩ (.ref a))(e4:∀h,Ev (af 4) ⟨st.loc,h⟩ (.int (s:Nat)))(e5:∀h,Ev (af 5) ⟨st.loc,h⟩ (.bytes t.b))(hh:∀h,Ev hi ⟨st.loc,h⟩ (.int (s+j:Nat)))(P:PR hp0 c st.hp)
 (q:∀ay a,LK hp0 c ay a 64 32->Q (.ref a) ⟨st.loc,ay⟩):X (eB .Add (eB .Add (iB old (af 1) (pure .none) (af 4)) (eList (aa (af 5) (pure [])))) (iB old (af 1) hi (pure .none))) st Q E:=by
 refine X.B (X.B (la.Qy (by decide) (e1 _) (e4 _) λh1 b1 u1 g1=>X.list (l:=[.bytes t.b]) (Ev.cons (e5 _) Ev.nil) rfl (qD (l:=bl (l.take s)) (k:=bl [t]) (iy g1 _) (gl _ _) (ai (bQ (by rw[kL,GR];exact ai (Hc ..) la.gd.len) (aC 1)) (by decide)) ?_)));simp only[<-xI];have u2:Upd [] st.hp _:=u1.trans ((Upd.push _ (.list [.bytes t.b])).trans (.push _ (.list (bl (l.take s++[t])))));have g2:=gl (h1++[PO.list [.bytes t.b]]) (.list (bl (l.take s++[t])));generalize h1++[PO.list [.bytes t.b]]++[.list (bl (l.take s++[t]))]=h2 at u2 g2⊢;exact LA.cutD (st:=⟨st.loc,h2⟩) (la.upd P.hc u2.nil) (by decide) (e1 _) (hh _) λh3 b3 u3 g3=>Kn (st:=⟨st.loc,h3⟩) la.gd ht (u3.2 _ _ g2 aJ) g3 ((P.Ll u2).Ll u3) q
theorem QC{s:Nat}{l:List Tk}{hi:M PV}(la:LA hp0.length st.hp a 63 30 l)(e1:∀h,Ev (af 1) ⟨st.loc,h⟩ (.ref a))(e4:∀h,Ev (af 4) ⟨st.loc,h⟩ (.int (s:Nat)))(hh:∀h,Ev hi ⟨st.loc,h⟩ (.int (s+1:Nat)))(P:PR hp0 c st.hp)
 (q:∀ay a,LK hp0 c ay a 64 32->Q (.ref a) ⟨st.loc,ay⟩):X (eB .Add (iB old (af 1) (pure .none) (af 4)) (iB old (af 1) hi (pure .none))) st Q E:=
 X.B (la.Qy (by decide) (e1 _) (e4 _) λh1 b1 u1 g1=>LA.cutD (st:=⟨st.loc,h1⟩) (la.upd P.hc u1.nil) (by decide) (e1 _) (hh _) λh2 b2 u2 g2=>Kn (st:=⟨st.loc,h2⟩) (mid:=[]) la.gd .nil (by rw[c5];exact u2.2 _ _ g1 aJ) g2 ((P.Ll u1).Ll u2) q)
noncomputable abbrev vL(c a:Nat)(o2:Option PV)(w s:Nat)(t:Tk):List (Option PV):=[some (.ref c),some (.ref a),o2,some (.int (w:Nat)),some (.int (s:Nat)),some (.bytes t.b)]
theorem OK{s w:Nat}(h:LK hp0 c hp a 63 30)(ht:Gd 1 2 [t])(q:∀ay a,LK hp0 c ay a 64 32->Q (.ref a) ⟨loc,ay⟩):X (P0 old) ⟨vL c a o2 w s t,hp⟩ (Rt Q loc) E:=by
 have e1:∀h,Ev (eB .Add (af 4) (pure (.int 1))) ⟨vL c a o2 w s t,h⟩ (.int (s+1:Nat)):=λh=>Ev.B rfl rfl Ev.gW
 have e2:∀h,Ev (af 1) ⟨vL c a o2 w s t,h⟩ (.ref a):=λh=>rfl
 have e3:∀h,Ev (af 4) ⟨vL c a o2 w s t,h⟩ (.int (s:Nat)):=λh=>rfl
 have e5:∀h,Ev (af 5) ⟨vL c a o2 w s t,h⟩ (.bytes t.b):=λh=>rfl
 cases h with
 |mk l P la=>
 refine X.tP (Ev.tC (by exact rfl) (by exact rfl) Ev.pU) (λ_=>X.ret (QC (st:=⟨vL c a o2 w s t,hp⟩) la e2 e3 e1 P λay a r=>K.rt (Rt.rt (q _ a r)))) λ_=>X.nx (K.nx (X.tP (Ev.tC (by exact rfl) (by exact rfl) Ev.pU) (λ_=>X.ret (KS (st:=⟨vL c a o2 w s t,hp⟩) (j:=0) la ht e2 e3 e5 e3 P λay a r=>K.rt (Rt.rt (q _ a r)))) λ_=>X.nx (K.nx ?_)))
 exact X.ret (X.m9 (X.ev (Ev.tC (by exact rfl) (by exact rfl) Ev.pU) ⟨λ_=>KS (st:=⟨vL c a o2 w s t,hp⟩) (j:=1) la ht e2 e3 e5 e1 P λay a r=>Rt.rt (q _ a r),λ_=>X.ev (a:=.ref a) (by exact rfl) (Rt.rt (q _ _ ((LK.mk l P la).mono (by decide) (by decide))))⟩))
def U4(old:Old)(ap:Ap):M PF:=(aq (j8 (bq (aa (ax ap (pure (.obj (.ref 655))) (aa (af 0) (aa (pure (.int 5)) (pure [])))) (aa (ax ap (pure (.obj (.ref 655))) (aa (af 0) (aa (eB .Add (ax ap (pure (.obj (.builtin "len"))) (aa (af 1) (pure []))) (pure (.int 1))) (pure [])))) (pure [])))) 2 [aX 4,aX 3]) (aq (bg (ax ap (pure (.obj (.ref 662))) (aa (af 0) (aa (eList (aa (pure (.bytes [91])) (aa (pure (.bytes [93])) (aa (pure (.bytes [60,60])) (aa (pure (.bytes [62,62])) (aa (pure (.bytes [125])) (aa (pure (.bytes [55])) (aa (pure (.bytes [48])) (aa (pure (.bytes [82])) (aa (pure (.bytes [47,65])) (aa (pure (.bytes [110,117,108,108])) (aa (pure (.bytes [102])) (pure []))))))))))))) (pure [])))) (aX 5)) (P0 old)))
theorem MK{o3 o5:Option PV}(h:LK hp0 c hp a 63 30)(q:∀ay a,LK hp0 c ay a 64 32->Q (.ref a) ⟨loc,ay⟩):X (U4 old (aY old (k+2))) ⟨[some (.ref c),some (.ref a),o2,o3,o4,o5],hp⟩ (Rt Q loc) E:=by
 refine X.Ga (X.tup (X.cX (X.call (vs:=[.ref c,.int (5:Nat)]) rfl (by exact rfl) (kO h.pr.g5 (by decide) (by decide) λw hw mh u1 sb=>?_))));have h1:=h.up u1 sb;cases id h1 with
 |mk l P1 WN=>
 have hl:l.length<=63:=WN.gd.len;have e:Ev (ax (aY old (k+2)) (pure (.obj (.builtin "len"))) (aa (af 1) (pure []))) ⟨[some (.ref c),some (.ref a),o2,o3,o4,o5],mh⟩ (.int l.length):=by
  have:=Ev.wF (old:=old) (k:=k+1) (es:=aa (af 1) (pure [])) (st:=⟨[some (.ref c),some (.ref a),o2,o3,o4,o5],mh⟩) (by exact rfl) WN.at_ (eJ (aT (WN.zl (by decide))) rfl);rwa[kL] at this
 refine X.cX (X.call (vs:=[.ref c,.int (l.length+1:Nat)]) rfl (by exact Ev.cons rfl (Ev.cons (Ev.B e rfl Ev.gW) Ev.nil)) (kO sb (ec _) (aA (e9 hl) (by decide)) λs hs fw u2 oQ=>X.ev (a:=[]) rfl ⟨rfl,_,rfl,rfl,?_⟩));refine X.ok (a:=()) (s:=⟨[some (.ref c),some (.ref a),o2,some (.int (w:Nat)),some (.int (s:Nat)),o5],fw⟩) rfl (X.dm (lM (l:=bl Yc) oQ (by exact rfl) (by exact rfl) (by decide+kernel) (by decide+kernel) λv hv sI u3 yB=>?_));obtain⟨t,ht,rfl⟩:=bD.mp hv;have ho:=a6.mp NQ t ht;simp only[aI] at ho;exact OK ((h1.up u2 oQ).up u3 yB) ⟨aC _,by simp only[lw,lw];exact of_decide_eq_true ho.1,λx hx=>by rw[au.mp hx];exact ho.2⟩ q
theorem Tc(g5:kj st.hp c)(q:∀ay a,LK st.hp c ay a 64 32->Q (.ref a) ⟨st.loc,ay⟩):X (aY old (k+9) (.obj (.ref 690)) [.ref c]) st Q E:=by
 refine VI (X.dm (X.list (l:=[]) Ev.nil rfl (X.MU (FO (many:=4) (X.cX (X.call (vs:=[.ref c,.int (4:Nat)]) rfl (by exact rfl) (kO (g5.push _) (by decide) (by decide) λd hd ay u tf=>X.ev (a:=[]) rfl ⟨d,rfl,hd,?_⟩))) (by decide)))));have Wf:=fK hd;exact FP (i:=0) (N:=d) (hp0:=st.hp) Wf (λay o a h=>K.nx (MK (k:=k+6) (h.mono (b9 21 Wf) (b9 10 Wf)) q)) d dR none ay st.hp.length (bP hd (by unfold dR;decide)) (aZ _) (LK.up (LK.new (l:=[]) (L:=21*0) (W:=10*0) (PR.of g5) .nil) u tf)
end
theorem nP:∀l:List Tr,cU l=l.map Tr.told
 |[]=>rfl
 |t::l=>congrArg (t.told::·) (nP l)
def Sq(S:List PO->Prop):It->List PV->Prop
 |it,[]=>∀st:St,S st.hp->cY st it=some none
 |it,v::vs=>∃it',(∀st:St,S st.hp->cY st it=some (some (v,it')))/\Sq S it' vs
theorem Sq.list{S:List PO->Prop}(h:∀hp,S hp->hp[a]?=some (.list vs))(ws:List PV):∀(i:Nat),vs.drop i=ws->Sq S (.list a i) ws:=by
 induction ws with
 |nil=>
  intro i e st s;have:vs[i]?=none:=dB (lZ.mp e);simp only[cY,h _ s,this]
 |cons w ws ih=>
  intro i e;have:vs[i]?=some w:=by rw[<-gx,e];rfl
  exact⟨.list a (i+1),λst s=>by simp only[cY,h _ s,this],ih (i+1) (by rw[<-cK,e];rfl)⟩
section
variable{m:Nat}{mt:M Bool}{me:M PV}{S:List PO->Prop}
def vJ(mt:M Bool)(me:M PV)(l0:List (Option PV))(hp:List PO)(r:PV×Option PV):Prop:=Ev mt ⟨some r.1::l0,hp⟩ r.2.isSome/\∀p,r.2=some p->Ev me ⟨some r.1::l0,hp⟩ p
theorem CX.Q0{Y3:List PV}(hS:∀ay,Upd [j] hp0 ay->S ay)(q:∀ay o,Upd [j] hp0 ay->ay[j]?=some (.list Y3)->QS ⟨o::l0,ay⟩)(rs:List (PV×Option PV)):∀(it:It) (k:Nat) (o:Option PV) (hp:List PO) (acc:List PV),Upd [j] hp0 hp->Sq S it (rs.map (·.1))->rs.length<k->acc.length+rs.length<10000->hp[j]?=some (.list acc)->acc++rs.filterMap (·.2)=Y3->
 (∀r∈rs,∀ay,Upd [j] hp0 ay->vJ mt me l0 ay r)->CX k it j mt me ⟨o::l0,hp⟩ QS:=by
 induction rs with
 |nil=>
  intro it k o hp acc u hs hk hz g e hf;cases k with
  |zero=>cases hk
  |succ k=>exact CX.end_ (hs _ (hS _ u)) (q hp o u (by rw[<-e,List.filterMap_nil,c5];exact g))
 |cons r rs ih=>
  obtain⟨v,w⟩:=r;intro it k o hp acc u ⟨it',h1,h2⟩ hk hz g e hf;cases k with
  |zero=>cases hk
  |succ k=>
   have Wj:=hf _ (aU ..) hp u;have Yv:∀r∈rs,∀ay,Upd [j] hp0 ay->vJ mt me l0 ay r:=λr hr=>hf r (aM _ hr)
   have En:rs.length<k:=bJ hk;clear hf hk;cases w with
   |none=>exact CX.step (v:=v) (it':=it') (h1 _ (hS _ u)) (X.ev Wj.1 ⟨λb=>nB b,λ_=>ih it' k _ _ acc u h2 En (pN hz) g e Yv⟩)
   |some p=>exact CX.step (v:=v) (it':=it') (h1 _ (hS _ u)) (X.ev Wj.1 ⟨λ_=>X.ev (Wj.2 p rfl) ⟨acc,g,eJ (m:=10000) (ai (aF _ _) (aT hz)) rfl,ih it' k _ _ (acc++[p]) (u.trans (.set _ _ (au.mpr rfl))) h2 En (by rw[av,bk,aN,bz 1];exact hz) (bb (ak.mp g).1) (by rw[<-e,cS];rfl) Yv⟩,λb=>nB b.symm⟩)
inductive Hr(ix:List Nat)(mt:M Bool)(me:M PV)(Q:PV->St->Prop)(it:It)(s:St):Prop
 |mk (rs:List (PV×Option PV)) (h1:Sq (Upd [] s.hp) it (rs.map (·.1))) (h2:rs.length<1000) (h3:∀r∈rs,∀ay,Upd [] s.hp ay->vJ mt me (ix.map λi=>(s.loc[i]?).join) ay r) (h4:∀ay,Upd [] s.hp ay->ay[s.hp.length]?=some (.list (rs.filterMap (·.2)))->Q (.ref s.hp.length) ⟨s.loc,ay⟩):Hr ix mt me Q it s
theorem Hr.x{it:It}(h:Hr ix mt me Q it st):CX dR it st.hp.length mt me ⟨md ix st.loc,st.hp++[.list []]⟩ λs'=>Q (.ref st.hp.length) ⟨st.loc,s'.hp⟩:=by
 cases h with
 |mk rs h1 h2 h3 h4=>exact CX.Q0 (S:=Upd [] st.hp) (λay u=>u.drop) (λay o u g=>h4 ay u.drop g) rs it dR none _ [] (.refl _ _) h1 (bP h2 (by decide)) (by rw[bE,aZ];exact bP h2 (by decide)) (gl _ _) rfl (λr hr ay u=>h3 r hr ay u.drop)
theorem X.Q0{mi:M It}(h:X mi st (Hr ix mt me Q) E):X (fy ix mi mt me) st Q E:=X.comp (h.mono (λ_ _ h=>h.x) λ_ _ e=>e)
end
def G_:List Tr->List (Str×PV)
 |.a .nA::t::l=>("A",t.told)::G_ l
 |.a .nW::t::l=>("W",t.told)::G_ l
 |_=>[]
theorem IE(h:lC acc):acc.length=2*(G_ acc).length:=by
 induction h with
 |n=>rfl
 |c n t l hn _ ih=>rcases hn with rfl|rfl<;>exact congrArg (·+2) ih
noncomputable def Pl:Nat->List (Str×PV)->List (PV×Option PV)
 |_,[]=>[]
 |i,p::l=>(.int (2*i:Nat),some (.tup [.str p.1,p.2]))::Pl (i+1) l
theorem zZ:∀{l:List (Str×PV)} {i:Nat},(Pl i l).length=l.length
 |[],_=>rfl
 |_::_,_=>congrArg (·+1) zZ
theorem z0:∀{l:List (Str×PV)} {i:Nat},(Pl i l).filterMap (·.2)=l.map λp=>.tup [.str p.1,p.2]
 |[],_=>rfl
 |_::_,_=>congrArg (_::·) z0
theorem FT{S:List PO->Prop}:∀(l:List (Str×PV)) (i:Nat),Sq S (.range (2*i:Nat) (l.length:Nat) 2) ((Pl i l).map (·.1))
 |[],_=>λ_ _=>rfl
 |_::l,i=>⟨_,λ_ _=>zX,FT l (i+1)⟩
inductive KV(full:List Tr):PV×Option PV->Prop
 |mk (n:Nat) (y:PV) (z:Str) (v:PV) (h:(cU full)[n]?=some (.tup [y,.str z])) (k:(cU full)[n+1]?=some v):KV full (.int n,some (.tup [.str z,v]))
theorem RN(full:List Tr)(hw:lC acc):∀(i:Nat),full.drop (2*i)=acc->∀x∈Pl i (G_ acc),KV full x:=by
 induction hw with
 |n=>intro i e x hx;cases hx
 |c n t l hn _ ih=>
  intro i e x hx;obtain⟨h0,h1,h2⟩:=Kt e;have e0:=cE (f:=Tr.told) (l:=full) (i:=2*i);have e1:=cE (f:=Tr.told) (l:=full) (i:=2*i+1);rw[h0] at e0;rw[h1] at e1;rw[<-nP] at e0 e1;rcases hn with rfl|rfl<;>exact(aP.mp hx).elim (λhx=>by rw[hx];exact .mk _ _ _ _ e0 e1) (ih (i+1) h2 x)
theorem DL.fold(hw:lC acc):∀{x y:Option Tr} {l:List (Str×PV)},DL (x.map Tr.told) (y.map Tr.told) l->DL ((ek acc (x,y)).1.map Tr.told) ((ek acc (x,y)).2.map Tr.told) ((G_ acc).foldl (λa kv=>cV a kv.1 kv.2) l):=by
 induction hw with
 |n=>exactλh=>h
 |c n t l hn _ ih=>
  intro x y k h;rcases hn with rfl|rfl
  ·exact ih (x:=some t) (h.yF _)
  ·exact ih (y:=some t) (h.Te _)
def r1(s:Str)(t:Tr):PV×Option PV:=(.str s,bif kl t then none else some (.tup [.str s,t.told]))
noncomputable def Jn(x y:Option Tr):List (PV×Option PV):=(x.toList.map (r1 "A"))++y.toList.map (r1 "W")
theorem zY(x y:Option Tr):(Jn x y).length<=2:=by cases x<;>cases y<;>exact cW rfl
theorem FQ{x y:Option Tr}:(Jn x y).map (·.1)=(wB (x.map Tr.told) (y.map Tr.told)).map .str:=by cases x<;>cases y<;>rfl
theorem FG(s:Str)(x:Option Tr):(x.toList.map (r1 s)).filterMap (·.2)=(BD x).toList.map λt=>.tup [.str s,t.told]:=by
 cases x with
 |none=>rfl
 |some t=>
  show[r1 s t].filterMap (·.2)=(if(!kl t)=ah then some t else none).toList.map λt=>PV.tup [.str s,t.told]
  unfold r1;cases kl t<;>rfl
theorem FR(x y:Option Tr):(Tr.Dv (wB (BD x) (BD y)) (BM (BD x) (BD y))).told=.tup ([.str "dict"]++(Jn x y).filterMap (·.2)):=by
 unfold Jn;rw[List.filterMap_append,FG,FG];cases BD x<;>cases BD y<;>rfl
theorem å(h:DL (some v) y l):gK l "A"=some v:=by cases h<;>kernel_rfl
theorem æ{x:Option PV}(h:DL x (some v) l):gK l "W"=some v:=by cases h<;>kernel_rfl
theorem N8{x y:Option Tr}(h:DL (x.map Tr.told) (y.map Tr.told) l)(r:PV×Option PV)(hr:r∈Jn x y):∃s t,r=(.str s,bif kl t then none else some (.tup [.str s,t.told]))/\gK l s=some t.told:=by
 rcases cx.mp hr with hr|hr
 ·cases x with
  |none=>cases hr
  |some t=>obtain rfl:=au.mp hr;exact⟨"A",t,rfl,å h⟩
 ·cases y with
  |none=>cases hr
  |some t=>obtain rfl:=au.mp hr;exact⟨"W",t,rfl,æ h⟩
theorem Fq(l:List (Str×PV)):kZ (l.map λp=>.tup [.str p.1,p.2])=some l:=by
 induction l with
 |nil=>rfl
 |cons p l ih=>exact congrArg (sE (p::·)) ih
theorem I2(t:Tr):Ev (fA .NotEq t.told (.tup [.str "null"])) st (.bool (!kl t)):=by
 rcases t with x|l|⟨ks,l⟩|b
 ·cases x<;>rfl
 ·show Nx (.tup (.str "array"::cU l)) _ _=_;cases cU l<;>rfl
 ·show Nx (.tup (.str "dict"::(ks.zip (cU l)).map λp=>PV.tup [.str p.1,p.2])) _ _=_;cases(ks.zip (cU l)).map λp=>PV.tup [.str p.1,p.2]<;>rfl
 ·rfl
set_option backward.match.sparseCases false
def vI(ap:Ap):M Bool:=(bY (tC .Lt (af 6) (ax ap (pure (.obj (.builtin "len"))) (aa (af 0) (pure [])))) (bY (hJ (tC .NotEq (bt (af 0) (af 6)) (af 5)) (hJ (bY (tC .Eq (af 5) (pure (.bytes [62,62]))) (bY (tC .Eq (eB .Mod (ax ap (pure (.obj (.builtin "len"))) (aa (af 4) (pure []))) (pure (.int 2))) (pure (.int 1))) (pure ah))) (pure aj))) (pure ah)))
def J9(ap:Ap):M PF:=(aq (bg (ax ap (pure (.obj (.ref 695))) (aa (af 0) (aa (af 1) (aa (af 2) (aa (af 6) (pure [])))))) (aX 7)) (aq (cI (tC .Eq (bt (af 7) (pure (.int 0))) (pure (.str "fault"))) (aq (bw (af 7)) (pure .next)) (pure .next)) (aq (bg (bq (aa (eB .Add (af 4) (eList (aa (bt (af 7) (pure (.int 1))) (pure [])))) (aa (bt (af 7) (pure (.int 2))) (pure [])))) (x7 2 [aX 4,aX 6])) (pure .next))))
def J_(old:Old)(ap:Ap):M Bool:=(bY (tC .Eq (af 5) (pure (.bytes [62,62]))) (bY (tC .Eq (eB .Mod (ax ap (pure (.obj (.builtin "len"))) (aa (af 4) (pure []))) (pure (.int 2))) (pure (.int 0))) (bY (tC .NotEq (iB old (bt (af 0) (af 6)) (pure .none) (pure (.int 1))) (pure (.bytes [47]))) (pure ah))))
def CT(old:Old)(ap:Ap):M PF:=(aq (cI (J_ old ap) (aq (bw (bq (aa (pure (.str "fault")) (aa (bt (af 1) (af 6)) (pure []))))) (pure .next)) (pure .next)) (J9 ap))
def J'(ap:Ap):M PF:=(aq (bg (ax ap (pure (.obj (.type "dict"))) (aa (fy [4] (mH (aa (pure (.int 0)) (aa (ax ap (pure (.obj (.builtin "len"))) (aa (af 4) (pure []))) (aa (pure (.int 2)) (pure []))))) (pure ah) (bq (aa (bt (bt (af 1) (af 0)) (pure (.int 1))) (aa (bt (af 1) (eB .Add (af 0) (pure (.int 1)))) (pure []))))) (pure []))) (aX 8)) (aq (bw (bq (aa (pure (.str "ok")) (aa (eB .Add (bq (aa (pure (.str "dict")) (pure []))) (ax ap (pure (.obj (.type "tuple"))) (aa (fy [8] (nv (ax ap (pure (.obj (.builtin "sorted"))) (aa (ax ap (pure (.obj (.type "list"))) (aa (af 8) (pure []))) (pure [])))) (tC .NotEq (bt (af 1) (af 0)) (bq (aa (pure (.str "null")) (pure [])))) (bq (aa (af 0) (aa (bt (af 1) (af 0)) (pure []))))) (pure [])))) (aa (eB .Add (af 6) (pure (.int 1))) (pure [])))))) (pure .next)))
def tF(ap:Ap):M PF:=(aq (cI (tC .GtE (af 6) (ax ap (pure (.obj (.builtin "len"))) (aa (af 0) (pure [])))) (aq (bw (bq (aa (pure (.str "fault")) (aa (af 2) (pure []))))) (pure .next)) (pure .next)) (aq (cI (tC .Eq (af 5) (pure (.bytes [93]))) (aq (bw (bq (aa (pure (.str "ok")) (aa (eB .Add (bq (aa (pure (.str "array")) (pure []))) (ax ap (pure (.obj (.type "tuple"))) (aa (af 4) (pure [])))) (aa (eB .Add (af 6) (pure (.int 1))) (pure [])))))) (pure .next)) (pure .next)) (J' ap)))
def Ke(old:Old)(ap:Ap):M PF:=(aq (bg (bq (aa (eList (pure [])) (aa (bt (pB [[91],[60,60]] (aa (pure (.bytes [93])) (aa (pure (.bytes [62,62])) (pure [])))) (bt (af 0) (af 3))) (aa (eB .Add (af 3) (pure (.int 1))) (pure []))))) (x7 3 [aX 4,aX 5,aX 6])) (aq (bM (vI ap) (CT old ap)) (tF ap)))
theorem IW(old:Old)(ap:Ap):Sp old ap=(aq (cI (tC .GtE (af 3) (ax ap (pure (.obj (.builtin "len"))) (aa (af 0) (pure [])))) (aq (bw (bq (aa (pure (.str "fault")) (aa (af 2) (pure []))))) (pure .next)) (pure .next)) (aq (cI (tC .In (bt (af 0) (af 3)) (ax ap (pure (.obj (.ref 669))) (pure []))) (aq (bw (bq (aa (pure (.str "ok")) (aa (bt (ax ap (pure (.obj (.ref 669))) (pure [])) (bt (af 0) (af 3))) (aa (eB .Add (af 3) (pure (.int 1))) (pure [])))))) (pure .next)) (pure .next)) (aq (cI (tC .NotIn (bt (af 0) (af 3)) (bq (aa (pure (.bytes [91])) (aa (pure (.bytes [60,60])) (pure []))))) (aq (bw (bq (aa (pure (.str "fault")) (aa (bt (af 1) (af 3)) (pure []))))) (pure .next)) (pure .next)) (Ke old ap)))):=rfl
noncomputable def L9(r pl e a g:Nat)(cl:List UInt8)(s:Nat)(o7 o8:Option PV):List (Option PV):=[some (.ref r),some (.ref pl),some (.int e),some (.int a),some (.ref g),some (.bytes cl),some (.int s),o7,o8]
structure RA(hp:List PO)(r pl:Nat)(full:TS):Prop where
 row:hp[r]?=some (.list (full.map λx=>.bytes x.1.b))
 YV:hp[pl]?=some (.list (full.map λx=>.int x.2))
 z:full.length<4000
theorem RA.upd{r pl:Nat}(R:RA hp r pl full)(u:Upd [] hp ay):RA ay r pl full:=⟨u.2 _ _ R.row aJ,u.2 _ _ R.YV aJ,R.z⟩
def wO(L:Nat):Res->PV
 |.fault n=>.tup [.str "fault",.int n]
 |.ok t ts=>.tup [.str "ok",t.told,.int (L-ts.length:Nat)]
theorem si(l:List Tr)(t:Tr):cU (l++[t])=cU l++[t.told]:=by simp only[nP,nP,cw];rfl
theorem Ev.of{m:M α}{x y:α}(h:Ev m st x)(e:x=y):Ev m st y:=e▸h
section
variable{m r pl e g s:Nat}{loc:List (Option PV)}{b:M PF}
theorem RA.zl(R:RA hp r pl full){β:Type}{f:Tk×Nat->β}:sz (full.map f).length=ah:=eJ (m:=4000) (by rw[aW];exact aT R.z) rfl
theorem tz(h:acc.length<4000):sz (cU acc).length=ah:=eJ (m:=4000) (by rw[fq];exact aT h) rfl
theorem Eh(h:full.drop s=(t,p)::ts):full[s]?=some (t,p):=by rw[<-gx,h];rfl
theorem nO(h:full.drop s=(t,p)::ts):full.drop (s+1)=ts/\s+1<=full.length:=⟨by rw[<-cK,h];rfl,(ak.mp (Eh h)).1⟩
theorem uR(h:full.drop s=[])(hs:s<=full.length):s=full.length:=ly hs (lZ.mp h)
theorem lg{i:M PV}(R:RA st.hp r pl full)(h0:Ev (af 0) st (.ref r))(hi:Ev i st (.int s))(h:full.drop s=(t,p)::ts):Ev (bt (af 0) i) st (.bytes t.b):=
 Ev.sub h0 hi (Ev.nL R.row R.zl (by simp only[cE,Eh h];rfl))
theorem Fx{i:M PV}(R:RA st.hp r pl full)(h0:Ev (af 1) st (.ref pl))(hi:Ev i st (.int s))(h:full.drop s=(t,p)::ts):Ev (bt (af 1) i) st (.int p):=
 Ev.sub h0 hi (Ev.nL R.YV R.zl (by simp only[cE,Eh h];rfl))
theorem lN(R:RA st.hp r pl full)(h0:Ev (af 0) st (.ref r)):Ev (ax (aY old (k+1)) (pure (.obj (.builtin "len"))) (aa (af 0) (pure []))) st (.int full.length):=
 (Ev.wF (Ev.cons h0 Ev.nil) R.row R.zl).int (by rw[aW])
theorem zG:Ev (iP .Mod (.int n) (.int 2)) st (.int (n%2:Nat)):=Ev.int (i:=(n:Int).fmod 2) rfl (by rw[jh _ (by decide)];rfl)
theorem Fs{w:Int}(hg:st.hp[g]?=some (.list (cU acc)))(hl:acc.length<4000)(h4:Ev (af 4) st (.ref g)):Ev (tC .Eq (eB .Mod (ax (aY old (k+1)) (pure (.obj (.builtin "len"))) (aa (af 4) (pure []))) (pure (.int 2))) (pure (.int w))) st (((acc.length%2:Nat):Int)==w):=
 Ev.tC (Ev.B (Ev.wF (Ev.cons h4 Ev.nil) hg (tz hl)) rfl (by rw[fq];exact zG)) rfl Ev.pU
theorem Nu(h:full.drop s=(t,p)::ts)(R:RA hp r pl full):Ev (tC .Lt (af 6) (ax (aY old (k+1)) (pure (.obj (.builtin "len"))) (aa (af 0) (pure [])))) ⟨L9 r pl e a g cl s o7 o8,hp⟩ ah:=
 (Ev.tC (by exact rfl) (lN R (by exact rfl)) Ev.lt).of (decide_eq_true (dq.mpr (nO h).2))
theorem Dl(h:full.drop s=[])(hs:s<=full.length)(R:RA hp r pl full):Ev (vI (aY old (k+1))) ⟨L9 r pl e a g cl s o7 o8,hp⟩ aj:=
 Ev.bY (y:=aj) (z:=aj) ((Ev.tC (by exact rfl) (lN R (by exact rfl)) Ev.lt).of (decide_eq_false (by rw[uR h hs];exact OX _))) (λe=>nomatch e)
theorem oD(h:full.drop s=(t,p)::ts)(R:RA hp r pl full)(hg:hp[g]?=some (.list (cU acc)))(hl:acc.length<4000):Ev (vI (aY old (k+1))) ⟨L9 r pl e a g cl s o7 o8,hp⟩ ((!(t.b==cl))||((cl==[62,62])&&(((acc.length%2:Nat):Int)==1))):=
 (Ev.bY (Nu h R) λ_=>Ev.bY (Ev.hJ (Ev.tC (lg R (by exact rfl) (by exact rfl) h) (by exact rfl) Ev.Ph) λ_=>Ev.hJ (Ev.bY (Ev.tC (by exact rfl) rfl Ev.eqB) λ_=>Ev.bY (Fs hg hl (by exact rfl)) λ_=>Ev.pu) λ_=>Ev.pu) λ_=>Ev.pu).of (by
  generalize(t.b==cl)=x;generalize(cl==[62,62])=y;generalize(((acc.length%2:Nat):Int)==1)=z;cases x<;>cases y<;>cases z<;>rfl)
noncomputable def isNm:Tk->Bool
 |.a .nA=>ah
 |.a .nW=>ah
 |_=>aj
theorem Xx(t:Tk):(t.b.take 1==[47])=isNm t:=by rcases t with x|x|x<;>cases x<;>kernel_rfl
theorem NH(h:full.drop s=(t,p)::ts)(R:RA hp r pl full):Ev (iB old (bt (af 0) (af 6)) (pure .none) (pure (.int 1))) ⟨L9 r pl e a g cl s o7 o8,hp⟩ (.bytes (t.b.take 1)):=by
 refine Ev.sl (lg R (by exact rfl) (by exact rfl) h) rfl rfl ?_;have e:cut t.b none (some (1:Nat))=t.b.take 1:=qV;simp only[<-e];rcases t with x|x|x<;>cases x<;>rfl
theorem De(h:full.drop s=(t,p)::ts)(R:RA hp r pl full)(hg:hp[g]?=some (.list (cU acc)))(hl:acc.length<4000):Ev (J_ old (aY old (k+1))) ⟨L9 r pl e a g cl s o7 o8,hp⟩ ((cl==[62,62])&&((((acc.length%2:Nat):Int)==0)&&!isNm t)):=
 (Ev.bY (Ev.tC (by exact rfl) rfl Ev.eqB) λ_=>Ev.bY (Fs hg hl (by exact rfl)) λ_=>Ev.bY (Ev.tC (NH h R) rfl Ev.Ph) λ_=>Ev.pu).of (by
  rw[Xx,mS])
def LR(old:Old)(m e:Nat)(full:TS)(r pl:Nat):Prop:=∀(a f:Nat) (ts:TS) (st:St) (Q:PV->St->Prop) (E:Int->List PO->Prop),RA st.hp r pl full->full.drop a=ts->a<=full.length->tw ts<=m->2*ts.length+1<=f->(∀ay,Upd [] st.hp ay->Q (wO full.length (rd e f ts)) ⟨st.loc,ay⟩)->X (aY old (m+3) (.obj (.ref 695)) [.ref r,.ref pl,.int e,.int a]) st Q E
theorem Mj(ih:LR old m e full r pl)(R:RA hp r pl full)(hg:hp[g]?=some (.list (cU acc)))(hd:full.drop s=ts)(hs:s<=full.length)(hw:tw ts<=m)(hf:2*ts.length+1<=f)(hl:acc.length<4000)
 (q1:∀n,rd e f ts=.fault n->∀ay loc,Upd [] hp ay->QF (.ret (.tup [.str "fault",.int n])) ⟨loc,ay⟩)
 (q2:∀t cP,rd e f ts=.ok t cP->∀ay g' Pk,Upd [] hp ay->ay[g']?=some (.list (cU (acc++[t])))->QF .next ⟨L9 r pl e a g' cl (full.length-cP.length) Pk o8,ay⟩):X (J9 (aY old (m+3))) ⟨L9 r pl e a g cl s o7 o8,hp⟩ QF E:=by
 refine X.dm (X.call (vs:=[.ref r,.ref pl,.int e,.int s]) rfl (by exact rfl) (ih s f ts ⟨L9 r pl e a g cl s o7 o8,hp⟩ _ _ R hd hs hw hf λay u=>?_));cases hr:rd e f ts with
 |fault n=>exact X.tt (Ev.tC (Ev.sub (by exact rfl) (by exact rfl) (by exact rfl)) rfl Ev.MG) (X.c6 (by exact rfl) (K.rt (q1 n hr _ _ u)))
 |ok t cP=>
  refine X.ff (Ev.tC (Ev.sub (by exact rfl) (by exact rfl) (by exact rfl)) rfl Ev.MG) (X.asg (X.tup (X.cX (X.B (X.ev (a:=.ref g) (by exact rfl) (X.list (l:=[t.told]) (by exact rfl) rfl (qD (l:=cU acc) (k:=[t.told]) (iy (u.2 _ _ hg aJ) _) (gl _ _) (by rw[fq];exact ai (Nat.succ_le_of_lt hl) (by decide)) ?_)))))));refine X.ev (a:=[.int (full.length-cP.length:Nat)]) (by exact rfl) ⟨rfl,X.ok (a:=()) (s:=⟨L9 r pl e a (ay++[PO.list [t.told]]).length cl (full.length-cP.length) (some (wO full.length (.ok t cP))) o8,_⟩) (by exact rfl) (X.nx (q2 t cP hr _ _ _ ((u.trans (.push _ _)).trans (.push _ _)) ?_))⟩;simp only[si];exact gl _ _
end
set_option backward.match.sparseCases true
section
variable{m r pl e g s:Nat}{loc:List (Option PV)}{b:M PF}
theorem HW(g:st.hp[c]?=some (.list (l.map λp=>.tup [.str p.1,p.2])))(z:l.length<=1000)(q:∀ay,Upd [] st.hp ay->ay[st.hp.length]?=some (.dict (l.foldl (λa kv=>cV a kv.1 kv.2) []))->Q (.ref st.hp.length) ⟨st.loc,ay⟩):X (aY old (k+1) (.obj (.type "dict")) [.ref c]) st Q E:=by
 refine X.ok (a:=.ref st.hp.length) ?_ (q _ (.push _ _) (gl _ _));show vY (.ref c) st=_;unfold vY;simp only[g,Fq,aW,show sz l.length=ah from decide_eq_true (by lia),if_true];rfl
def M1:M PV:=(bq (aa (bt (bt (af 1) (af 0)) (pure (.int 1))) (aa (bt (af 1) (eB .Add (af 0) (pure (.int 1)))) (pure []))))
def T2:M Bool:=(tC .NotEq (bt (af 1) (af 0)) (bq (aa (pure (.str "null")) (pure []))))
def M2:M PV:=(bq (aa (af 0) (aa (bt (af 1) (af 0)) (pure []))))
theorem RY{a:PV}{x:Str}(g:hp[c]?=some (.list (cU acc)))(hl:acc.length<1000)(h0:(cU acc)[n]?=some (.tup [a,.str x]))(h1:(cU acc)[n+1]?=some v):Ev M1 ⟨[some (.int n),some (.ref c)],hp⟩ (.tup [.str x,v]):=
 have z:sz (cU acc).length=ah:=decide_eq_true (by rw[fq];lia)
 Ev.tup (Ev.cons (Ev.sub (Ev.sub (by exact rfl) (by exact rfl) (Ev.nL g z h0)) rfl (by exact rfl)) (Ev.cons (Ev.sub (by exact rfl) (Ev.B (by exact rfl) rfl Ev.gW) (Ev.nL g z h1)) Ev.nil)) rfl
theorem Ab{x:Str}(g:st.hp[c]?=some (.dict l))(h:gK l x=some v):Ev (km (.ref c) (.str x)) st v:=by
 exact Ev.Tp g h
theorem Tw{x:Str}{t:Tr}(g:hp[c]?=some (.dict l))(h:gK l x=some t.told):Ev T2 ⟨[some (.str x),some (.ref c)],hp⟩ (!kl t):=
 Ev.tC (Ev.sub (by exact rfl) (by exact rfl) (Ab g h)) (by exact rfl) (I2 t)
theorem RZ{x:Str}{t:Tr}(g:hp[c]?=some (.dict l))(h:gK l x=some t.told):Ev M2 ⟨[some (.str x),some (.ref c)],hp⟩ (.tup [.str x,t.told]):=
 Ev.tup (l:=[.str x,t.told]) (Ev.cons (by exact rfl) (Ev.cons (Ev.sub (by exact rfl) (by exact rfl) (Ab g h)) Ev.nil)) rfl
theorem OQ{x y:Option Tr}(g:hp[c]?=some (.dict l))(h:DL (x.map Tr.told) (y.map Tr.told) l)(r:PV×Option PV)(hr:r∈Jn x y):vJ T2 M2 [some (.ref c)] hp r:=by
 obtain⟨s,t,rfl,h1⟩:=N8 h r hr;have h2:=Tw g h1;have h3:=RZ g h1;delta vJ;dsimp only;cases q:kl t with
 |true=>exact⟨by rw[q] at h2;exact h2,λp hp=>nS hp⟩
 |false=>exact⟨by rw[q] at h2;exact h2,λp hp=>by cases hp;exact h3⟩
theorem Nq{x:PV×Option PV}(g:hp[c]?=some (.list (cU acc)))(hl:acc.length<1000)(h:KV acc x):vJ (pure ah) M1 [some (.ref c)] hp x:=by
 cases h with
 |mk n y z v e1 e2=>exact⟨rfl,λp hp=>by cases hp;exact RY g hl e1 e2⟩
theorem V7(hw:lC acc)(hl:acc.length<1000)(hg:hp[g]?=some (.list (cU acc)))(q:∀ay,Upd [] hp ay->Q (.tup [.str "ok",(td acc).told,.int (s+1:Nat)]) ⟨loc,ay⟩):X (J' (aY old (k+1))) ⟨L9 r pl e a g cl s o7 o8,hp⟩ (Rt Q loc) E:=by
 have h2:=IE hw;have hk:(G_ acc).length<1000:=aA (by simp only[h2];exact Nat.le_mul_of_pos_left _ (by decide)) hl;refine X.dm (X.iw rfl (X.cX (X.Q0 (X.ev (Tb (h:=(G_ acc).length) (by exact rfl) hg (by rw[fq];exact h2) (by rw[<-h2];exact bP hl (by decide))) ⟨Pl 0 (G_ acc),FT _ 0,by rw[zZ];exact hk,λx hx ay u=>Nq (u.2 _ _ hg aJ) hl (RN acc hw 0 rfl x hx),λmh u1 g1=>X.ev (a:=[]) rfl ?_⟩))));rw[z0] at g1;refine HW (st:=⟨_,mh⟩) g1 (aT hk) λfw u2 g2=>?_
 have dl:=DL.fold (x:=none) (y:=none) hw .n;have Yi:=dl.len;refine X.ret (X.tup (X.jz rfl (X.cX (X.B (X.ev (Ev.tup (l:=[.str "dict"]) rfl rfl) (X.iw rfl (X.cX (X.Q0 (X.bind (X.iw rfl (X.cX (X.call (vs:=[.ref mh.length]) rfl (by exact rfl) (X.ok (a:=.ref fw.length) (s:=⟨L9 r pl e a g cl s o7 (some (.ref mh.length)),fw++[.list (((G_ acc).foldl (λa kv=>cV a kv.1 kv.2) []).map λkv=>.str kv.1)]⟩) ?_ (X.ev (a:=[]) rfl ?_))))))))))))))
 ·show rN (.ref mh.length) _=_;delta rN wz;simp only[g2,show sz (js _)=ah from decide_eq_true (ai Yi (by decide)),if_true];rfl
 generalize(G_ acc).foldl (λa kv=>cV a kv.1 kv.2) []=kvs at*;have g3:=gl fw (.list (kvs.map λkv=>.str kv.1));have u3:Upd [] fw _:=.push _ (.list (kvs.map λkv=>.str kv.1));generalize fw++[PO.list (kvs.map λkv=>.str kv.1)]=sI at g3 u3⊢;refine X.ok (a:=.ref sI.length) (s:=⟨L9 r pl e a g cl s o7 (some (.ref mh.length)),sI++[.list ((Jn (ek acc (none,none)).1 (ek acc (none,none)).2).map (·.1))]⟩) ?_ (X.ev (a:=.list sI.length 0) (by delta Ev j4;simp only[gl]) ⟨Jn (ek acc (none,none)).1 (ek acc (none,none)).2,?_,?_,?_,?_⟩)
 ·show iD (.ref fw.length) _=_;unfold iD;simp only[g3,aW,if_pos (aA Yi (by decide:2<64)),dl.keys,FQ]
 ·exact Sq.list (λay u=>u.2 _ _ (gl _ _) aJ) _ 0 rfl
 ·exact aA (zY _ _) (by decide)
 ·exactλx hx ay u=>OQ (u.2 _ _ ((Upd.push (S:=[]) _ _).2 _ _ (u3.2 _ _ g2 aJ) aJ) aJ) dl x hx
 ·intro KN u4 g4;have hz:((Jn (ek acc (none,none)).1 (ek acc (none,none)).2).filterMap (·.2)).length<=2:=ai (List.length_filterMap_le ..) (zY _ _);refine X.ev (a:=[]) rfl (X.ev (sq g4 (eJ hz rfl)) (X.ev (nN (eJ (bf hz 1) rfl)) (X.ev (a:=[.int (s+1:Nat)]) (Ev.cons (Ev.B (by exact rfl) rfl Ev.gW) Ev.nil) ⟨rfl,Rt.rt ?_⟩)));have:=q KN (u1.trans (u2.trans (u3.trans ((Upd.push _ _).trans u4))));rw[show(td acc).told=_ from FR _ _] at this;exact this
end
set_option backward.match.sparseCases false
noncomputable def Iq:Tk->Bool
 |.s .cb=>ah
 |_=>aj
noncomputable def Ir:Tk->Bool
 |.s .cd=>ah
 |_=>aj
theorem VP(t:Tk):(t.b==[93])=Iq t:=by rcases t with x|x|x<;>cases x<;>kernel_rfl
theorem VR(t:Tk):(t.b==[62,62])=Ir t:=by rcases t with x|x|x<;>cases x<;>kernel_rfl
theorem FJ{e:Nat}(h:Iq t=aj):Ct e (f+1) acc ((t,p)::ts)=(match rd e f ((t,p)::ts) with
 |.fault n=>.fault n
 |.ok t cP=>Ct e f (acc++[t]) cP):=by
 rcases t with x|x|x
 ·rfl
 ·cases x<;>first|rfl|cases h
 ·rfl
section
variable{m r pl e g s:Nat}{loc:List (Option PV)}{b:M PF}
theorem MT(R:RA hp r pl full)(hd:full.drop s=[])(hs:s<=full.length)(q:Q (.tup [.str "fault",.int e]) ⟨loc,hp⟩):X (tF (aY old (k+1))) ⟨L9 r pl e a g cl s o7 o8,hp⟩ (Rt Q loc) E:=
 X.tt ((Ev.tC (by exact rfl) (lN R (by exact rfl)) Ev.ge).of (decide_eq_true (by rw[uR hd hs];exact TU _))) (X.c6 (by exact rfl) (K.rt (Rt.rt q)))
theorem Kz(R:RA hp r pl full)(hd:full.drop s=(t,p)::ts):Ev (tC .GtE (af 6) (ax (aY old (k+1)) (pure (.obj (.builtin "len"))) (aa (af 0) (pure [])))) ⟨L9 r pl e a g cl s o7 o8,hp⟩ aj:=
 (Ev.tC (by exact rfl) (lN R (by exact rfl)) Ev.ge).of (decide_eq_false (jj.mpr (dq.mpr (nO hd).2)))
theorem Q2(R:RA hp r pl full)(hd:full.drop s=(t,p)::ts)(hg:hp[g]?=some (.list (cU acc)))(hl:acc.length<4000)(q:Q (.tup [.str "ok",(Tr.arr acc).told,.int (s+1:Nat)]) ⟨loc,hp⟩):X (tF (aY old (k+1))) ⟨L9 r pl e a g [93] s o7 o8,hp⟩ (Rt Q loc) E:=by
 refine X.ff (Kz R hd) (X.tt (Ev.tC (by exact rfl) rfl Ev.eqB) (X.c6 (Ev.tup (Ev.cons rfl (Ev.cons (Ev.B (Ev.tup (l:=[.str "array"]) rfl rfl) (Ev.call (vs:=[.ref g]) rfl (by exact rfl) (sq hg (tz hl))) (nN (eJ (m:=1+4000) (by rw[fq];exact bf (aT hl) 1) rfl))) (Ev.cons (Ev.B (by exact rfl) rfl Ev.gW) Ev.nil))) rfl) (K.rt (Rt.rt q))))
theorem Q3(R:RA hp r pl full)(hd:full.drop s=(t,p)::ts)(hg:hp[g]?=some (.list (cU acc)))(hl:acc.length<1000)(hw:lC acc)(q:∀ay,Upd [] hp ay->Q (.tup [.str "ok",(td acc).told,.int (s+1:Nat)]) ⟨loc,ay⟩):X (tF (aY old (k+1))) ⟨L9 r pl e a g [62,62] s o7 o8,hp⟩ (Rt Q loc) E:=
 X.ff (Kz R hd) (X.ff (Ev.tC (by exact rfl) rfl Ev.eqB) (V7 hw hl hg q))
theorem yE{t:Tr}{x:Tk}(hd:full.drop s=(x,p)::ts):wO full.length (.ok t ts)=.tup [.str "ok",t.told,.int (s+1:Nat)]:=by
 have h:full.length-ts.length=s+1:=by
  simp only[<-(nO hd).1,cB,Nat.sub_sub_self (nO hd).2]
 rw[<-h];rfl
end
set_option backward.match.sparseCases true
section
variable{m r pl e g s:Nat}{loc:List (Option PV)}{b:M PF}
structure RH(hp:List PO)(r pl:Nat)(full:TS)(g:Nat)(acc:List Tr)(s:Nat)(ts:TS)(f m:Nat):Prop where
 R:RA hp r pl full
 g:hp[g]?=some (.list (cU acc))
 d:full.drop s=ts
 s:s<=full.length
 w:tw ts<=m
 f:2*ts.length+2<=f
 l:acc.length+ts.length<1000
theorem RH.al(H:RH hp r pl full g acc s ts f m):acc.length<1000:=aA (aF _ _) H.l
theorem RH.G6(H:RH hp r pl full g acc s ts f m):acc.length<4000:=bP H.al (by decide)
theorem RH.next{f' g':Nat}{u:Tr}{cP:TS}(H:RH hp r pl full g acc s ts (f+1) m)(up:Upd [] hp ay)(hg:ay[g']?=some (.list (cU (acc++[u]))))(hr:rd e f' ts=.ok u cP):RH ay r pl full g' (acc++[u]) (full.length-cP.length) cP f m:=by
 have h:(cP.length<ts.length/\cP<:+ts)/\u.wt+tw cP<=0+tw ts:=by have:=(se e f').1 ts;rwa[hr] at this
 obtain⟨⟨h1,h2⟩,h3⟩:=h;simp only[aZ] at h3;exact⟨H.R.upd up,hg,(vH.mp (h2.trans (by rw[<-H.d];exact GQ ..))).symm,dU ..,ai (ai (aQ _ _) h3) H.w,by have:=H.f;lia,by simp only[av,bk,aN,bz 1];exact aA (bf h1 _) H.l⟩
theorem FL(h:2*([]:TS).length+2<=f+1):rd e f []=.fault e:=by
 cases f with
 |zero=>exact absurd h (by decide)
 |succ f=>rfl
abbrev WL(old:Old)(m:Nat)(r pl e a g:Nat)(cl:List UInt8)(s:Nat)(o7 o8:Option PV)(hp:List PO)(Q:PV->St->Prop)(loc:List (Option PV))(E:Int->List PO->Prop):Prop:=X (bM (vI (aY old (m+3))) (CT old (aY old (m+3)))) ⟨L9 r pl e a g cl s o7 o8,hp⟩ (K (tF (aY old (m+3))) (Rt Q loc) E) E
theorem RH.nil(H:RH hp r pl full g acc s [] f m)(q:Q (.tup [.str "fault",.int e]) ⟨loc,hp⟩):WL old m r pl e a g cl s o7 o8 hp Q loc E:=
 X.dt (Dl H.d H.s H.R) nB λ_=>K.nx (MT H.R H.d H.s q)
theorem cb_eq(h:Iq t=ah):t=.s .cb:=by
 rcases t with x|x|x
 ·exact nB h
 ·cases x<;>first|rfl|exact nB h
 ·exact nB h
theorem Qs(h:Ir t=ah):t=.s .cd:=by
 rcases t with x|x|x
 ·exact nB h
 ·cases x<;>first|rfl|exact nB h
 ·exact nB h
theorem Qd{D:Res}(ih:LR old m e full r pl)(q:∀ay,Upd [] hp0 ay->Q (wO full.length D) ⟨loc,ay⟩)(f:Nat):∀(s g:Nat) (acc:List Tr) (ts:TS) (o7:Option PV) (hp:List PO),Upd [] hp0 hp->RH hp r pl full g acc s ts f m->Ct e f acc ts=D->WL old m r pl e a g [93] s o7 o8 hp Q loc E:=by
 induction f with
 |zero=>exactλ_ _ _ _ _ _ _ H=>(eQ _ H.f).elim
 |succ f WG=>
  intro s g acc ts o7 hp u H eD;cases ts with
  |nil=>
   rw[show Ct e (f+1) acc []=.fault e by show(match rd e f [] with|.fault n=>_|.ok t cP=>_)=_;rw[FL H.f]] at eD;exact H.nil (by have:=q hp u;rw[<-eD] at this;exact this)
  |cons x ts=>
   obtain⟨t,p⟩:=x;have hc:=oD (old:=old) (k:=m+2) (r:=r) (pl:=pl) (e:=e) (a:=a) (cl:=[93]) (o7:=o7) (o8:=o8) H.d H.R H.g H.G6;rw[VP] at hc;cases q1:Iq t with
   |true=>
    rw[q1] at hc;cases cb_eq q1
    refine X.dt hc nB λ_=>K.nx (Q2 H.R H.d H.g H.G6 ?_)
    have:=q hp u;rwa[<-eD,show Ct e (f+1) acc ((.s .cb,p)::ts)=.ok (.arr acc) ts from rfl,yE H.d] at this
   |false=>
    rw[q1] at hc;rw[FJ q1] at eD;refine X.dt hc (λ_=>X.ff (De H.d H.R H.g H.G6) (Mj (f:=f) ih H.R H.g H.d H.s H.w (bW H.f) H.G6 (λn hr ay IJ up=>Lp.rt (K.rt (Rt.rt ?_))) λv cP hr ay g' Pk up Wl=>Lp.nx ?_)) λh=>nB h.symm
    ·have:=q ay (u.trans up);rwa[<-eD,hr] at this
    ·rw[hr] at eD;exact WG _ g' (acc++[v]) cP Pk ay (u.trans up) (H.next up Wl hr) eD
theorem SA{x:At}(h:isNm (.a x)=ah):x=.nA\/x=.nW:=by cases x<;>first|exact .inl rfl|exact .inr rfl|exact nB h
theorem Ji(h:isNm t=aj)(h2:Ir t=aj):yC e (f+1) acc ((t,p)::ts)=.fault p:=by
 rcases t with x|x|x
 ·cases x<;>first|rfl|exact nB h.symm
 ·cases x<;>first|rfl|exact nB h2.symm
 ·rfl
theorem Sy(h:isNm t=ah):∃x,t=.a x/\(x=.nA\/x=.nW):=by
 rcases t with x|x|x
 ·exact⟨x,rfl,SA h⟩
 ·exact nB h
 ·exact nB h
theorem OJ{D:Res}{x:At}(ih:LR old m e full r pl)(q:∀ay,Upd [] hp0 ay->Q (wO full.length D) ⟨loc,ay⟩)(u:Upd [] hp0 hp)(hv:lC acc)(H:RH hp r pl full g (acc++[.a x]) s ts (f+1) m)(eD:(match rd e f ts with|.fault n=>.fault n|.ok t cP=>yC e f (acc++[.a x]++[t]) cP)=D)
 (nx:∀s' g' u' cP Pk ay,Upd [] hp0 ay->RH ay r pl full g' (acc++[.a x]++[u']) s' cP f m->yC e f (acc++[.a x]++[u']) cP=D->WL old m r pl e a g' [62,62] s' Pk o8 ay Q loc E):WL old m r pl e a g [62,62] s o7 o8 hp Q loc E:=by
 cases ts with
 |nil=>
  rw[FL H.f] at eD;exact H.nil (by have:=q hp u;rw[<-eD] at this;exact this)
 |cons y ts=>
  obtain⟨t,p⟩:=y;have ho:(acc++[Tr.a x]).length%2=1:=by rw[av,bk,TY,hv.xW]
  have hc:=oD (old:=old) (k:=m+2) (r:=r) (pl:=pl) (e:=e) (a:=a) (cl:=[62,62]) (o7:=o7) (o8:=o8) H.d H.R H.g H.G6;have hk:=De (old:=old) (k:=m+2) (r:=r) (pl:=pl) (e:=e) (a:=a) (cl:=[62,62]) (o7:=o7) (o8:=o8) H.d H.R H.g H.G6;rw[ho] at hc hk;refine X.dt (hc.of (xb _)) (λ_=>X.ff hk (Mj (f:=f) ih H.R H.g H.d H.s H.w (bW H.f) H.G6 (λn hr fw IJ u2=>Lp.rt (K.rt (Rt.rt ?_))) λv cP hr fw g2 o2 u2 ZV=>Lp.nx ?_)) λh=>nB h.symm
  ·have:=q fw (u.trans u2);rwa[<-eD,hr] at this
  ·rw[hr] at eD;exact nx _ g2 v cP o2 fw (u.trans u2) (H.next u2 ZV hr) eD
theorem QE{D:Res}(ih:LR old m e full r pl)(q:∀ay,Upd [] hp0 ay->Q (wO full.length D) ⟨loc,ay⟩)(f:Nat):∀(s g:Nat) (acc:List Tr) (ts:TS) (o7:Option PV) (hp:List PO),Upd [] hp0 hp->lC acc->RH hp r pl full g acc s ts f m->yC e f acc ts=D->WL old m r pl e a g [62,62] s o7 o8 hp Q loc E:=by
 induction f with
 |zero=>exactλ_ _ _ _ _ _ _ _ H=>(eQ _ H.f).elim
 |succ f WG=>
  intro s g acc ts o7 hp u hv H eD;cases ts with
  |nil=>exact H.nil (by have:=q hp u;rw[<-eD] at this;exact this)
  |cons y ts=>
   obtain⟨t,p⟩:=y;have hc:=oD (old:=old) (k:=m+2) (r:=r) (pl:=pl) (e:=e) (a:=a) (cl:=[62,62]) (o7:=o7) (o8:=o8) H.d H.R H.g H.G6;have hk:=De (old:=old) (k:=m+2) (r:=r) (pl:=pl) (e:=e) (a:=a) (cl:=[62,62]) (o7:=o7) (o8:=o8) H.d H.R H.g H.G6;rw[VR,hv.xW] at hc;rw[hv.xW] at hk;cases q1:Ir t with
   |true=>
    rw[q1] at hc;cases Qs q1
    refine X.dt hc nB λ_=>K.nx (Q3 H.R H.d H.g H.al hv λay u'=>?_)
    have:=q ay (u.trans u');rwa[<-eD,show yC e (f+1) acc ((.s .cd,p)::ts)=.ok (td acc) ts from rfl,yE H.d] at this
   |false=>
    rw[q1] at hc;cases q2:isNm t with
    |false=>
     rw[q2] at hk;rw[Ji q2 q1] at eD;refine X.dt hc (λ_=>X.tt hk (X.c6 (Ev.tup (Ev.cons rfl (Ev.cons (Fx H.R (by exact rfl) (by exact rfl) H.d) Ev.nil)) rfl) (K.rt (Lp.rt (K.rt (Rt.rt ?_)))))) λh=>nB h.symm
     have:=q hp u;rwa[<-eD] at this
    |true=>
     rw[q2] at hk;refine gg λG k_=>?_
     obtain⟨x,rfl,hx⟩:=Sy q2;refine k_ ?_;rw[FK hx] at eD;refine X.dt hc (λ_=>X.ff hk (Mj (f:=2*(ts.length+1)+1) ih H.R H.g H.d H.s H.w (aC _) H.G6 (λn hr=>nomatch hr) λv cP hr ay g' Pk up Wl=>Lp.nx ?_)) λh=>nB h.symm
     have H':=H.next up Wl hr
     cases hr
     exact OJ ih q (u.trans up) hv ⟨H'.R,H'.g,H'.d,H'.s,H'.w,ai (bR (b9 2 (bX _)) 2) H.f,H'.l⟩ eD λs' g2 v þ o2 fw u2 H2 e2=>WG s' g2 _ þ o2 fw u2 (lC.snoc hx v hv) H2 e2
end
def isA(t:Tk):Bool:=(Tx t).isSome
section
variable{m r pl e g s:Nat}{loc:List (Option PV)}{b:M PF}
theorem KQ{i:M PV}(R:RA st.hp r pl full)(h0:Ev (af 0) st (.ref r))(hi:Ev i st (.int s))(hd:full.drop s=(t,p)::ts)(q:∀ay,Upd [] st.hp ay->QB (isA t) ⟨st.loc,ay⟩):X (tC .In (bt (af 0) i) (ax (aY old (k+1)) (pure (.obj (.ref 669))) (pure []))) st QB E:=by
 refine X.tC (X.ev (lg R h0 hi hd) (X.call (vs:=[]) rfl rfl (oZ (X.ok (a:=.bool (isA t)) (s:=⟨st.loc,st.hp++[.cN TD]⟩) ?_ (X.truth (q _ (.push _ _)))))));show Ip (.bytes t.b) (.ref st.hp.length) _=_;delta Ip s7;simp only[gl,Lc];rfl
theorem MX{i:M PV}{x:At}(R:RA st.hp r pl full)(h0:∀h,Ev (af 0) ⟨st.loc,h⟩ (.ref r))(hi:∀h,Ev i ⟨st.loc,h⟩ (.int s))(hd:full.drop s=(.a x,p)::ts)(q:∀ay,Upd [] st.hp ay->Q (.tup x.told) ⟨st.loc,ay⟩):X (bt (ax (aY old (k+1)) (pure (.obj (.ref 669))) (pure [])) (bt (af 0) i)) st Q E:=by
 refine X.sub (X.call (vs:=[]) rfl rfl (oZ (X.ev (lg (R.upd (.push _ _)) (h0 _) (hi _) hd) (X.ok (a:=.tup x.told) (s:=⟨st.loc,st.hp++[.cN TD]⟩) ?_ (q _ (.push _ _))))));exact Ev.Tq (gl _ _) (by rw[Lc];rfl)
theorem Sw(t:Tk):Ev (fA .NotIn (.bytes t.b) (.tup [.bytes [91],.bytes [60,60]])) st (.bool (!kX t)):=by rcases t with x|x|x<;>cases x<;>rfl
theorem N4(h1:isA t=aj)(h2:kX t=aj):rd e (f+1) ((t,p)::ts)=.fault p:=by
 rcases t with x|x|x
 ·cases h1
 ·cases x<;>first|rfl|cases h2
 ·rfl
def DK:List (List UInt8×PV):=jb [] ([[91],[60,60]].zip [.bytes [93],.bytes [62,62]])
theorem TG{cb:List UInt8}(R:RA hp r pl full)(hd:full.drop a=(t,p)::ts)(hk:gK DK t.b=some (.bytes cb))
 (q:∀ay g,Upd [] hp ay->ay[g]?=some (.list (cU []))->X (bM (vI (aY old (k+1))) (CT old (aY old (k+1)))) ⟨L9 r pl e a g cb (a+1) none none,ay⟩ (K (tF (aY old (k+1))) (Rt Q loc) E) E):X (Ke old (aY old (k+1))) ⟨[some (.ref r),some (.ref pl),some (.int e),some (.int a),none,none,none,none,none],hp⟩ (Rt Q loc) E:=by
 refine X.asg (X.tup (X.cX (X.list (l:=[]) Ev.nil rfl (X.cX (X.sub (zd (vs:=[.bytes [93],.bytes [62,62]]) (by exact rfl) rfl (X.ev (lg ((R.upd (.push _ _)).upd (.push _ _)) (by exact rfl) (by exact rfl) hd) (X.ok (a:=.bytes cb) (s:=⟨[some (.ref r),some (.ref pl),some (.int e),some (.int a),none,none,none,none,none],hp++[PO.list []]++[PO.cN DK]⟩) ?_ ?_))))))))
 ·exact Ev.Tq (gl _ _) hk
 ·refine X.ev (a:=[.int (a+1:Nat)]) (Ev.cons (Ev.B (by exact rfl) rfl Ev.gW) Ev.nil) ⟨rfl,X.ok (a:=()) (s:=⟨L9 r pl e a hp.length cb (a+1) none none,hp++[PO.list []]++[PO.cN DK]⟩) (by exact rfl) (X.seq ?_)⟩;exact q _ _ ((Upd.push _ _).trans (.push _ _)) (by rw[bh (by simp)];exact gl _ _)
theorem K1(h:kX t=ah):t=.s .ob\/t=.s .od:=by
 rcases t with x|x|x
 ·exact nB h
 ·cases x<;>first|exact .inl rfl|exact .inr rfl|exact nB h
 ·exact nB h
theorem Nk(h:isA t=ah):∃x,t=.a x:=by
 rcases t with x|x|x
 ·exact⟨x,rfl⟩
 ·exact nB h
 ·exact nB h
theorem RH.start(R:RA hp r pl full)(hg:hp[g]?=some (.list (cU [])))(hd:full.drop a=(t,p)::ts)(hw:t.wt+tw ts<=m+1)(h1:1<=t.wt)(hf:2*(ts.length+1)+1<=f+1)(hz:full.length<1000):RH hp r pl full g [] (a+1) ts f m:=by
 obtain⟨d1,d2⟩:=nO hd;refine⟨R,hg,d1,d2,Nat.le_of_add_le_add_left (ai (bR h1 _) (ai hw (bI (bz _ _)))),bW hf,?_⟩;simp only[bE,aZ,<-d1,cB];exact aA (dU ..) hz
theorem RU{x:At}(R:RA hp r pl full)(hd:full.drop a=(.a x,p)::ts)(q:∀ay,Upd [] hp ay->Q (wO full.length (rd e (f+1) ((.a x,p)::ts))) ⟨loc,ay⟩):
 X (aq (bw (bq (aa (pure (.str "ok")) (aa (bt (ax (aY old (m+1)) (pure (.obj (.ref 669))) (pure [])) (bt (af 0) (af 3))) (aa (eB .Add (af 3) (pure (.int 1))) (pure [])))))) (pure .next)) ⟨[some (.ref r),some (.ref pl),some (.int e),some (.int a),none,none,none,none,none],hp⟩ (K b (Rt Q loc) E) E:=by
 rw[show rd e (f+1) ((Tk.a x,p)::ts)=.ok (.a x) ts from rfl,yE hd] at q;refine X.ret (X.tup (X.jz rfl (X.cX (MX (st:=⟨_,hp⟩) R (λ_=>by exact rfl) (λ_=>by exact rfl) hd λh2 u2=>X.ev (a:=[.int (a+1:Nat)]) (Ev.cons (Ev.B (by exact rfl) rfl Ev.gW) Ev.nil) ⟨rfl,K.rt (Rt.rt ?_)⟩))));exact q h2 u2
theorem zA(hz:full.length<1000)(ih:∀m',m=m'+1->LR old m' e full r pl):LR old m e full r pl:=λa f ts st Q E R hd ha hw hf q=>by
 refine VJ ?_;simp only[IW];cases f with
 |zero=>exact absurd hf (eQ _)
 |succ f=>
 have g0:Ev (ax (aY old (m+2)) (pure (.obj (.builtin "len"))) (aa (af 0) (pure []))) ⟨[some (.ref r),some (.ref pl),some (.int e),some (.int a),none,none,none,none,none],st.hp⟩ (.int full.length):=lN R (by exact rfl);cases ts with
 |nil=>exact X.tt ((Ev.tC (by exact rfl) g0 Ev.ge).of (decide_eq_true (by rw[uR hd ha];exact TU _))) (X.c6 (by exact rfl) (K.rt (Rt.rt (q _ (.refl _ _)))))
 |cons y ts=>
  obtain⟨t,p⟩:=y;refine X.ff ((Ev.tC (by exact rfl) g0 Ev.ge).of (decide_eq_false (jj.mpr (dq.mpr (nO hd).2)))) (X.qp (KQ R (by exact rfl) (by exact rfl) hd λh1 u1=>?_));have R1:=R.upd u1;have q:=λay u=>q ay (u1.trans u)
  clear R u1 g0;refine⟨λe1=>?_,λe1=>X.nx (K.nx ?_)⟩
  ·obtain⟨x,rfl⟩:=Nk e1;exact RU R1 hd q
  ·have hi:=Ev.tC (lg (st:=⟨[some (.ref r),some (.ref pl),some (.int e),some (.int a),none,none,none,none,none],h1⟩) (i:=af 3) R1 (by exact rfl) (by exact rfl) hd) (Ev.tup (es:=aa (pure (.bytes [91])) (aa (pure (.bytes [60,60])) (pure []))) (l:=[.bytes [91],.bytes [60,60]]) rfl rfl) (Sw t);cases e2:kX t with
   |false=>
    rw[e2] at hi;rw[N4 e1 e2] at q;exact X.tt hi (X.c6 (Ev.tup (Ev.cons rfl (Ev.cons (Fx R1 (by exact rfl) (by exact rfl) hd) Ev.nil)) rfl) (K.rt (Rt.rt (q h1 (.refl _ _)))))
   |true=>
    rw[e2] at hi;refine X.ff hi ?_;cases m with
    |zero=>rcases K1 e2 with rfl|rfl<;>exact absurd (ai (aF _ _) hw) (by decide)
    |succ m=>
    rcases K1 e2 with rfl|rfl
    ·exact TG (k:=m+2) R1 hd (by kernel_rfl) λh2 g u2 hg=>Qd (hp0:=h1) (ih m rfl) q f _ g [] ts none h2 u2 (.start (R1.upd u2) hg hd hw (aC _) hf hz) rfl
    ·exact TG (k:=m+2) R1 hd (by kernel_rfl) λh2 g u2 hg=>QE (hp0:=h1) (ih m rfl) q f _ g [] ts none h2 u2 .n (.start (R1.upd u2) hg hd hw (bX _) hf hz) rfl
theorem Nt(hz:full.length<1000)(m:Nat):LR old m e full r pl:=by
 induction m with
 |zero=>exact zA hz λ_ h=>nomatch h
 |succ m ih=>exact zA hz λm' h=>tu h▸ih
end
def PH(ap:Ap):M Bool:=(tC .Lt (af 5) (ax ap (pure (.obj (.builtin "len"))) (aa (af 0) (pure []))))
def PQ(ap:Ap):M Bool:=(hJ (tC .In (bt (af 0) (af 5)) (ax ap (pure (.obj (.ref 669))) (pure []))) (hJ (tC .In (bt (af 0) (af 5)) (bq (aa (pure (.bytes [91])) (aa (pure (.bytes [93])) (aa (pure (.bytes [60,60])) (aa (pure (.bytes [62,62])) (aa (pure (.bytes [125])) (pure [])))))))) (pure aj)))
def PB(ap:Ap):M PF:=(aq (bg (ax ap (pure (.obj (.ref 695))) (aa (af 0) (aa (af 1) (aa (af 2) (aa (af 5) (pure [])))))) (aX 6)) (aq (cI (tC .Eq (bt (af 6) (pure (.int 0))) (pure (.str "fault"))) (aq (bw (af 6)) (pure .next)) (pure .next)) (aq (j8 (bq (aa (eB .Add (af 4) (bq (aa (bt (af 6) (pure (.int 1))) (pure [])))) (aa (bt (af 6) (pure (.int 2))) (pure [])))) 2 [aX 5,aX 4]) (pure .next))))
def PU(ap:Ap):M PF:=(aq (mR (bV ap (af 3) "append" (aa (bq (aa (bV ap (bt (af 0) (af 5)) "decode" (aa (pure (.str "ascii")) (pure []))) (aa (af 4) (pure [])))) (pure [])))) (aq (j8 (bq (aa (bq (pure [])) (aa (eB .Add (af 5) (pure (.int 1))) (pure [])))) 2 [aX 5,aX 4]) (pure .next)))
def LU:M PF:=(aq (bw (m9 (tC .NotEq (af 4) (bq (pure []))) (bq (aa (pure (.str "fault")) (aa (af 2) (pure [])))) (bq (aa (pure (.str "ok")) (aa (af 3) (pure [])))))) (pure .next))
def PD(ap:Ap):M PF:=(aq (cI (PQ ap) (PB ap) (PU ap)) (pure .next))
theorem IX(old:Old)(ap:Ap):Sr old ap=(aq (j8 (bq (aa (eList (pure [])) (aa (bq (pure [])) (aa (pure (.int 0)) (pure []))))) 3 [aX 5,aX 4,aX 3]) (aq (bM (PH ap) (PD ap)) LU)):=rfl
def L7(r pl e fo:Nat)(acc:List Tr)(s:Nat)(o6:Option PV):List (Option PV):=[some (.ref r),some (.ref pl),some (.int e),some (.ref fo),some (.tup (cU acc)),some (.int s),o6]
section
variable{m r pl e g s fo:Nat}{loc:List (Option PV)}{b:M PF}
theorem Tf(t:Tk)(h:isA t=aj):Ev (fA .In (.bytes t.b) (.tup [.bytes [91],.bytes [93],.bytes [60,60],.bytes [62,62],.bytes [125]])) st (.bool (!wx t)):=by
 rcases t with x|x|x
 ·cases h
 ·cases x<;>rfl
 ·cases x<;>rfl
theorem RG(t:Tk)(h:isA t=ah):(!wx t)=ah:=by rcases t with x|x|x<;>first|rfl|cases h
theorem Nd(R:RA hp r pl full)(hd:full.drop s=(t,p)::ts)(q:∀ay,Upd [] hp ay->QB (!wx t) ⟨L7 r pl e fo acc s o6,ay⟩):X (PQ (aY old (k+1))) ⟨L7 r pl e fo acc s o6,hp⟩ QB E:=by
 refine X.hJ (KQ (i:=af 5) R (by exact rfl) (by exact rfl) hd λh1 u1=>⟨λe1=>?_,λe1=>?_⟩)
 ·have:=q h1 u1;rw[RG t e1] at this;exact this
 ·have hi:=Ev.tC (lg (st:=⟨L7 r pl e fo acc s o6,h1⟩) (i:=af 5) (R.upd u1) (by exact rfl) (by exact rfl) hd) (Ev.tup (es:=aa (pure (.bytes [91])) (aa (pure (.bytes [93])) (aa (pure (.bytes [60,60])) (aa (pure (.bytes [62,62])) (aa (pure (.bytes [125])) (pure [])))))) (l:=[.bytes [91],.bytes [93],.bytes [60,60],.bytes [62,62],.bytes [125]]) rfl rfl) (Tf t e1);exact X.ev ((Ev.hJ (r:=pure aj) hi λ_=>Ev.pu).of (gq _)) (q h1 u1)
theorem Mu{x:Op}(h:Cs (.o x)=ah):Ev (aY old (k+1) (.obj (.builtin "bytes.decode")) [.bytes x.b,.str "ascii"]) st (.str (du x.b)):=by
 have hm:x.b∈gX:=by cases x<;>first|decide+kernel|exact nomatch h
 exact(congrFun (if_pos ⟨rfl,hm⟩) st:ql (.bytes x.b) (.str "ascii") st=_)
theorem Ny:Ev (fA .NotEq (.tup (cU acc)) (.tup [])) st (.bool (!acc.isEmpty)):=by cases acc<;>rfl
theorem ML(q:∀v,qz hp0.length hp v (if acc.isEmpty then .ok fl else .fault e)->Q v ⟨loc,hp⟩)(Ux:hp0.length<=fo)(hg:hp[fo]?=some (.list (fl.map di))):X LU ⟨L7 r pl e fo acc s o6,hp⟩ (Rt Q loc) E:=by
 have h1:=Ev.tC (op:=.NotEq) (a:=af 4) (b:=bq (pure [])) (st:=⟨L7 r pl e fo acc s o6,hp⟩) (by exact rfl) (by exact rfl) (Ny (acc:=acc));cases h:acc.isEmpty with
 |true=>
  rw[h] at h1 q;exact X.c6 (Ev.gF (t:=aj) h1 rfl (by exact rfl)) (Rt.rt (q _ ⟨fo,rfl,Ux,hg⟩))
 |false=>
  rw[h] at h1 q;exact X.c6 (Ev.nq (t:=ah) h1 rfl (by exact rfl)) (Rt.rt (q _ rfl))
theorem RQ(R:RA hp r pl full):Ev (ax (aY old (k+1)) (pure (.obj (.builtin "len"))) (aa (af 0) (pure []))) ⟨L7 r pl e fo acc s o6,hp⟩ (.int full.length):=lN R (by exact rfl)
structure DH(hp:List PO)(full:TS)(fo:Nat)(fl:List (Str×List Tr))(acc:List Tr)(s:Nat)(ts:TS)(kf m:Nat):Prop where
 g:hp[fo]?=some (.list (fl.map di))
 d:full.drop s=ts
 s:s<=full.length
 w:tw ts<=m
 k:ts.length<kf
 l:acc.length+ts.length<1000
 l2:fl.length+ts.length<1000
 ok:∀x∈ts,Cs x.1=ah
theorem DH.sub{w:Tr}{cP:TS}(H:DH hp full fo fl acc s ts (kf+1) m)(up:Upd [] hp ay)(hr:rd e i ts=.ok w cP):DH ay full fo fl (acc++[w]) (full.length-cP.length) cP kf m:=by
 have h:(cP.length<ts.length/\cP<:+ts)/\w.wt+tw cP<=0+tw ts:=by have:=(se e i).1 ts;rwa[hr] at this
 obtain⟨⟨h1,h2⟩,h3⟩:=h;simp only[aZ] at h3;exact⟨up.2 _ _ H.g aJ,(vH.mp (h2.trans (by rw[<-H.d];exact GQ ..))).symm,dU ..,ai (ai (aQ _ _) h3) H.w,aB h1 (fK H.k),
  by simp only[av,bk,aN,bz 1];exact aA (bf h1 _) H.l,aA (bf (aT h1) _) H.l2,λx hx=>H.ok x (h2.subset hx)⟩
theorem DH.XI{y:Str×List Tr}(H:DH hp full fo fl acc s ((t,p)::ts) (kf+1) m)(up:Upd [] hp ay):DH (ay.set fo (.list (fl.map di++[di y]))) full fo (fl++[y]) [] (s+1) ts kf m:=
 ⟨by simp only[cw];exact bb (ak.mp (up.2 _ _ H.g aJ)).1,(nO H.d).1,(nO H.d).2,ai (aQ _ _) H.w,bJ H.k,aA (by simp only[bE,aZ];exact ai (bX _) (aQ _ _)) H.l,
  by simp only[av,bk,aN,bz 1];exact H.l2,λx hx=>H.ok x (aM _ hx)⟩
theorem DH.al(H:DH hp full fo fl acc s ts kf m):acc.length<1000:=aA (aF _ _) H.l
theorem DH.fz(H:DH hp full fo fl acc s ts kf m):sz (fl.map di).length=ah:=eJ (m:=1000) (by rw[aW];exact aT (aA (aF _ _) H.l2)) rfl
theorem Nm(h:(!wx t)=aj):∃x,t=.o x:=by
 rcases t with x|x|x
 ·exact nB h.symm
 ·exact nB h.symm
 ·exact⟨x,rfl⟩
theorem RJ(h:(!wx t)=ah):wx t=aj:=by
 rcases t with x|x|x
 ·rfl
 ·rfl
 ·exact nB h
theorem L8(ih:LR old m e full r pl)(R0:RA hp0 r pl full)(q:∀ay v,Upd [] hp0 ay->qz hp0.length ay v D->Q v ⟨loc,ay⟩)(u:Upd [] hp0 hp)(H:DH hp full fo fl acc s ts (kf+1) m)(hi:2*ts.length+1<=i)(eD:(match rd e i ts with|.fault n=>.fault n|.ok u cP=>v5 e kf fl (acc++[u]) cP)=D)
 (nx:∀cP w s' o6 ay,Upd [] hp0 ay->DH ay full fo fl (acc++[w]) s' cP kf m->v5 e kf fl (acc++[w]) cP=D->QF .next ⟨L7 r pl e fo (acc++[w]) s' o6,ay⟩) (rt:∀v l ay,Q v ⟨loc,ay⟩->QF (.ret v) ⟨l,ay⟩):X (PB (aY old (m+3))) ⟨L7 r pl e fo acc s o6,hp⟩ QF E:=by
 refine X.dm (X.call (vs:=[.ref r,.ref pl,.int e,.int s]) rfl (by exact rfl) (ih s _ _ ⟨L7 r pl e fo acc s o6,hp⟩ _ _ (R0.upd u) H.d H.s H.w hi λh2 u3=>?_));have u4:=u.trans u3;cases hr:rd e i ts with
 |fault n=>
  rw[hr] at eD;exact X.tt (Ev.tC (Ev.sub (by exact rfl) (by exact rfl) (by exact rfl)) rfl Ev.MG) (X.c6 (by exact rfl) (K.rt (rt _ _ _ (q h2 _ u4 (by simp only[<-eD];exact rfl)))))
 |ok w cP=>
  rw[hr] at eD;refine X.ff (Ev.tC (Ev.sub (by exact rfl) (by exact rfl) (by exact rfl)) rfl Ev.MG) (X.swap (l:=[.tup (cU acc++[w.told]),.int (full.length-cP.length:Nat)]) (Ev.tup (Ev.cons (Ev.B (by exact rfl) (Ev.tup (l:=[w.told]) (by exact rfl) rfl) (nN (eJ (m:=1000+1) (by rw[fq];exact bR (aT H.al) 1) rfl))) (by exact rfl)) rfl) rfl (X.ok (a:=()) (s:=⟨L7 r pl e fo (acc++[w]) (full.length-cP.length) (some (wO full.length (.ok w cP))),h2⟩) ?_ (X.nx (nx cP w _ _ h2 u4 (H.sub u3 hr) eD))));unfold L7;rw[si];rfl
theorem NC{x:Op}(R:RA hp r pl full)(H:DH hp full fo fl acc s ((.o x,p)::ts) (kf+1) m)(nx:QF .next ⟨L7 r pl e fo [] (s+1) o6,hp.set fo (.list (fl.map di++[di (du x.b,acc)]))⟩):X (PU (aY old (m+3))) ⟨L7 r pl e fo acc s o6,hp⟩ QF E:=by
 have hv:Ev (bq (aa (bV (aY old (m+3)) (bt (af 0) (af 5)) "decode" (aa (pure (.str "ascii")) (pure []))) (aa (af 4) (pure [])))) ⟨L7 r pl e fo acc s o6,hp⟩ (di (du x.b,acc)):=Ev.tup (Ev.cons (Ev.fh (lg R (by exact rfl) (by exact rfl) H.d) (by exact rfl) (by exact rfl) (Mu (H.ok _ (aU ..)))) (by exact rfl)) rfl;exact X.app (l:=fl.map di) (by exact rfl) H.g hv H.fz (X.swap (l:=[.tup [],.int (s+1:Nat)]) (Ev.tup (Ev.cons (by exact rfl) (Ev.cons (Ev.B (by exact rfl) rfl Ev.gW) Ev.nil)) rfl) rfl (X.ok (a:=()) (s:=⟨L7 r pl e fo [] (s+1) o6,hp.set fo (.list (fl.map di++[di (du x.b,acc)]))⟩) (by exact rfl) (X.nx nx)))
theorem DH.mv(H:DH hp full fo fl acc s ts kf m)(up:Upd [] hp ay):DH ay full fo fl acc s ts kf m:=⟨up.2 _ _ H.g aJ,H.d,H.s,H.w,H.k,H.l,H.l2,H.ok⟩
theorem QH(ih:LR old m e full r pl)(R0:RA hp0 r pl full)(Ux:hp0.length<=fo)(q:∀ay v,Upd [] hp0 ay->qz hp0.length ay v D->Q v ⟨loc,ay⟩)(kf:Nat):∀(ts:TS) (fl:List (Str×List Tr)) (acc:List Tr) (s:Nat) (o6:Option PV) (hp:List PO),Upd [] hp0 hp->DH hp full fo fl acc s ts kf m->v5 e kf fl acc ts=D->
 X (bM (PH (aY old (m+3))) (PD (aY old (m+3)))) ⟨L7 r pl e fo acc s o6,hp⟩ (K LU (Rt Q loc) E) E:=by
 induction kf with
 |zero=>exactλ_ _ _ _ _ _ _ H=>(lA _ H.k).elim
 |succ kf YF=>
  intro ts fl acc s o6 hp u H eD;cases ts with
  |nil=>exact X.dt ((Ev.tC (by exact rfl) (RQ (R0.upd u)) Ev.lt).of (decide_eq_false (by rw[uR H.d H.s];exact OX _))) nB λ_=>K.nx (ML (hp0:=hp0) (fl:=fl) (λv hv=>q hp v u (by simp only[<-eD];exact hv)) Ux H.g)
  |cons y ts=>
   obtain⟨t,p⟩:=y;refine X.dt ((Ev.tC (by exact rfl) (RQ (R0.upd u)) Ev.lt).of (decide_eq_true (dq.mpr (nO H.d).2))) (λ_=>X.qp (Nd (R0.upd u) H.d λh1 u1=>?_)) λe=>nB e.symm
   have H:=H.mv u1;have u:=u.trans u1;clear u1;refine⟨λe1=>?_,λe1=>?_⟩
   ·rw[Dx (RJ e1)] at eD;exact L8 ih R0 q u H (aC _) eD (λcP w s' o6 ay u' H' e'=>K.nx (X.nx (Lp.nx (YF cP fl _ s' o6 ay u' H' e')))) λv l ay h=>K.rt (Lp.rt (K.rt (Rt.rt h)))
   ·obtain⟨x,rfl⟩:=Nm e1;exact NC (R0.upd u) H (K.nx (X.nx (Lp.nx (YF ts _ [] _ _ _ (u.mB (lX Ux) (.set _ _ (au.mpr rfl))) (H.XI (.refl _ _)) eD))))
theorem Bt(ih:LR old m e full r pl)(R:RA st.hp r pl full)(hw:tw full<=m)(hz:full.length<1000)(Ii:∀x∈full,Cs x.1=ah)(q:∀ay v,Upd [] st.hp ay->qz st.hp.length ay v (v5 e (full.length+1) [] [] full)->Q v ⟨st.loc,ay⟩):X (aY old (m+4) (.obj (.ref 702)) [.ref r,.ref pl,.int e]) st Q E:=by
 refine VK ?_;simp only[IX];have h0:0+full.length<1000:=by rw[aZ];exact hz
 refine X.Ga (X.tup (X.cX (X.list (l:=[]) Ev.nil rfl (X.ev (a:=[.tup [],.int (0:Nat)]) (by exact rfl) ⟨rfl,_,rfl,rfl,X.ok (a:=()) (s:=⟨L7 r pl e st.hp.length [] 0 none,st.hp++[.list []]⟩) (by exact rfl) (X.seq ?_)⟩))));exact QH (hp0:=st.hp) ih R (aC _) q (full.length+1) full [] [] 0 none _ (.push _ _) ⟨gl _ _,rfl,df _,hw,aO _,h0,h0,Ii⟩ rfl
end
noncomputable def G4:List (List UInt8):=[[32],[13],[37,113,10]]
noncomputable def PW:List (List UInt8):=[[],[10],[32],[13],[37,113,10]]
noncomputable def cat:List (Tk×List UInt8)->List UInt8
 |[]=>[]
 |(t,s)::xs=>t.b++(s++cat xs)
noncomputable def w8:Nat->List (Tk×List UInt8)->TS
 |_,[]=>[]
 |n,(t,s)::xs=>(t,n)::w8 (n+t.b.length+s.length) xs
theorem FC(h:s∈PW)(r:List UInt8):kB aj (s++r)=s.length+kB aj r:=by
 simp only[PW,aP,aJ,or_false] at h;rcases h with rfl|rfl|rfl|rfl|rfl
 ·exact(aZ _).symm
 ·exact bz _ _
 ·exact bz _ _
 ·exact bz _ _
 ·show kB aj r+1+1+1=3+_;lia
theorem TA(t:Tk)(r:List UInt8):kB aj (t.b++r)=0:=by rcases t with x|x|x<;>cases x<;>rfl
theorem Jq(h:s∈G4)(r:List UInt8):(s++r).takeWhile gG=[]:=by
 simp only[G4,aP,aJ,or_false] at h;rcases h with rfl|rfl|rfl<;>rfl
theorem Jp(h:s∈G4):s∈PW:=aM _ (aM _ h)
theorem qY{r:List UInt8}(e:d.drop p=s++r)(hp:p<=d.length):p+s.length+r.length=d.length:=by
 rw[aN,<-av,<-e,cB,iW hp]
theorem vZ{r:List UInt8}(e:d.drop p=s++r):d.drop (p+s.length)=r:=by
 rw[<-cK,e,List.drop_append_of_le_length (aC _),qe];rfl
theorem JC(xs:List (Tk×List UInt8)):∀(s:List UInt8) (p:Nat),d.drop p=s++cat xs->p<=d.length->s∈PW->(∀x∈xs,x.2∈G4)->Toks d p (w8 (p+s.length) xs):=by
 induction xs with
 |nil=>
  intro s p e hp hs hx;have:=qY e hp;show p+kB aj (d.drop p)=d.length;simp only[e,FC hs];exact this
 |cons x xs ih=>
  intro s p e hp hs hx;obtain⟨t,w⟩:=x;have hw:=hx _ (aU ..);have e2:d.drop (p+s.length)=t.b++(w++cat xs):=vZ e;have h2:p+s.length<=d.length:=qY e hp▸aF _ _;exact⟨by simp only[e,FC hs,show cat ((t,w)::xs)=t.b++(w++cat xs) from rfl,TA];rfl,⟨w++cat xs,e2,Jq hw _⟩,ih w _ (vZ e2) (qY e2 h2▸aF _ _) (Jp hw) λx h=>hx x (aM _ h)⟩
theorem sk:∀(n:Nat) (xs:List (Tk×List UInt8)),(w8 n xs).map (·.1)=xs.map (·.1)
 |_,[]=>rfl
 |n,x::xs=>congrArg _ (sk _ xs)
theorem qQ(t:Tk)(s:List UInt8):∀xs:List (Tk×List UInt8),cat (xs++[(t,s)])=cat xs++(t.b++s)
 |[]=>by simp[cat]
 |(u,w)::xs=>by simp only[GP,cat,qQ t s xs,cS]
theorem B7(t:Tk)(s:List UInt8)(xs:List (Tk×List UInt8)):∀(n:Nat),w8 n (xs++[(t,s)])=w8 n xs++[(t,n+(cat xs).length)]:=by
 induction xs with
 |nil=>exactλn=>rfl
 |cons x xs ih=>
  intro n;obtain⟨u,w⟩:=x;have e:n+(cat ((u,w)::xs)).length=n+u.b.length+w.length+(cat xs).length:=by
   show n+(u.b++(w++cat xs)).length=_;rw[av,av,aN,aN]
  rw[e];exact congrArg _ (ih _)
theorem Gs:∀ts:TS,tw ts=lw (ts.map (·.1))
 |[]=>rfl
 |(t,p)::ts=>congrArg (t.wt+·) (Gs ts)
def X8(W N:Nat):Due->Prop
 |.fault _=>True
 |.ok l=>l.length<=N/\∀x∈l,iI x.2<=W/\x.2.length<=N
theorem Mz{e N:Nat}(kf:Nat):∀(ts:TS) (fl:List (Str×List Tr)) (acc:List Tr),iI acc+tw ts<=W->acc.length+ts.length<=N->fl.length+ts.length<=N->(∀x∈fl,iI x.2<=W/\x.2.length<=N)->X8 W N (v5 e kf fl acc ts):=by
 induction kf with
 |zero=>exactλ_ _ _ _ _ _ _=>trivial
 |succ kf ih=>
  intro ts fl acc h1 h2 h3 h4;cases ts with
  |nil=>
   show X8 W N (if acc.isEmpty=ah then .ok fl else .fault e);cases acc.isEmpty
   ·trivial
   ·exact⟨h3,h4⟩
  |cons y ts=>
   obtain⟨t,p⟩:=y;cases h:wx t with
   |false=>
    rw[Dx h];have hr:=(se e (2*((t,p)::ts).length+1)).1 ((t,p)::ts);cases q:rd e (2*((t,p)::ts).length+1) ((t,p)::ts) with
    |fault n=>trivial
    |ok u cP=>
     simp only[q] at hr;have a1:cP.length+1<=_:=hr.1.1;refine ih cP fl (acc++[u]) ?_ ?_ (ai (bf (aT hr.1.1) _) h3) h4
     ·simp only[qr,aN];exact ai (bf (ai hr.2 (bI (aZ _))) _) h1
     ·simp only[av,bk,aN,bz 1];exact ai (bf a1 _) h2
   |true=>
    cases t with
    |o x=>
     have e1:tw ((Tk.o x,p)::ts)=tw ts:=aZ _;rw[e1] at h1;refine ih ts (fl++[(du x.b,acc)]) [] (ai (by simp only[show iI []=0 from rfl,aZ];exact aQ _ _) h1) (ai (by simp only[bE,aZ];exact ai (bX _) (aQ _ _)) h2) (by simp only[av,bk,aN,bz 1];exact h3) λy hy=>?_
     rcases cx.mp hy with hy|hy
     ·exact h4 y hy
     ·rw[au.mp hy];exact⟨ai (aF _ _) h1,ai (aF _ _) h2⟩
    |a x=>exact nB h
    |s x=>exact nB h
def PE(ap:Ap):M PF:=(aq (mR (bV ap (af 3) "append" (aa (ax ap (pure (.obj (.builtin "len"))) (aa (af 2) (pure []))) (pure [])))) (aq (bg (eB .Add (eB .Add (af 2) (af 4)) (ax ap (pure (.obj (.ref 662))) (aa (af 0) (aa (eList (aa (pure (.bytes [32])) (aa (pure (.bytes [13])) (aa (pure (.bytes [37,113,10])) (pure []))))) (pure []))))) (aX 2)) (pure .next)))
def LV(ap:Ap):M PF:=(aq (bw (eC .Eq (ax ap (pure (.obj (.ref 707))) (aa (af 2) (pure []))) (ax ap (pure (.obj (.ref 702))) (aa (af 1) (aa (af 3) (aa (ax ap (pure (.obj (.builtin "len"))) (aa (af 2) (pure []))) (pure []))))))) (pure .next))
theorem IY(old:Old)(ap:Ap):Ss old ap=(aq (bg (ax ap (pure (.obj (.ref 690))) (aa (af 0) (pure []))) (aX 1)) (aq (j8 (bq (aa (ax ap (pure (.obj (.ref 662))) (aa (af 0) (aa (eList (aa (pure (.bytes [])) (aa (pure (.bytes [10])) (pure [])))) (pure [])))) (aa (eList (pure [])) (pure [])))) 2 [aX 3,aX 2]) (aq (pZ (nv (af 1)) (aX 4) (PE ap)) (LV ap)))):=rfl
section
variable{m pl:Nat}{loc:List (Option PV)}{l:List Tk}{lead:List UInt8}
theorem z9(h:s∈G4):s.length<=3:=by
 simp only[G4,aP,aJ,or_false] at h;rcases h with rfl|rfl|rfl<;>decide
theorem Gi(t:Tk):t.b.length<=4:=by rcases t with x|x|x<;>cases x<;>decide
theorem mY{x y:List UInt8}(h:x.length+y.length<=16777216):Ev (iP .Add (.bytes x) (.bytes y)) st (.bytes (x++y)):=congrFun (if_pos h) st
def PL(n:Nat)(xs:List (Tk×List UInt8)):List PV:=(w8 n xs).map λx=>.int x.2
structure BH(c a pl:Nat)(lead:List UInt8)(l rest:List Tk)(xs:List (Tk×List UInt8))(hp:List PO):Prop where
 m:xs.map (·.1)++rest=l
 x:∀x∈xs,x.2∈G4
 g5:kj hp c
 ga:hp[a]?=some (.list (bl l))
 gp:hp[pl]?=some (.list (PL lead.length xs))
 z:(cat xs).length<=7*xs.length
section
variable{rest:List Tk}
theorem BH.len(B:BH c a pl lead l rest xs hp):xs.length+rest.length=l.length:=by simp only[<-B.m,av,aW]
theorem BH.dl(B:BH c a pl lead l rest xs hp)(hl:l.length<=64)(pD:lead.length<=1):(lead++cat xs).length<=449:=by
 rw[av];exact bQ pD (show(cat xs).length<=448 from ai B.z (show 7*xs.length<=7*64 from b9 7 (ai (by simp only[<-B.len];exact aF _ _) hl)))
theorem BH.at_(B:BH c a pl lead l rest xs hp):(bl l)[xs.length]?=rest.head?.map λt=>.bytes t.b:=by
 unfold bl;rw[cE,<-B.m,cL (by rw[aW];exact aC _),aW,kG,List.head?_eq_getElem?]
theorem LZ(n:Nat)(xs:List (Tk×List UInt8)):(PL n xs).length=xs.length:=by
 unfold PL;simp only[aW,<-aW (f:=λx:Tk×Nat=>x.1),sk,aW]
theorem BH.next{h1 h2:List PO}(B:BH c a pl lead l (t::rest) xs hp)(hs:s∈G4)(KG:a≠pl)(Pc:c≠a)(Ut:c≠pl)(e:h1=hp.set pl (.list (PL lead.length xs++[.int (lead++cat xs).length])))(u:Upd [c] h1 h2)(g5:kj h2 c):BH c a pl lead l rest (xs++[(t,s)]) h2:=by
 have g2:h1[pl]?=some (.list (PL lead.length xs++[.int (lead++cat xs).length])):=by rw[e];exact bb (ak.mp B.gp).1
 have u1:Upd [pl] hp h1:=by simp only[e];exact .set _ _ (au.mpr rfl)
 refine⟨by rw[cw,cS];exact B.m,λx Wz=>(cx.mp Wz).elim (B.x x) λh=>by rw[au.mp h];exact hs,g5,u.2 _ _ (u1.2 _ _ B.ga (ip KG)) (ip Pc.symm),?_,?_⟩
 ·have:=u.2 _ _ g2 (ip Ut.symm);unfold PL at this⊢;simp only[B7,cw,this,av];rfl
 ·simp only[qQ,av,av,av];exact bQ B.z (bQ (Gi t) (z9 hs))
end
theorem AP(Pc:c≠a)(Ut:c≠pl)(KG:a≠pl)(pD:lead.length<=1)(hl:l.length<=64)(q:∀ay o4 xs,BH c a pl lead l [] xs ay->QF .next ⟨[some (.ref c),some (.ref a),some (.bytes (lead++cat xs)),some (.ref pl),o4],ay⟩)(rest:List Tk):∀(kf:Nat) (o4:Option PV) (hp:List PO) (xs:List (Tk×List UInt8)),rest.length<kf->BH c a pl lead l rest xs hp->
 X (iC kf (.list a xs.length) (aX 4) (PE (aY old (k+2)))) ⟨[some (.ref c),some (.ref a),some (.bytes (lead++cat xs)),some (.ref pl),o4],hp⟩ QF E:=by
 induction rest with
 |nil=>
  intro kf o4 hp xs hk B;cases kf with
  |zero=>cases hk
  |succ kf=>
   have h:=B.at_;exact X.Bi (by simp only[cY,B.ga,h];rfl) (q hp o4 xs B)
 |cons t rest ih=>
  intro kf o4 hp xs hk B;cases kf with
  |zero=>cases hk
  |succ kf=>
   have h:(bl l)[xs.length]?=some (.bytes t.b):=B.at_;have hd:=B.dl hl pD;refine X.Bj (v:=.bytes t.b) (it':=.list a (xs.length+1)) (by simp only[cY,B.ga,h]) (X.ok (a:=()) (s:=⟨[some (.ref c),some (.ref a),some (.bytes (lead++cat xs)),some (.ref pl),some (.bytes t.b)],hp⟩) rfl ?_);refine X.app (l:=PL lead.length xs) (by exact rfl) B.gp (Ev.Bw (d:=lead++cat xs) (by exact rfl) (eJ hd rfl)) (eJ (m:=64) (by rw[LZ];exact ai (by simp only[<-B.len];exact aF _ _) hl) rfl) ?_;have nx:=λ{s h2} (hs:s∈G4) u p=>B.next (s:=s) (h2:=h2) hs KG Pc Ut rfl u p
   have sb:kj (hp.set pl (.list (PL lead.length xs++[.int (lead++cat xs).length]))) c:=by
    obtain⟨x,y,g⟩:=B.g5;exact⟨x,y,(Upd.set (S:=[pl]) _ _ (au.mpr rfl)).2 _ _ g (ip Ut)⟩
   generalize hp.set pl (.list (PL lead.length xs++[.int (lead++cat xs).length]))=h1 at*;have hb:=bQ hd (Gi t);refine X.dm (X.B (X.ev (a:=.bytes (lead++cat xs++t.b)) (Ev.B (by exact rfl) (by exact rfl) (mY (ai hb (by decide)))) (lM (l:=G4.map .bytes) sb (by exact rfl) (by exact rfl) (by decide) (by decide) λv hv h2 u2 oQ=>?_)));obtain⟨s,hs,rfl⟩:=bD.mp hv;have:=ih kf (some (.bytes t.b)) h2 (xs++[(t,s)]) (bJ hk) (nx hs u2 oQ);simp only[av,bk] at this;refine X.ev (a:=.bytes (lead++cat (xs++[(t,s)]))) ((mY (ai (bQ (by rw[av];exact hb) (z9 hs)) (by decide))).of (by rw[qQ,cS,cS])) (X.nx ?_);exact this
end
section
variable{m pl:Nat}{loc:List (Option PV)}{l:List Tk}{lead:List UInt8}
theorem I5(h:∀x∈ts,Cs x.1=ah):yu ts:=λp hp=>by have:=h _ hp;cases this
theorem zx(h:lead∈[[],[10]]):lead.length<=1/\lead∈PW:=(aP.mp h).elim (λe=>by rw[e];decide) λh=>by rw[au.mp h];decide
theorem A3(hs:d.length<=449)(ht:Toks d 0 ts)(Ii:∀x∈ts,Cs x.1=ah)(hL:tw ts<=32)(hl:ts.length<=64):dW old (k+8) d (v5 d.length (ts.length+1) [] [] ts):=λ_ _ _ hf q=>
 A4 (eJ hs rfl) ht (I5 Ii) (aA hL (by decide)) (aA hl (by decide)) hf q
theorem MN(hs:d.length<=449)(ht:Toks d 0 ts)(Ii:∀x∈ts,Cs x.1=ah)(hL:tw ts<=32)(hl:ts.length<=64)(R:RA hp a pl ts)(q:∀ay,Upd [] hp ay->Q (.bool ah) ⟨loc,ay⟩):X (LV (aY old (k+42))) ⟨[some (.ref c),some (.ref a),some (.bytes d),some (.ref pl),o4],hp⟩ (Rt Q loc) E:=by
 have h0:∀n,n<=64->0+n<=64:=λn h=>by rw[aZ];exact h
 have hD:=Mz (e:=d.length) (W:=32) (N:=64) (ts.length+1) ts [] [] (by rw[show iI []=0 from rfl,aZ];exact hL) (h0 _ hl) (h0 _ hl) (λ_ h=>absurd h aJ);have Ur:∀l,v5 d.length (ts.length+1) [] [] ts=.ok l->l.length<=64/\∀x∈l,iI x.2<=32/\x.2.length<=64:=λl h=>by rw[h] at hD;exact hD
 refine X.ret (X.C (X.call (vs:=[.bytes d]) rfl (by exact rfl) (u9 (m:=k+36) (A3 (k:=k+33) hs ht Ii hL hl) (λl h=>⟨aA (Ur l h).1 (by decide),λx hx=>⟨ai ((Ur l h).2 x hx).1 (by lia),aA ((Ur l h).2 x hx).2 (by decide)⟩⟩) λh1 v u1 hv=>?_)));have hz:ts.length<1000:=aA hl (by decide);refine X.call (vs:=[.ref a,.ref pl,.int d.length]) rfl (by exact Ev.cons rfl (Ev.cons rfl (Ev.cons (Ev.Bw (by exact rfl) (eJ hs rfl)) Ev.nil))) (Bt (m:=k+38) (st:=⟨_,h1⟩) (Nt hz _) (R.upd u1) (ai hL (by lia)) hz Ii λh2 w u2 hw=>?_);exact X.ev (rF hv hw u2 λl h x hx=>((Ur l h).2 x hx).1) (Rt.rt (q h2 (u1.trans u2)))
theorem MM(pD:lead∈[[],[10]])(hg:Gd 64 32 l)(B:BH c a pl lead l [] xs hp)
 (q:∀ay,Upd [] hp ay->Q (.bool ah) ⟨loc,ay⟩):X (LV (aY old (k+42))) ⟨[some (.ref c),some (.ref a),some (.bytes (lead++cat xs)),some (.ref pl),o4],hp⟩ (Rt Q loc) E:=by
 have hl:=zx pD;have Ic:(w8 lead.length xs).map (·.1)=l:=by simp only[sk,<-B.m,c5]
 have YB:(w8 lead.length xs).length<=64:=by rw[<-aW (f:=λx:Tk×Nat=>x.1),Ic];exact hg.len
 have ht:=JC (d:=lead++cat xs) xs lead 0 rfl (df _) hl.2 B.x;rw[aZ] at ht;refine MN (B.dl hg.len hl.1) ht (λx h=>hg.ok _ (by rw[<-Ic];exact iK h)) (by rw[Gs,Ic];exact hg.wt) YB ⟨?_,B.gp,aA YB (by decide)⟩ q;rw[B.ga,<-Ic];unfold bl;rw[kr];rfl
theorem wR(g5:kj st.hp c)(q:∀ay,kj ay c->Q (.bool ah) ⟨st.loc,ay⟩):X (aY old (k+43) (.obj (.ref 714)) [.ref c]) st Q E:=by
 refine VM ?_;simp only[IY];refine X.dm (X.call (vs:=[.ref c]) rfl (by exact rfl) (Tc (k:=k+33) g5 λh1 a r=>?_));cases r with
 |mk l P la=>
 have Pc:c≠a:=aL (aB P.hc la.fr);refine X.Ga (X.tup (X.cX (lM (k:=k+40) (l:=[[],[10]].map .bytes) P.g5 (by exact rfl) (by exact rfl) (by decide) (by decide) λv hv h2 u2 oQ=>?_)));obtain⟨lead,pD,rfl⟩:=bD.mp hv;have ga:=u2.2 _ _ la.at_ (ip Pc.symm);refine X.cX (X.list (l:=[]) Ev.nil rfl (X.ev (a:=[]) rfl ⟨rfl,_,rfl,rfl,?_⟩));refine X.ok (a:=()) (s:=⟨[some (.ref c),some (.ref a),some (.bytes (lead++cat [])),some (.ref h2.length),none],h2++[.list []]⟩) (by rw[show lead++cat []=lead from c5 _];rfl) (X.D9 (i:=.list a 0) ?_ ?_)
 ·refine Ev.bind (a:=.ref a) (by exact rfl) ?_;delta Ev j4;simp only[iy ga]
 ·exact AP (k:=k+40) Pc (aL oQ.lt) (aL (ak.mp ga).1) (zx pD).1 la.gd.len (λh3 o4 xs B=>K.nx (MM pD la.gd B λh4 u4=>q h4 (B.g5.upd u4))) l dR none _ [] (aA la.gd.len (by unfold dR;decide)) ⟨rfl,λ_ h=>absurd h aJ,oQ.push _,iy ga _,gl _ _,df _⟩
end
def HT(d:List UInt8):Nat->TS->Prop
 |n,[]=>n+kB aj (d.drop n)=d.length
 |n,(t,a)::ts=>n+kB aj (d.drop n)=a/\(∃r,d.drop a=t.b++r/\r.takeWhile gG=[])/\(wx t=aj->HT d (a+t.b.length) ts)
def HH(Z:List Nat)(hp:List PO)(c:Nat)(d:List UInt8):TS->PV->Prop
 |[],tok=>tok=.tup [.str "end",.bytes [],.int d.length]/\HC hp c d d.length
 |(t,p)::ts,tok=>∃v,tok=fW t v p/\TV Z hp t v/\HC hp c d (p+t.b.length)/\(wx t=aj->HT d (p+t.b.length) ts)
section
variable{m:Nat}{loc:List (Option PV)}
theorem yL{r:List UInt8}(h:HC st.hp c d n)(h1:n+kB aj (d.drop n)=a)(h2:d.drop a=t.b++r)(h3:r.takeWhile gG=[])(hZ:∀z∈Z,z<st.hp.length)(q:∀ay v,Upd [c] st.hp ay->TV Z ay t v->HC ay c d (a+t.b.length)->Q (fW t v a) ⟨st.loc,ay⟩):X (aY old (k+6) (.obj (.ref 373)) [.ref c]) st Q E:=
 E6 t h h1 h2 h3 λay v u hc hv=>q ay v u (by
  rcases hv with hv|⟨e,a,e2,hl,g⟩
  ·exact .inl hv
  ·exact .inr ⟨e,a,e2,λz=>dH (hZ _ z) hl,g⟩) hc
theorem zJ(h:HC st.hp c d n)(ht:HT d n ts)(hZ:∀z∈Z,z<st.hp.length)(q:∀ay tok,Upd [c] st.hp ay->HH Z ay c d ts tok->Q tok ⟨st.loc,ay⟩):X (aY old (k+6) (.obj (.ref 373)) [.ref c]) st Q E:=by
 cases ts with
 |nil=>exact Kw h ht (q _ _ (.set _ _ (au.mpr rfl)) ⟨rfl,h.set⟩)
 |cons x ts=>
  obtain⟨t,a⟩:=x;refine gg λG k_=>?_
  obtain⟨h1,⟨r,h2,h3⟩,h4⟩:=ht;refine k_ ?_;exact yL h h1 h2 h3 hZ λay v u hv hc=>q ay _ u ⟨v,rfl,hv,hc,h4⟩
theorem Fd{x:At}(hv:TV Z st.hp (.a x) v)(hZ:∀z∈Z,z<st.hp.length)(q:∀ay w,Upd [] st.hp ay->iu Z ay w (.a x)->Q w ⟨st.loc,ay⟩):X (aY old (k+7) (.obj (.ref 567)) [.ref c,fW (.a x) v p,.bool aj]) st Q E:=by
 refine Qp ?_;simp only[zH];refine X.dm (X.list (l:=[]) rfl rfl (X.seq ?_));have l0:st.hp.length<(st.hp++[PO.list []]++[PO.list []]).length:=by rw[av,av];exact fL (aO _)
 have Us:∀z∈st.hp.length::Z,z<(st.hp++[PO.list []]++[PO.list []]).length:=λz h=>(aP.mp h).elim (λe=>e▸l0) λh=>bP (hZ z h) l0
 have Ry:TV (st.hp.length::Z) (st.hp++[PO.list []]++[PO.list []]) (.a x) v:=(TV.lift hv).upd (.push _ _);refine rL (isop:=kX (.a x)) (sg:=ti (.a x) [62,62]) (wkb:=aj) rfl (λ_=>yk hv) (λ_=>vp hv) (gl _ _) rfl .nil nofun λ_=>?_
 refine Mg Ry Us rfl λay w u hw=>?_
 have g:=u.2 _ _ (iy (gl st.hp (.list [])) (.list [])) nofun;have u2:Upd [] st.hp ay:=((Upd.push _ _).trans (.push _ _)).trans u;exact X.qp (eq_nil rfl g ⟨λ_=>X.c6 rfl (K.rt (K.rt (Lp.rt (K.rt (Rt.rt (q _ w (u2.trans (.push _ _)) (iu.upd (.push _ _) (.a x) (iu.less (λa h _ z=>h (aM _ z)) (.a x) hw)))))))),nofun⟩)
theorem zS{o:M PV}{w:Int}{l:List PV}{g:Nat}(hg:st.hp[g]?=some (.list l))(hl:l.length<4000)(h4:Ev o st (.ref g)):Ev (tC .Eq (eB .Mod (ax (aY old (k+1)) (pure (.obj (.builtin "len"))) (aa o (pure []))) (pure (.int 2))) (pure (.int w))) st (((l.length%2:Nat):Int)==w):=
 Ev.tC (Ev.B (Ev.wF (Ev.cons h4 Ev.nil) hg (eJ (aT hl) (m:=4000) rfl)) rfl zG) rfl Ev.pU
theorem EB:Ev (aY old (k+1) (.obj (.ref 601)) [.tup [.str "end",.bytes [],.int p]]) st (.bool aj):=by
 refine gg λG k_=>?_
 obtain⟨_,_,e,rfl,rfl⟩:=(Qq (old:=old) (k:=k) (x0:=.tup [.str "end",.bytes [],.int p]) (st:=st) (E:=λ_ _=>False) (Q:=λu s=>u=.bool aj/\s=st) (X.c6 (Ev.bA (y:=aj) (z:=aj) rfl (λe=>nomatch e)) (Rt.rt ⟨rfl,rfl⟩))).run;refine k_ ?_;exact e
end
set_option backward.match.sparseCases false
def Hm(ap:Ap):M Bool:=(eT (tV (ax ap (pure (.obj (.ref 601))) (aa (af 2) (pure [])))))
def U_(ap:Ap):M PF:=(aq (mR (bV ap (af 1) "append" (aa (ax ap (pure (.obj (.ref 567))) (aa (af 0) (aa (af 2) (aa (pure (.bool aj)) (pure []))))) (pure [])))) (aq (bg (ax ap (pure (.obj (.ref 373))) (aa (af 0) (pure []))) (aX 2)) (pure .next)))
def CS(ap:Ap):M PF:=(aq (cI (bY (tC .Eq (eB .Mod (ax ap (pure (.obj (.builtin "len"))) (aa (af 1) (pure []))) (pure (.int 2))) (pure (.int 0))) (bY (tC .NotEq (bt (af 2) (pure (.int 0))) (pure (.str "name"))) (pure ah))) (aq (cZ (aa (pure (.str "a key is no name")) (aa (bt (af 2) (pure (.int 2))) (pure [])))) (pure .next)) (pure .next)) (U_ ap))
def Hq(ap:Ap):M PF:=(aq (cI (hJ (tC .NotEq (bt (af 2) (pure (.int 1))) (pure (.bytes [73,68]))) (hJ (tC .Eq (eB .Mod (ax ap (pure (.obj (.builtin "len"))) (aa (af 1) (pure []))) (pure (.int 2))) (pure (.int 1))) (pure aj))) (aq (cZ (aa (pure (.str "ID is missing")) (aa (bt (af 2) (pure (.int 2))) (pure [])))) (pure .next)) (pure .next)) (aq (bw (ax ap (pure (.obj (.ref 552))) (aa (af 1) (pure [])))) (pure .next)))
theorem IS(old:Old)(ap:Ap):Sl old ap=(aq (bg (eList (pure [])) (aX 1)) (aq (bg (ax ap (pure (.obj (.ref 373))) (aa (af 0) (pure []))) (aX 2)) (aq (bM (Hm ap) (CS ap)) (Hq ap)))):=rfl
inductive HR where
 |f (n:Nat)|ok (acc:List Tr) (n:Nat)|bad
def s8(e:Nat):List Tr->TS->HR
 |acc,[]=>if acc.length%2=0 then .f e else .bad
 |acc,(.o x,p)::_=>if(x.b==[73,68]&&acc.length%2==0)=ah then .ok acc (p+2) else .f p
 |acc,(.a x,p)::ts=>if(acc.length%2==0&&!isNm (.a x))=ah then .f p else s8 e (acc++[.a x]) ts
 |_,_=>.bad
section
variable{m:Nat}{loc:List (Option PV)}
theorem Sz(x:At):(!decide (x.kd="name"))=!isNm (.a x):=by cases x<;>rfl
theorem i2(n w:Nat):(((n%2:Nat):Int)==(w:Int))=(n%2==w):=(lI w (n%2)).trans mT
theorem MJ{x:Op}(hv:TV Z hp (.o x) v)(g:hp[li]?=some (.list items))(hi:cj Z hp items acc)(hl:acc.length<1000)(hZ:∀z∈Z,z<hp.length)
 (hf:(x.b==[73,68]&&acc.length%2==0)=aj->E p hp) (hw:(x.b==[73,68]&&acc.length%2==0)=ah->lC acc) (q:(x.b==[73,68]&&acc.length%2==0)=ah->∀ay w,Upd [] hp ay->iu Z ay w (td acc)->Q w ⟨loc,ay⟩):
 X (Hq (aY old (k+2))) ⟨[some (.ref c),some (.ref li),some (fW (.o x) v p)],hp⟩ (Rt Q loc) E:=by
 have hlen:=cj.len acc hi;obtain rfl:=hv.ON nofun;have fw:=zS (old:=old) (k:=k+1) (w:=(1:Nat)) (st:=⟨[some (.ref c),some (.ref li),some (fW (.o x) (.bytes x.b) p)],hp⟩) (o:=af 1) g (show items.length<4000 from hlen.symm▸bP hl (by decide)) (by exact rfl);rw[i2,hlen] at fw;have ht:Ev (hJ (tC .NotEq (bt (af 2) (pure (.int 1))) (pure (.bytes [73,68]))) (hJ (tC .Eq (eB .Mod (ax (aY old (k+2)) (pure (.obj (.builtin "len"))) (aa (af 1) (pure []))) (pure (.int 2))) (pure (.int 1))) (pure aj))) ⟨[some (.ref c),some (.ref li),some (fW (.o x) (.bytes x.b) p)],hp⟩ (!(x.b==[73,68]&&acc.length%2==0)):=
  (Ev.hJ (Ev.tC (by exact rfl) rfl Ev.Ph) λ_=>Ev.hJ fw λ_=>Ev.pu).of (by
   simp only[gq,Bool.not_and]
   congr 1
   rcases Nat.mod_two_eq_zero_or_one acc.length with h|h<;>rw[h]<;>rfl)
 cases h:(x.b==[73,68]&&acc.length%2==0) with
 |false=>
  rw[h] at ht;exact X.tt ht (X.raise (x:="ID is missing") (by exact rfl) (hf h))
 |true=>
  rw[h] at ht;exact X.ff ht (X.ret (X.call (vs:=[.ref li]) rfl (by exact rfl) (tL g hi (hw h) (bP hl (by decide)) hZ λay w u hv=>Rt.rt (q h ay w u hv))))
structure HB(Z:List Nat)(hp:List PO)(c li:Nat)(d:List UInt8)(ts:TS)(tok:PV)(items:List PV)(acc:List Tr):Prop where
 g:hp[li]?=some (.list items)
 v:cj Z hp items acc
 l:acc.length+ts.length<1000
 z:∀z∈Z,z<hp.length
 h:HH Z hp c d ts tok
section
variable{D:HR}
theorem HB.al(B:HB Z hp c li d ts tok items acc):items.length<4000:=by rw[cj.len _ B.v];exact bP (aA (aF _ _) B.l) (by decide)
theorem HB.par(B:HB Z hp c li d ts tok items acc):Ev (tC .Eq (eB .Mod (ax (aY old (k+1)) (pure (.obj (.builtin "len"))) (aa (af 1) (pure []))) (pure (.int 2))) (pure (.int 0))) ⟨[some (.ref c),some (.ref li),some tok],hp⟩ (acc.length%2==0):=by
 have:=zS (old:=old) (k:=k) (w:=(0:Nat)) (st:=⟨[some (.ref c),some (.ref li),some tok],hp⟩) (o:=af 1) B.g B.al (by exact rfl);rwa[i2,cj.len _ B.v] at this
theorem Ei(hf:∀m,D=.f m->E m hp)(hb:D≠.bad)(B:HB Z hp c li d [] tok items acc)(eD:(if acc.length%2=0 then .f d.length else .bad)=D):X (bM (Hm (aY old (k+7))) (CS (aY old (k+7)))) ⟨[some (.ref c),some (.ref li),some tok],hp⟩ QF E:=by
 have fw:=B.par (old:=old) (k:=k+6);obtain⟨rfl,hc⟩:=B.h;by_cases h:acc.length%2=0
 ·simp only[h] at fw;exact X.dt (Ev.eT (Ev.tV (Ev.call rfl (by exact rfl) EB))) (λ_=>X.tt (Ev.bY fw λ_=>Ev.bY (by exact rfl) λ_=>Ev.pu) (X.raise (x:="a key is no name") (by exact rfl) (hf _ (by rw[<-eD,if_pos h])))) λe=>nB e.symm
 ·exact absurd (by rw[<-eD,if_neg h]) hb
theorem M5{x:Op}(hf:∀m,D=.f m->E m hp)(q:∀xy m,D=.ok xy m->lC xy/\∀ay w,Upd [] hp ay->HC ay c d m->iu Z ay w (td xy)->Q w ⟨loc,ay⟩)(B:HB Z hp c li d ((.o x,p)::ts) tok items acc)(eD:(if(x.b==[73,68]&&acc.length%2==0)=ah then .ok acc (p+2) else .f p)=D):
 X (bM (Hm (aY old (k+7))) (CS (aY old (k+7)))) ⟨[some (.ref c),some (.ref li),some tok],hp⟩ (K (Hq (aY old (k+7))) (Rt Q loc) E) E:=by
 refine gg λG k_=>?_
 have hl:=aA (aF _ _) B.l;obtain⟨v,rfl,hv,hc,_⟩:=B.h;have q1:(x.b==[73,68]&&acc.length%2==0)=ah->D=.ok acc (p+2):=λh=>by rw[<-eD,if_pos h]
 refine k_ ?_;refine X.dt (Ev.eT (Ev.tV (Ev.call rfl (by exact rfl) (lH hv)))) nB λ_=>K.nx (MJ (k:=k+5) hv B.g B.v hl B.z (λh=>hf _ (by rw[<-eD,if_neg (by rw[h];decide)])) (λh=>(q acc (p+2) (q1 h)).1) λh ay w u' hw=>(q acc (p+2) (q1 h)).2 ay w u' ?_ hw)
 have e:x.b.length=2:=by simp only[aI] at h;rw[eq_of_beq h.1];rfl
 rw[show(Tk.o x).b.length=2 from e] at hc;exact hc.upd u' aJ
theorem M4{x:At}(Eg:c∈Z)(M8:li∈Z)(j3:c≠li)(B:HB Z hp c li d ((.a x,p)::ts) tok items acc)(h:(acc.length%2==0&&!isNm (.a x))=ah->E p hp)
 (nx:(acc.length%2==0&&!isNm (.a x))=aj->∀ay tok items,Upd [c,li] hp ay->HB Z ay c li d ts tok items (acc++[.a x])->QF .next ⟨[some (.ref c),some (.ref li),some tok],ay⟩):X (CS (aY old (k+7))) ⟨[some (.ref c),some (.ref li),some tok],hp⟩ QF E:=by
 have fw:=B.par (old:=old) (k:=k+6);obtain⟨v,rfl,hv,hc,ht⟩:=B.h;have hk:Ev (bY (tC .Eq (eB .Mod (ax (aY old (k+7)) (pure (.obj (.builtin "len"))) (aa (af 1) (pure []))) (pure (.int 2))) (pure (.int 0))) (bY (tC .NotEq (bt (af 2) (pure (.int 0))) (pure (.str "name"))) (pure ah))) ⟨[some (.ref c),some (.ref li),some (fW (.a x) v p)],hp⟩ (acc.length%2==0&&!isNm (.a x)):=
  (Ev.bY fw λ_=>Ev.bY (Ev.tC (by exact rfl) rfl Ev.YN) λ_=>Ev.pu).of (by rw[mS];exact congrArg _ (Sz x))
 cases e:(acc.length%2==0&&!isNm (.a x)) with
 |true=>
  rw[e] at hk;exact X.tt hk (X.raise (x:="a key is no name") (by exact rfl) (h e))
 |false=>
  rw[e] at hk;refine X.ff hk (X.AJ (by exact rfl) B.g (X.call (vs:=[.ref c,fW (.a x) v p,.bool aj]) rfl (by exact rfl) (Fd hv B.z λh1 w u1 hw=>⟨items,u1.2 _ _ B.g aJ,eJ (aT B.al) rfl,?_⟩)));have us:Upd [li] h1 (h1.set li (.list (items++[w]))):=.set _ _ (au.mpr rfl);have uz:=us.mono (lX M8);have g2:(h1.set li (.list (items++[w])))[li]?=some (.list (items++[w])):=bb (ak.mp (u1.2 _ _ B.g aJ)).1;have Ry:=cj.snoc _ (cj.upd (u1.nil.trans uz) _ B.v) (iu.upd uz _ hw);have KH:HC (h1.set li (.list (items++[w]))) c d (p+(Tk.a x).b.length):=(hc.upd u1 aJ).upd us (ip j3);have uu:Upd [c,li] hp (h1.set li (.list (items++[w]))):=u1.nil.trans (us.mono (lX (.tail _ (aU ..))));have Us:=λz h=>aB (B.z z h) uu.1
  generalize h1.set li (.list (items++[w]))=h2 at*;exact X.dm (X.call (vs:=[.ref c]) rfl (by exact rfl) (zJ (k:=k+1) KH (ht rfl) Us λh3 tok u3 hh=>X.nx (nx e h3 tok _ (uu.trans (u3.mono (lX (aU ..))))
   ⟨u3.2 _ _ g2 (ip j3.symm),cj.upd (u3.mono (lX Eg)) _ Ry,by simp only[av,bk,aN,bz 1];exact B.l,λz h=>aB (Us z h) u3.1,hh⟩)))
end
theorem Bk{D:HR}(Eg:c∈Z)(M8:li∈Z)(j3:c≠li)(hf:∀m,D=.f m->∀ay,Upd [c,li] hp0 ay->E m ay)(hb:D≠.bad)(q:∀xy m,D=.ok xy m->lC xy/\∀ay w,Upd [c,li] hp0 ay->HC ay c d m->iu Z ay w (td xy)->Q w ⟨loc,ay⟩)(ts:TS):∀(acc:List Tr) (hp:List PO) (items:List PV) (tok:PV),Upd [c,li] hp0 hp->HB Z hp c li d ts tok items acc->s8 d.length acc ts=D->
 X (bM (Hm (aY old (k+7))) (CS (aY old (k+7)))) ⟨[some (.ref c),some (.ref li),some tok],hp⟩ (K (Hq (aY old (k+7))) (Rt Q loc) E) E:=by
 induction ts with
 |nil=>exactλacc hp items tok u B e=>Ei (λm h=>hf m h hp u) hb B e
 |cons y ts ih=>
  intro acc hp items tok u B e;obtain⟨t,p⟩:=y;cases t with
  |s x=>exact absurd e.symm hb
  |o x=>exact M5 (λm h=>hf m h hp u) (λacc m h=>⟨(q acc m h).1,λay w u'=>(q acc m h).2 ay w (u.trans u'.nil)⟩) B e
  |a x=>
   have e:(if(acc.length%2==0&&!isNm (.a x))=ah then .f p else s8 d.length (acc++[.a x]) ts)=D:=e;have hh:=B.h;refine gg λG k_=>?_
   obtain⟨v,et,hv,_⟩:=hh;refine k_ ?_;exact X.dt (by rw[et];exact Ev.eT (Ev.tV (Ev.call rfl (by exact rfl) (lH hv)))) (λ_=>M4 Eg M8 j3 B (λh=>hf _ (by rw[<-e,if_pos h]) hp u) λh ay tok items u' B'=>Lp.nx (ih _ ay items tok (u.trans u') B' (by rw[<-e,if_neg (by rw[h];decide)]))) λe=>nB e.symm
theorem M6(hc:HC st.hp c d n)(ht:HT d n ts)(Eg:c∈Z)(hZ:∀z∈Z,z<st.hp.length)(hl:ts.length<1000)(hf:∀m,s8 d.length [] ts=.f m->∀ay,Upd [c] st.hp ay->E m ay)(hb:s8 d.length [] ts≠.bad)
 (q:∀acc m,s8 d.length [] ts=.ok acc m->lC acc/\∀ay w,Upd [c] st.hp ay->HC ay c d m->iu Z ay w (td acc)->Q w ⟨st.loc,ay⟩):X (aY old (k+8) (.obj (.ref 613)) [.ref c]) st Q E:=by
 have Ys:=hZ c Eg;refine Vy ?_;simp only[IS];have C:=jL.new (o:=PO.list []) hZ Eg;refine X.dm (X.list (l:=[]) Ev.nil rfl (X.dm (X.call (vs:=[.ref c]) rfl (by exact rfl) (zJ (k:=k+1) (Z:=st.hp.length::Z) (hc.push _) ht C.z λh1 tok u1 hh=>X.seq ?_))));exact Bk (hp0:=st.hp++[.list []]) (Z:=st.hp.length::Z) (li:=st.hp.length) C.hc C.hf C.ne (λm h ay u=>hf m h ay u.back) hb (λacc m h=>⟨(q acc m h).1,λay w u vD hw=>(q acc m h).2 ay w u.back vD (iu.less (λa h _ z=>h (aM _ z)) _ hw)⟩) ts [] h1 [] tok (u1.mono (lX (aU ..)))
  ⟨u1.2 _ _ (gl _ _) (ip (cO Ys)),rfl,by simp only[bE,aZ];exact hl,λz h=>aB (C.z z h) u1.1,hh⟩ rfl
end
set_option backward.match.sparseCases true
def Hn(ap:Ap):M Bool:=(bY (tC .GtE (af 2) (pure (.int 0))) (bY (eT (tV (ax ap (pure (.obj (.ref 620))) (aa (af 0) (aa (af 2) (pure [])))))) (pure ah)))
def LP(ap:Ap):M PF:=(aq (bg (bV ap (af 0) "find" (aa (pure (.bytes [69,73])) (aa (eB .Add (af 2) (pure (.int 1))) (pure [])))) (aX 2)) (pure .next))
def U3(old:Old):M PF:=(aq (cI (tC .Lt (af 2) (pure (.int 0))) (aq (cZ (aa (pure (.str "an image has no end")) (aa (af 1) (pure [])))) (pure .next)) (pure .next)) (aq (bg (eB .Add (af 2) (pure (.int 2))) (pW (af 0) "at")) (aq (bw (iB old (eh (af 0) "data") (af 1) (eB .Sub (af 2) (pure (.int 1))))) (pure .next))))
theorem IT(old:Old)(ap:Ap):Sm old ap=(aq (cI (eT (tV (ax ap (pure (.obj (.ref 30))) (aa (bV ap (af 0) "peek" (pure [])) (pure []))))) (aq (cZ (aa (pure (.str "white is missing behind ID")) (aa (eh (af 0) "at") (pure [])))) (pure .next)) (pure .next)) (aq (mR (bV ap (af 0) "take" (pure []))) (aq (bg (eh (af 0) "at") (aX 1)) (aq (bg (bV ap (af 0) "find" (aa (pure (.bytes [69,73])) (aa (eB .Add (af 1) (pure (.int 1))) (pure [])))) (aX 2)) (aq (bM (Hn ap) (LP ap)) (U3 old)))))):=rfl
noncomputable def ei(d:List UInt8)(i:Nat):Bool:=(d.drop i).take 2==[69,73]
def pT(d:List UInt8)(i:Nat):Bool:=dA (pk d (i-1))&&((i+2==d.length)||dA (pk d (i+2)))
theorem oF(h:ei d i=ah):i+2<=d.length:=by
 have h:min 2 (d.length-i)=2:=by
  have h:=congrArg js (eq_of_beq h);rwa[GR,cB] at h
 have h:2<=d.length-i:=h▸Hc _ _;rw[bz];exact Ar (aT (GX (aB (by decide) h))) h
theorem MC(d:List UInt8)(i:Nat):(d.toArray.extract i (i+2)==(#[69,73]:Array UInt8))=ei d i:=by
 simp only[List.extract_toArray,List.extract_eq_take_drop,gJ];unfold ei;rw[Ha,beq_iff_eq,beq_iff_eq];exact⟨λh=>congrArg vG h,λh=>congrArg iV h⟩
inductive FS(d:List UInt8)(a:Nat):Int->Prop
 |no (h:∀i,a<=i->ei d i=aj):FS d a (-1)
 |at_ (i:Nat) (hi:a<=i) (he:ei d i=ah) (hn:∀j,a<=j->j<i->ei d j=aj):FS d a i
theorem OL(n a:Nat):jt n (some (a:Int)) (some (n:Int))=((a:Int),(n:Int)):=by
 unfold jt;simp only[Cg,if_neg (kD.mpr (cq _)),Int.min_self]
theorem Q5{d:Nat}(hi:a<=i)(h:(d:Int)-a<2):d<i+2:=aB (dq.mp (Int.lt_add_of_sub_left_lt h)) (bR hi 2)
theorem Q4{d:Nat}(hi:a<=i)(h:¬d<i+2):i-a<d+1-(a+2):=by lia
theorem find_spec(d:List UInt8)(a:Nat):FS d a (findR d.toArray #[69,73] a d.length):=by
 have no:∀i,d.length<i+2->ei d i=aj:=λi hi=>by
  cases q:ei d i with
  |false=>rfl
  |true=>exact absurd (oF q) (dH hi)
 unfold findR;rw[show jt d.toArray.size (some (a:Int)) (some (d.length:Int))=_ from OL d.length a];dsimp only;by_cases h:(d.length:Int)-a<(#[69,73]:Array UInt8).size
 ·rw[if_pos h];have h:(d.length:Int)-a<2:=h;exact .no λi hi=>no i (Q5 hi h)
 ·rw[if_neg h];have e:((some ((a:Int).toNat,(d.length:Int).toNat)).bind λx=>Pq d.toArray #[69,73] x.1 x.2)=((ku (d.length+1-(a+2))).find? λi=>ei d (i+a)).map (·+a):=by
   show((ku (d.length+1-(a+2))).map (·+a)).find? (λi=>d.toArray.extract i (i+2)==#[69,73])=_;rw[List.find?_map];exact congrArg (λf=>((ku (d.length+1-(a+2))).find? f).map (·+a)) (funext λi=>MC d (i+a))
  rw[e];clear e h;cases q:(ku (d.length+1-(a+2))).find? λi=>ei d (i+a) with
  |none=>
   refine .no λi hi=>?_
   by_cases hl:d.length<i+2
   ·exact no i hl
   ·have:=List.find?_range_eq_none.mp q (i-a) (Q4 hi hl);rw[CJ hi] at this;exact(gL _).mp this
  |some i=>
   obtain⟨h1,_,h2⟩:=List.find?_range_eq_some.mp q;refine .at_ (i+a) (aQ ..) h1 λj h3 h4=>?_
   have:=h2 (j-a) (Nat.sub_lt_right_of_lt_add h3 h4);rw[CJ h3] at this;exact(gL _).mp this
section
variable{m s:Nat}{loc:List (Option PV)}
theorem Dq{o:M PV}(h:HC st.hp c d n)(h0:Ev (af 0) st (.ref c))(ho:Ev o st (.int i))(hi:i<d.length):Ev (bt (eh (af 0) "data") o) st (.int (pk d i)):=by
 have e:=bp hi;exact(nI e).symm▸Ev.sub (Ev.at_ h0 (Ev.attr h.at_ uU rfl rfl)) ho (Ev.subB h.sz e)
theorem HZ(h:HC st.hp c d n)(h1:1<=i)(h2:i+2<=d.length):Ev (aY old (k+2) (.obj (.ref 620)) [.ref c,.int i]) st (.bool (pT d i)):=by
 have hs:Ev (iP .Sub (.int (i:Int)) (.int 1)) ⟨[some (.ref c),some (.int i)],st.hp⟩ (.int (i-1:Nat)):=Ev.int (i:=(i:Int)-1) rfl (nR h1).symm;have hw:Ev (ax (aY old (k+1)) (pure (.obj (.ref 30))) (aa (bt (eh (af 0) "data") (eB .Sub (af 1) (pure (.int 1)))) (pure []))) ⟨[some (.ref c),some (.int i)],st.hp⟩ (.bool (dA (pk d (i-1)))):=
  Ev.call (vs:=[.int (pk d (i-1))]) rfl (Ev.cons (Dq (st:=⟨_,st.hp⟩) h (by exact rfl) (Ev.B (by exact rfl) rfl hs) (aB (aA (dU _ _) (de (by decide))) h2)) Ev.nil) mE
 have key:X (aY old (k+2) (.obj (.ref 620)) [.ref c,.int i]) st (λu s=>u=.bool (pT d i)/\s=st) (λ_ _=>False):=by
  refine Vz ?_;unfold pT;cases q:dA (pk d (i-1)) with
  |false=>
   rw[q] at hw;exact X.tt (Ev.eT (Ev.tV hw)) (X.c6 rfl (K.rt (Rt.rt ⟨rfl,rfl⟩)))
  |true=>
   simp only[q] at hw;have h3:Ev (eC .Eq (eB .Add (af 1) (pure (.int 2))) (eh (af 0) "end")) ⟨[some (.ref c),some (.int i)],st.hp⟩ (.bool (((i+2:Nat):Int)==(d.length:Int))):=Ev.C (Ev.B (by exact rfl) rfl Ev.gW) (Ev.at_ (by exact rfl) (Ev.attr h.at_ DQ rfl rfl)) Ev.pU;refine X.ff (Ev.eT (Ev.tV hw)) (X.c6 (Ev.bO (y:=i+2==d.length) (z:=dA (pk d (i+2))) (h3.of ?_) λe=>?_) (Rt.rt ⟨rfl,rfl⟩))
   ·congr 1
    exact(lI d.length (i+2)).trans mT
   ·have:=beq_eq_false_iff_ne.mp e;exact Ev.call (vs:=[.int (pk d (i+2))]) rfl (Ev.cons (Dq (st:=⟨_,st.hp⟩) h (by exact rfl) (Ev.B (by exact rfl) rfl Ev.gW) (Nat.lt_of_le_of_ne h2 this)) Ev.nil) mE
 refine gg λG k_=>?_
 obtain⟨_,_,e,rfl,rfl⟩:=key.run;refine k_ ?_;exact e
theorem we{QP:PV->St->Prop}{o:M PV}(h:HC st.hp c d n)(h0:Ev (af 0) st (.ref c))(ho:Ev o st (.int a))(q:QP (.int (findR d.toArray #[69,73] a d.length)) st):X (bV (aY old (k+2)) (af 0) "find" (aa (pure (.bytes [69,73])) (aa o (pure [])))) st QP E:=
 X.fh h0 (Ev.m h.at_ R6) (Ev.cons rfl (Ev.cons ho Ev.nil)) (MS (by lia) h q)
inductive FI(d:List UInt8)(a:Nat):Int->Prop
 |no (h:∀i,a<=i->ei d i=ah->pT d i=aj):FI d a (-1)
 |at_ (i:Nat) (hi:a<=i) (he:ei d i=ah) (hB:pT d i=ah) (hn:∀j,a<=j->j<i->ei d j=ah->pT d j=aj):FI d a i
theorem Ff{b a0:Nat}(h:HC hp c d n)(q:∀r:Int,FI d a0 r->QF .next ⟨[some (.ref c),some (.int b),some (.int r)],hp⟩)(f:Nat):∀(a:Nat),d.length<f+a->1<=a->a0<=a->(∀j,a0<=j->j<a->ei d j=ah->pT d j=aj)->
 X (bM (Hn (aY old (k+2))) (LP (aY old (k+2)))) ⟨[some (.ref c),some (.int b),some (.int (findR d.toArray #[69,73] a d.length))],hp⟩ QF E:=by
 have Ru:∀a,(∀j,a0<=j->j<a->ei d j=ah->pT d j=aj)->(∀i,a<=i->ei d i=aj)->X (bM (Hn (aY old (k+2))) (LP (aY old (k+2)))) ⟨[some (.ref c),some (.int b),some (.int (-1))],hp⟩ QF E:=λa low hn=>
  X.dt (t:=aj) (Ev.bY (y:=aj) (z:=aj) (by exact rfl) nB) nB λ_=>q _ (.no λi hi he=>(kF i a).elim (λh=>low i hi h he) λh=>nB ((hn i h).symm.trans he))
 induction f with
 |zero=>
  intro a hf ha h0 low;have fs:=find_spec d a;generalize findR d.toArray #[69,73] a d.length=r at fs;cases fs with
  |no hn=>exact Ru a low hn
  |at_ i hi he hn=>exact absurd (ft (oF he)) (dH (aB (aZ a▸hf) hi))
 |succ f ih=>
  intro a hf ha h0 low;have fs:=find_spec d a;generalize findR d.toArray #[69,73] a d.length=r at fs;cases fs with
  |no hn=>exact Ru a low hn
  |at_ i hi he hn=>
   clear Ru;have h1:=ai ha hi;have hc:Ev (Hn (aY old (k+2))) ⟨[some (.ref c),some (.int b),some (.int i)],hp⟩ (!pT d i):=
    (Ev.bY (y:=ah) ((Ev.tC (by exact rfl) rfl Ev.ge).of (decide_eq_true (cq i))) λ_=>Ev.bY (Ev.eT (Ev.tV (Ev.call (vs:=[.ref c,.int i]) rfl (by exact rfl) (HZ (st:=⟨_,hp⟩) h h1 (oF he))))) λ_=>Ev.pu).of (by rw[vC,mS])
   have RT:∀j,a0<=j->j<i->ei d j=ah->pT d j=aj:=λj h3 h4 h5=>(kF j a).elim (λh6=>low j h3 h6 h5) λh6=>nB ((hn j h6 h4).symm.trans h5)
   cases e:pT d i with
   |true=>
    rw[e] at hc;exact X.dt hc nB λ_=>q _ (.at_ i (ai h0 hi) he e RT)
   |false=>
    rw[e] at hc;exact X.dt hc (λ_=>X.dm (we (st:=⟨_,hp⟩) h (by exact rfl) (Ev.B (by exact rfl) rfl Ev.gW) (X.nx (Lp.nx (ih (i+1) (by lia) (jG h1) (jG (ai h0 hi)) λj h3 h4 h5=>(kF j i).elim (λh6=>RT j h3 h6 h5) λh6=>ly (fK h4) h6▸e))))) λe=>nB e.symm
theorem I_(hw:dA (pk d n)=ah):∃b,d[n]?=some b:=by
 cases hb:d[n]?with
 |some b=>exact⟨b,rfl⟩
 |none=>
  unfold pk at hw;rw[hb] at hw;cases hw
theorem Fg(h:HC st.hp c d n)(h1:dA (pk d n)=aj->E n st.hp)(h2:dA (pk d n)=ah->(∀i,n+2<=i->ei d i=ah->pT d i=aj)->∀ay,Upd [c] st.hp ay->E (n+1:Nat) ay)
 (q:dA (pk d n)=ah->∀i,n+2<=i->ei d i=ah->pT d i=ah->(∀j,n+2<=j->j<i->ei d j=ah->pT d j=aj)->∀ay,Upd [c] st.hp ay->HC ay c d (i+2)->Q (.bytes ((d.drop (n+1)).take (i-1-(n+1)))) ⟨st.loc,ay⟩):X (aY old (k+3) (.obj (.ref 627)) [.ref c]) st Q E:=by
 refine VA ?_;simp only[IT];refine X.qp (X.eT (X.tV (X.iw rfl (X.cX (X.fh (v:=.ref c) (vs:=[]) (by exact rfl) (Ev.m h.at_ EX) rfl (r_ h (X.ev (a:=[]) rfl (X.ev mE (X.truth ⟨λe=>?_,λe=>X.nx (K.nx ?_)⟩)))))))))
 ·exact X.raise (x:="white is missing behind ID") (n:=n) (Ev.cons rfl (Ev.cons (Ev.at_ (by exact rfl) (Ev.attr h.at_ q8 rfl rfl)) Ev.nil)) (h1 (nT e))
 have hw:=nF e;obtain⟨b,hb⟩:=I_ hw;refine X.ex (X.fh (v:=.ref c) (vs:=[]) (by exact rfl) (Ev.m h.at_ BA) rfl (oY h hb ?_));have u1:Upd [c] st.hp (st.hp.set c (cur d (n+1))):=.set _ _ (au.mpr rfl);have G8:HC (st.hp.set c (cur d (n+1))) c d (n+1):=h.set;generalize st.hp.set c (cur d (n+1))=mh at u1 G8⊢;refine X.hY (v:=.int (n+1:Nat)) (Ev.at_ (by exact rfl) (Ev.attr G8.at_ q8 rfl rfl)) (X.dm (we (st:=⟨_,mh⟩) (a:=n+2) G8 (by exact rfl) (Ev.B (by exact rfl) rfl (Ev.gW (a:=n+1))) (X.seq ?_)));have hn:=(ak.mp hb).1;refine Ff (a0:=n+2) G8 (λr hr=>?_) (d.length+1) (n+2) (aB (aO _) (aF _ _)) (aQ 1 _) (aC _) λj h3 h4=>absurd h4 (f9 h3)
 cases hr with
 |no g=>exact K.nx (X.tt (by exact rfl) (X.raise (x:="an image has no end") (n:=(n+1:Nat)) (by exact rfl) (h2 hw g mh u1)))
 |at_ i hi he hB hj=>
 refine K.nx (X.ff ((Ev.tC (by exact rfl) rfl Ev.lt).of (decide_eq_false (kD.mpr (cq i)))) ?_);have hl:=oF he;have hs:∀s,Ev (iP .Sub (.int (i:Int)) (.int 1)) s (.int (i-1:Nat)):=λs=>Ev.int (i:=(i:Int)-1) rfl (nR (ai (aQ 1 _) hi)).symm
 refine X.yF (v:=.int (i+2:Nat)) (c:=c) (Ev.B (by exact rfl) rfl Ev.gW) (by exact rfl) G8.at_ q8 (by decide:1<3) ?_;have u2:Upd [c] mh (mh.set c (cur d (i+2))):=.set _ _ (au.mpr rfl);have KH:HC (mh.set c (cur d (i+2))) c d (i+2):=G8.set;show X _ ⟨_,mh.set c (cur d (i+2))⟩ _ _;generalize mh.set c (cur d (i+2))=fw at u2 KH⊢;exact X.c6 (Ev.sl (Ev.at_ (by exact rfl) (Ev.attr KH.at_ uU rfl rfl)) (by exact rfl) (Ev.B (x:=.int i) (by exact rfl) rfl (hs _)) (Ev.XU (i:=n+1) (j:=i-1) KH.sz (ai (dU _ _) (aT (aB (de (by decide)) hl))) (Nat.le_sub_of_add_le hi))) (Rt.rt (q hw i hi he hB hj fw (u1.trans u2) KH))
theorem Ng{fw:List PO}{w:PV}{tr:Tr}{o:List UInt8}(hZ:∀z∈Z,z<fw.length)(hv:iu Z fw w tr):mX Z (fw++[PO.inst 419 [.bytes o,.bool aj]]++[PO.list [w,.ref fw.length]]++[PO.inst 590 [.str "BI",.ref (fw++[PO.inst 419 [.bytes o,.bool aj]]).length]]) (.ref (fw++[PO.inst 419 [.bytes o,.bool aj]]++[PO.list [w,.ref fw.length]]).length) ("BI",[tr,.s o]):=by
 have hz:∀{x},fw.length<=x->x∉Z:=λhx hz=>dH (hZ _ hz) hx
 have l1:fw.length<=(fw++[PO.inst 419 [.bytes o,.bool aj]]).length:=by simp only[av];exact aF ..
 have up:Upd Z fw _:=((Upd.push fw (.inst 419 [.bytes o,.bool aj])).trans (.push _ (.list [w,.ref fw.length]))).trans (.push _ (.inst 590 [.str "BI",.ref (fw++[PO.inst 419 [.bytes o,.bool aj]]).length]));exact .mk _ _ [w,.ref fw.length] (hz (ai l1 (by rw[av (as:=fw++_)];exact aF ..))) (hz l1) (gl _ _) (iy (gl _ _) _) ⟨_,_,rfl,iu.upd up _ hv,_,_,rfl,⟨fw.length,rfl,hz (aC _),((Upd.push (S:=[]) _ _).trans (.push _ _)).2 _ _ (gl _ _) aJ⟩,rfl⟩
theorem Io(hc:HC st.hp c d n)(ht:HT d n ts)(Eg:c∈Z)(hZ:∀z∈Z,z<st.hp.length)(hl:ts.length<1000)(hb:s8 d.length [] ts≠.bad)(hf:∀m,s8 d.length [] ts=.f m->∀ay,Upd [c] st.hp ay->E m ay)(hw:∀acc m,s8 d.length [] ts=.ok acc m->lC acc)
 (h1:∀acc m,s8 d.length [] ts=.ok acc m->dA (pk d m)=aj->∀ay,Upd [c] st.hp ay->E m ay) (h2:∀acc m,s8 d.length [] ts=.ok acc m->dA (pk d m)=ah->(∀i,m+2<=i->ei d i=ah->pT d i=aj)->∀ay,Upd [c] st.hp ay->E (m+1:Nat) ay)
 (q:∀acc m,s8 d.length [] ts=.ok acc m->dA (pk d m)=ah->∀i,m+2<=i->ei d i=ah->pT d i=ah->(∀j,m+2<=j->j<i->ei d j=ah->pT d j=aj)->∀ay v,Upd [c] st.hp ay->HC ay c d (i+2)->mX Z ay v ("BI",[td acc,.s ((d.drop (m+1)).take (i-1-(m+1)))])->Q v ⟨st.loc,ay⟩):
 X (aY old (k+9) (.obj (.ref 634)) [.ref c]) st Q E:=by
 refine VB (X.dm (X.call (vs:=[.ref c]) rfl (by exact rfl) (M6 hc ht Eg hZ hl hf hb λacc m h=>⟨hw acc m h,λmh w u1 G8 hv=>?_⟩)));refine X.ret (X.iw rfl (X.jz rfl (X.cX (X.EN (X.jz (by exact rfl) (X.cX (X.iw rfl (X.cX (X.call (vs:=[.ref c]) rfl (by exact rfl) (Fg (k:=k+5) (st:=⟨_,mh⟩) G8 (λe=>h1 acc m h e mh u1) (λe g ay u=>h2 acc m h e g ay (u1.trans u)) λe i hi he hB hj fw u2 KH=>X.ev (a:=[]) rfl (zF (X.ev (a:=[]) rfl ⟨rfl,X.ev (a:=[]) rfl (E0 (Rt.rt ?_))⟩))))))))))));exact q acc m h e i hi he hB hj _ _ (((u1.trans u2).trans ((Upd.push _ _).trans (.push _ _))).trans (.push _ _)) (((KH.push _).push _).push _) (Ng (λz h=>aB (hZ z h) (ai u1.1 u2.1)) (iu.upd (u2.mono (lX Eg)) _ hv))
end
def ot(d:List UInt8)(n a:Nat)(t:Tk):Prop:=n+kB aj (d.drop n)=a/\∃r,d.drop a=t.b++r/\r.takeWhile gG=[]
section
variable{m s fo op:Nat}{loc:List (Option PV)}{jS:List PV}
theorem Gg(h0:loc[1]?=some (some (.ref c)))(h:HC hp c d n)(ht:ot d n a t)(hZ:∀z∈Z,z<hp.length)(q:∀ay v,Upd [c] hp ay->TV Z ay t v->HC ay c d (a+t.b.length)->QF .next ⟨loc.set 4 (some (fW t v a)),ay⟩):X (O_ (aY old (k+6))) ⟨loc,hp⟩ QF E:=by
 have g:Ev (af 1) ⟨loc,hp⟩ (.ref c):=by delta Ev af;rw[h0]
 refine gg λG k_=>?_
 obtain⟨h1,r,h2,h3⟩:=ht;refine k_ ?_;exact X.dm (X.call rfl (Ev.cons g Ev.nil) (yL (st:=⟨loc,hp⟩) h h1 h2 h3 hZ λay v u hv hc=>X.nx (q ay v u hv hc)))
theorem vW(hs:sz d.length=ah)(ht:ot d 0 a t)(q:∀ay c fo op v,RS st.hp ay c fo op [] [] [] []->TV [op,c,fo] ay t v->HC ay c d (a+t.b.length)->X (bM lV (lU (aY old (k+7)))) ⟨[some (.bytes d),some (.ref c),some (.ref fo),some (.ref op),some (fW t v a)],ay⟩ (K AF (Rt Q st.loc) E) E):
 X (aY old (k+8) (.obj (.ref 641)) [.bytes d]) st Q E:=by
 refine gg λG k_=>?_
 obtain⟨h1,r,h2,h3⟩:=ht;refine k_ ?_;exact z' hs λhp c fo op R hc=>X.dm (X.call rfl rfl (yL (st:=⟨[some (.bytes d),some (.ref c),some (.ref fo),some (.ref op),none],hp⟩) hc h1 h2 h3 R.zs λay v u hv vD=>X.seq (q ay _ _ _ v (R.upd u) hv vD)))
theorem Qj(R:RS hp0 hp c fo op jS fl vs acc)(hv:TV [op,c,fo] hp (.o .BI) v)(hf:acc.isEmpty=aj->E p (hp++[.list []]))(hl:fl.length<4000)
 (q:acc.isEmpty=ah->X (ax (aY old (k+1)) (pure (.obj (.ref 634))) (aa (af 1) (pure []))) ⟨[some (.bytes d),some (.ref c),some (.ref fo),some (.ref op),some (fW (.o .BI) v p)],hp++[.list []]⟩ (λv s=>s.hp[fo]?=some (.list jS)/\X (O_ (aY old (k+1))) ⟨s.loc,s.hp.set fo (.list (jS++[v]))⟩ (Lp lV (lU (aY old (k+1))) QF E) E) E):
 X (bM lV (lU (aY old (k+1)))) ⟨[some (.bytes d),some (.ref c),some (.ref fo),some (.ref op),some (fW (.o .BI) v p)],hp⟩ QF E:=by
 rw[<-cj.empty R.vals] at hf q;have zf:sz jS.length=ah:=eJ (m:=4000) (by rw[R.ops.len];exact aT hl) rfl;obtain rfl:=hv.ON nofun;refine X.dt (t:=ah) rfl (λ_=>X.gF (Ev.eT (Ev.tV (Ev.call rfl (Ev.cons rfl Ev.nil) (lH hv)))) rfl (X.gF (t:=aj) rfl rfl (X.qp (eq_nil rfl R.g2 ⟨λe=>?_,λe=>?_⟩)))) nofun
 ·refine X.AJ (l0:=jS) rfl (iy R.g1 _) ((q e).mono (λv s h=>⟨jS,h.1,zf,X.nx (K.nx (X.nx (K.nx h.2)))⟩) λ_ _ e=>e)
 ·exact X.raise (x:="BI has operands") (by exact rfl) (hf e)
theorem Nf(hs:sz d.length=ah)(h0:ot d 0 0 (.o .q))(h1:ot d 1 2 (.a .i7))(h2:ot d 3 4 (.o .BI)):dW old (k+8) d (.fault 4):=λst Q E hf _=>by
 refine vW hs h0 λmh c fo op v R hv hc=>?_
 refine yz R hv hc rfl (by decide) λfw op w R hc=>?_
 refine Gg (k:=k+1) (Z:=[op,c,fo]) rfl hc h1 R.zs λsI v u3 hv hc=>Lp.nx ?_
 have R:=R.upd u3;show X (bM lV (lU (aY old (k+7)))) ⟨[some (.bytes d),some (.ref c),some (.ref fo),some (.ref op),some (fW (.a .i7) v 2)],sI⟩ _ _;refine X.dt (t:=ah) rfl (λ_=>X.nq (Ev.eT (Ev.tV (Ev.call rfl (Ev.cons rfl Ev.nil) (lH hv)))) rfl (X.AJ (l0:=[]) rfl R.g2 (X.call (vs:=[.ref c,fW (.a .i7) v 2,.bool aj]) rfl rfl (Fd (Z:=[op,c,fo]) hv R.zs λKN w u4 hw=>⟨[],u4.2 _ _ R.g2 aJ,rfl,X.nx (K.nx ?_)⟩)))) nofun;have R:=(R.upd u4.nil).CW hw;have hc:=(hc.upd u4 aJ).upd (Upd.set (S:=[op]) KN (.list ([]++[w])) (au.mpr rfl)) (ip R.n2);refine Gg (k:=k+1) (Z:=[op,c,fo]) rfl hc h2 R.zs λWs v u5 hv hc=>Lp.nx ?_
 have R:=R.upd u5;exact Qj (k:=k+6) R hv (λ_=>hf 4 rfl _ (R.u.trans (.push _ _))) (by decide) nofun
theorem yh(hs:sz d.length=ah)(h0:ot d 0 0 (.o .q))(h1:ot d 1 2 (.o .BI))(ht:HT d 4 ts)(hl:ts.length<1000)(hb:s8 d.length [] ts≠.bad)(hw:∀acc m,s8 d.length [] ts=.ok acc m->lC acc)
 (f1:∀m,s8 d.length [] ts=.f m->D=.fault m) (f2:∀acc m,s8 d.length [] ts=.ok acc m->dA (pk d m)=aj->D=.fault m) (f3:∀acc m,s8 d.length [] ts=.ok acc m->dA (pk d m)=ah->(∀i,m+2<=i->ei d i=ah->pT d i=aj)->D=.fault (m+1))
 (f4:∀acc m,s8 d.length [] ts=.ok acc m->dA (pk d m)=ah->∀i,m+2<=i->ei d i=ah->pT d i=ah->(∀j,m+2<=j->j<i->ei d j=ah->pT d j=aj)->
  ∃tl:TS,Toks d (i+2) tl/\yu tl/\tw tl<40/\tl.length<100/\v5 d.length (tl.length+1) [(du Op.q.b,[]),("BI",[td acc,.s ((d.drop (m+1)).take (i-1-(m+1)))])] [] tl=D):dW old (k+10) d D:=λst Q E hf q=>by
 refine vW (k:=k+2) hs h0 λmh c fo op v R hv hc=>?_
 refine yz (k:=k+2) R hv hc rfl (by decide) λfw op w R hc=>?_
 refine Gg (k:=k+3) (Z:=[op,c,fo]) rfl hc h1 R.zs λsI v u3 hv hc=>Lp.nx ?_
 have R:=R.upd u3;show X (bM lV (lU (aY old (k+9)))) ⟨[some (.bytes d),some (.ref c),some (.ref fo),some (.ref op),some (fW (.o .BI) v 2)],sI⟩ _ _;refine Qj (k:=k+8) R hv nofun (by decide) λ_=>?_
 have R:=R.upd (Upd.push sI (.list []));have back:∀{ay},Upd [c] (sI++[.list []]) ay->Upd [] st.hp ay:=λu=>R.u.mB (lX R.lc) u
 have hc:HC (sI++[.list []]) c d 4:=hc.push _;have key:=Io (old:=old) (k:=k) (E:=E) (st:=⟨[some (.bytes d),some (.ref c),some (.ref fo),some (.ref op),some (fW (.o .BI) v 2)],sI++[.list []]⟩) (Z:=[op,c,fo]) (Q:=λv s=>s.hp[fo]?=some (.list ([]++[w]))/\X (O_ (aY old (k+9))) ⟨s.loc,s.hp.set fo (.list ([]++[w]++[v]))⟩ (Lp lV (lU (aY old (k+9))) (K AF (Rt Q st.loc) E) E) E) hc ht (.tail _ (aU ..)) R.zs hl hb (λm h ay u=>hf m (f1 m h) ay (back u)) hw (λacc m h e ay u=>hf m (f2 acc m h e) ay (back u)) (λacc m h e g ay u=>hf (m+1) (f3 acc m h e g) ay (back u));refine X.call (vs:=[.ref c]) rfl (by exact rfl) (key λacc m h e i hi he hB hj KN x u4 ZO ox=>?_);refine gg λG k_=>?_
 obtain⟨tl,t1,t2,t3,t4,t5⟩:=f4 acc m h e i hi he hB hj;refine k_ ?_;have R:=R.upd u4;refine⟨R.g1,?_⟩;have hc:=ZO.upd (Upd.set (S:=[fo]) KN (.list ([]++[w]++[x])) (au.mpr rfl)) (ip R.n1);have R:=R.Qa ox;refine Gh (k:=k+3) (Z:=[op,c,fo]) rfl hc t1 R.zs λWs tok u5 hd=>Lp.nx ?_
 exact ER (k:=k+2) hf (λl h Á ws u6 g o=>q l h Á fo ws u6 g o) (tl.length+1) tl Ws op _ [] _ [] tok (R.upd u5) hd ⟨t2,t3,by simp only[bE,aZ];exact bP t4 (by decide),aB (Nat.add_lt_add_left t4 2) (by decide),aO _⟩ t5
end
theorem eZ(h1:n+kB aj (d.drop n)=a)(h2:d.drop a=t.b++d.drop (a+t.b.length))(h3:(d.drop (a+t.b.length)).takeWhile gG=[]):ot d n a t:=⟨h1,_,h2,h3⟩
theorem HT.cons(h:ot d n a t)(h2:wx t=aj->HT d (a+t.b.length) ts):HT d n ((t,a)::ts):=⟨h.1,h.2,h2⟩
theorem Dk{m:Nat}(hs:sz d.length=ah)(h0:ot d 0 0 (.o .q))(h1:ot d 1 2 (.o .BI))(ht:HT d 4 ts)(hl:ts.length<1000)(hh:s8 d.length [] ts=.f m):dW old (k+10) d (.fault m):=
 yh hs h0 h1 ht hl (by rw[hh];exact nofun) (λ_ _ h=>by rw[hh] at h;cases h) (λm h=>by rw[hh] at h;cases h;rfl) (λ_ _ h=>by rw[hh] at h;cases h) (λ_ _ h=>by rw[hh] at h;cases h) λ_ _ h=>by rw[hh] at h;cases h
theorem VU(hs:sz ([113,10,55,32,66,73,32]++rest).length=ah):dW old (k+10) ([113,10,55,32,66,73,32]++rest) (.fault 4):=
 Nf (k:=k+2) hs (eZ (by kernel_rfl) (by kernel_rfl) (by kernel_rfl)) (eZ (by kernel_rfl) (by kernel_rfl) (by kernel_rfl)) (eZ (by kernel_rfl) (by kernel_rfl) (by kernel_rfl))
theorem VV(hs:sz ([113,10,66,73,32,55,32,47,87,32,55,32,47,65,32,110,117,108,108,32,73,68,10]++rest).length=ah):dW old (k+10) ([113,10,66,73,32,55,32,47,87,32,55,32,47,65,32,110,117,108,108,32,73,68,10]++rest) (.fault 5):=
 Dk (ts:=[(.a .i7,5),(.a .nW,7),(.a .i7,10),(.a .nA,12),(.a .nu,15),(.o .ID,20)]) hs (eZ (by kernel_rfl) (by kernel_rfl) (by kernel_rfl)) (eZ (by kernel_rfl) (by kernel_rfl) (by kernel_rfl))
  (.cons (eZ (by kernel_rfl) (by kernel_rfl) (by kernel_rfl)) λ_=>.cons (eZ (by kernel_rfl) (by kernel_rfl) (by kernel_rfl)) λ_=>.cons (eZ (by kernel_rfl) (by kernel_rfl) (by kernel_rfl)) λ_=>.cons (eZ (by kernel_rfl) (by kernel_rfl) (by kernel_rfl)) λ_=>.cons (eZ (by kernel_rfl) (by kernel_rfl) (by kernel_rfl)) λ_=>.cons (eZ (by kernel_rfl) (by kernel_rfl) (by kernel_rfl)) nofun) (by decide) (by kernel_rfl)
theorem VW(hs:sz ([113,10,66,73,32,47,87,32,55,32,47,65,32,110,117,108,108,32,47,87,32,73,68,10]++rest).length=ah):dW old (k+10) ([113,10,66,73,32,47,87,32,55,32,47,65,32,110,117,108,108,32,47,87,32,73,68,10]++rest) (.fault 21):=
 Dk (ts:=[(.a .nW,5),(.a .i7,8),(.a .nA,10),(.a .nu,13),(.a .nW,18),(.o .ID,21)]) hs (eZ (by kernel_rfl) (by kernel_rfl) (by kernel_rfl)) (eZ (by kernel_rfl) (by kernel_rfl) (by kernel_rfl))
  (.cons (eZ (by kernel_rfl) (by kernel_rfl) (by kernel_rfl)) λ_=>.cons (eZ (by kernel_rfl) (by kernel_rfl) (by kernel_rfl)) λ_=>.cons (eZ (by kernel_rfl) (by kernel_rfl) (by kernel_rfl)) λ_=>.cons (eZ (by kernel_rfl) (by kernel_rfl) (by kernel_rfl)) λ_=>.cons (eZ (by kernel_rfl) (by kernel_rfl) (by kernel_rfl)) λ_=>.cons (eZ (by kernel_rfl) (by kernel_rfl) (by kernel_rfl)) nofun) (by decide) (by kernel_rfl)
noncomputable def fE:List UInt8:=[113,10,66,73,32,47,87,32,55,32,47,65,32,110,117,108,108]
theorem Wy(h:HT (fE++(32::rest)) 17 ts):HT (fE++(32::rest)) 4 ((.a .nW,5)::(.a .i7,8)::(.a .nA,10)::(.a .nu,13)::ts):=
 .cons (eZ (by kernel_rfl) (by kernel_rfl) (by kernel_rfl)) λ_=>.cons (eZ (by kernel_rfl) (by kernel_rfl) (by kernel_rfl)) λ_=>.cons (eZ (by kernel_rfl) (by kernel_rfl) (by kernel_rfl)) λ_=>.cons (eZ (by kernel_rfl) (by kernel_rfl) (by kernel_rfl)) λ_=>h
theorem tq:ot (fE++(32::rest)) 0 0 (.o .q):=eZ (by kernel_rfl) (by kernel_rfl) (by kernel_rfl)
theorem X2:ot (fE++(32::rest)) 1 2 (.o .BI):=eZ (by kernel_rfl) (by kernel_rfl) (by kernel_rfl)
theorem VX(hs:sz (fE++(32::81::10::rest)).length=ah):dW old (k+10) (fE++(32::81::10::rest)) (.fault 18):=
 Dk hs tq X2 (Wy (ts:=[(.o .Q,18)]) (.cons (eZ (by kernel_rfl) (by kernel_rfl) (by kernel_rfl)) nofun)) (by simp) (by kernel_rfl)
theorem VZ:dW old (k+10) [113,10,66,73,32,47,87,32,55,32,48,32,82,32,47,65,32,110,117,108,108,32,73,68,32,120,10,69,73] (.fault 10):=
 Dk (ts:=[(.a .nW,5),(.a .i7,8),(.a .i0,10),(.o .R,12)]) (by decide) (eZ (by kernel_rfl) (by kernel_rfl) (by kernel_rfl)) (eZ (by kernel_rfl) (by kernel_rfl) (by kernel_rfl)) (.cons (eZ (by kernel_rfl) (by kernel_rfl) (by kernel_rfl)) λ_=>.cons (eZ (by kernel_rfl) (by kernel_rfl) (by kernel_rfl)) λ_=>.cons (eZ (by kernel_rfl) (by kernel_rfl) (by kernel_rfl)) λ_=>.cons (eZ (by kernel_rfl) (by kernel_rfl) (by kernel_rfl)) nofun) (by decide) (by kernel_rfl)
theorem V0:dW old (k+10) fE (.fault 17):=
 Dk (ts:=[(.a .nW,5),(.a .i7,8),(.a .nA,10),(.a .nu,13)]) (by decide) (eZ (by kernel_rfl) (by kernel_rfl) (by kernel_rfl)) (eZ (by kernel_rfl) (by kernel_rfl) (by kernel_rfl)) (.cons (eZ (by kernel_rfl) (by kernel_rfl) (by kernel_rfl)) λ_=>.cons (eZ (by kernel_rfl) (by kernel_rfl) (by kernel_rfl)) λ_=>.cons (eZ (by kernel_rfl) (by kernel_rfl) (by kernel_rfl)) λ_=>.cons (eZ (by kernel_rfl) (by kernel_rfl) (by kernel_rfl)) λ_=>by unfold HT;kernel_rfl) (by decide) (by kernel_rfl)
noncomputable def xu:List Tr:=[.a .nW,.a .i7,.a .nA,.a .nu]
theorem Ra:lC xu:=.c _ _ _ (.inr rfl) (.c _ _ _ (.inl rfl) .n)
theorem Ii(y:UInt8):s8 (fE++(32::73::68::y::rest)).length [] [(.a .nW,5),(.a .i7,8),(.a .nA,10),(.a .nu,13),(.o .ID,18)]=.ok xu 20:=by kernel_rfl
theorem VY(hs:sz (fE++(32::73::68::40::rest)).length=ah):dW old (k+10) (fE++(32::73::68::40::rest)) (.fault 20):=by
 have hh:=Ii (rest:=rest) 40;have hw:dA (pk (fE++(32::73::68::40::rest)) 20)=aj:=by kernel_rfl
 exact yh hs tq X2 (Wy (ts:=[(.o .ID,18)]) (.cons (eZ (by kernel_rfl) (by kernel_rfl) (by kernel_rfl)) nofun)) (by simp) (by rw[hh];exact nofun) (λ_ _ h=>by rw[hh] at h;cases h;exact Ra) (λm h=>by rw[hh] at h;cases h) (λ_ _ h _=>by rw[hh] at h;cases h;rfl) (λ_ _ h Cr=>by rw[hh] at h;cases h;rw[hw] at Cr;cases Cr) λ_ _ h Cr=>by rw[hh] at h;cases h;rw[hw] at Cr;cases Cr
theorem Qw(ed:d=fE++(32::73::68::10::rest))(hs:sz d.length=ah)(f3:(∀i,22<=i->ei d i=ah->pT d i=aj)->D=.fault 21)
 (f4:∀i,22<=i->ei d i=ah->pT d i=ah->(∀j,22<=j->j<i->ei d j=ah->pT d j=aj)->∃tl:TS,Toks d (i+2) tl/\yu tl/\tw tl<40/\tl.length<100/\v5 d.length (tl.length+1) [(du Op.q.b,[]),("BI",[td xu,.s ((d.drop 21).take (i-1-21))])] [] tl=D):dW old (k+10) d D:=by
 have hh:s8 d.length [] [(.a .nW,5),(.a .i7,8),(.a .nA,10),(.a .nu,13),(.o .ID,18)]=.ok xu 20:=by rw[ed];exact Ii 10
 have hw:dA (pk d 20)=ah:=by rw[ed];kernel_rfl
 refine yh (ts:=[(.a .nW,5),(.a .i7,8),(.a .nA,10),(.a .nu,13),(.o .ID,18)]) hs (by rw[ed];exact tq) (by rw[ed];exact X2) (by rw[ed];exact Wy (ts:=[(.o .ID,18)]) (.cons (eZ (by kernel_rfl) (by kernel_rfl) (by kernel_rfl)) nofun)) (by simp) (by rw[hh];exact nofun) (λ_ _ h=>by rw[hh] at h;cases h;exact Ra) (λm h=>by rw[hh] at h;cases h) (λ_ _ h Cr=>by rw[hh] at h;cases h;rw[hw] at Cr;cases Cr) (λ_ _ h _=>by rw[hh] at h;cases h;exact f3) λ_ _ h _=>by rw[hh] at h;cases h;exact f4
noncomputable def AL:List UInt8:=[69,73,120,40,32,10,81]
noncomputable def O9:List (List UInt8):=[[69],[73],[120],[40],[69,73,120],[32]]
noncomputable def tc(x:List UInt8)(l:List (List UInt8)):Bool:=l.any λa=>a==x
theorem rB(x:List UInt8):∀l:List (List UInt8),kQ x (l.map .bytes)=some (tc x l)
 |[]=>rfl
 |b::l=>by
  show(kQ x (l.map .bytes)).map (λr=>b==x||r)=_;rw[rB x l];rfl
theorem uO{l:List α}{b:Nat}:cut l (some (a:Int)) (some (b:Int))=(l.drop a).take (b-a):=by
 unfold cut;simp only[lB,qx];rcases xl l.length a with h|h
 ·rw[qu h,qe,kq h,Lx,Lx]
 ·rw[gA h];rcases xl l.length b with h2|h2
  ·rw[qu h2,fm (by rw[cB];exact aC _),fm (by rw[cB];exact Nat.sub_le_sub_right h2 _)]
  ·rw[gA h2]
section
variable{m s:Nat}{loc:List (Option PV)}
theorem Ev.WJ{x:List UInt8}(l:List (List UInt8)):Ev (fA .In (.bytes x) (.tup (l.map .bytes))) st (.bool (tc x l)):=by
 show Ip _ _ st=_;unfold Ip;rw[show s7 st (.bytes x) (.tup (l.map .bytes))=_ from rB x l]
theorem Ev.Sx{x:List UInt8}(l:List (List UInt8)):Ev (fA .NotIn (.bytes x) (.tup (l.map .bytes))) st (.bool (!tc x l)):=by
 show mG _ _ st=_;unfold mG;rw[show s7 st (.bytes x) (.tup (l.map .bytes))=_ from rB x l]
theorem Ev.Th(hs:sz d.length=ah){lo hi:PV}{x y:Option Int}(h1:k7 lo=some x)(h2:k7 hi=some y):Ev (lh old (.bytes d) lo hi) st (.bytes (cut d x y)):=by
 show mI (.bytes d) lo hi st=_;unfold mI;simp only[h1,h2,hs,if_true]
theorem ng{es:M (List PV)}{o:M PV}(wj:Ev es st [.bytes d])(hc:dW old (m+5) d (.fault n))(ho:∀ay,Upd [] st.hp ay->Ev o ⟨st.loc,ay⟩ (.int n))(q:∀ay,Upd [] st.hp ay->Q (.bool ah) ⟨st.loc,ay⟩):X (eC .Eq (ax (aY old (m+6)) (pure (.obj (.ref 707))) es) (bq (aa (pure (.str "fault")) (aa o (pure []))))) st Q E:=
 X.C (X.call rfl wj (u9 hc (λ_ h=>nomatch h) λay v u hv=>X.ev (Ev.tup (l:=[.str "fault",.int n]) (Ev.cons rfl (Ev.cons (ho ay u) Ev.nil)) rfl) (X.ev (rF (D:=.fault n) hv rfl (.refl _ _) λ_ h=>nomatch h) (q ay u))))
theorem qO:∀l:List (List UInt8),gD (l.map .bytes)=some l
 |[]=>rfl
 |x::l=>by
  show(gD (l.map .bytes)).map _=_;rw[qO l];rfl
theorem IB{l:List (List UInt8)}(g:st.hp[a]?=some (.list (l.map .bytes)))(z:l.length<=1000)(z2:l.flatten.length<=1000):Ev (aY old (k+1) (.obj (.builtin "bytes.join")) [.bytes [],.ref a]) st (.bytes l.flatten):=by
 show pF (.bytes []) (.ref a) st=_;unfold pF;simp only[g,qO,aW,show sz l.length=ah from decide_eq_true (by lia),show sz l.flatten.length=ah from decide_eq_true (by lia),if_true,and_self]
theorem NS:(O9.all λs=>decide (s.length<=3)&&s.all λb=>AL.contains b)=ah:=by kernel_rfl
theorem AW{es:M (List PV)}(wj:∀s,Ev es s (O9.map .bytes))(Yr:c≠j)(q:∀ay o (ss:List (List UInt8)),(∀s∈ss,s∈O9)->ss.length<=4->kj ay c->ay[j]?=some (.list (ss.map .bytes))->QS ⟨[o,some (.ref c)],ay⟩)(n:Nat):
 ∀(kf i:Nat) (o:Option PV) (hp:List PO) (ss:List (List UInt8)),n<kf->ss.length+n<=4->(∀s∈ss,s∈O9)->kj hp c->hp[j]?=some (.list (ss.map .bytes))->
 CX kf (.range (i:Nat) (n:Nat) 1) j (pure ah) (ax (aY old (k+2)) (pure (.obj (.ref 662))) (aa (af 1) (aa (eList es) (pure [])))) ⟨[o,some (.ref c)],hp⟩ QS:=by
 induction n with
 |zero=>
  intro kf i o hp ss hk hl hs g5 g;cases kf with
  |zero=>cases hk
  |succ kf=>exact CX.end_ rfl (q hp o ss hs hl g5 g)
 |succ n ih=>
  intro kf i o hp ss hk hl hs g5 g;cases kf with
  |zero=>cases hk
  |succ kf=>
   refine CX.step FN (X.ev (a:=ah) rfl (Cn rfl (lM (l:=O9.map .bytes) (c:=c) g5 (by exact rfl) (wj _) (by decide) (by decide) λv hv ay u tf=>?_)));obtain⟨s,Ã,rfl⟩:=bD.mp hv;have g':=u.2 _ _ g (ip Yr.symm);have oQ:kj (ay.set j (.list (ss.map .bytes++[.bytes s]))) c:=by
    obtain⟨x,y,gp⟩:=tf;exact⟨x,y,(Upd.set (S:=[j]) _ _ (au.mpr rfl)).2 _ _ gp (ip Yr)⟩
   exact⟨ss.map .bytes,g',eJ (m:=4) (by rw[aW];exact ai (aF _ _) hl) rfl,ih kf (i+1) _ _ (ss++[s]) (bJ hk) (by rw[av,bk,aN,bz 1];exact hl) (λx hx=>(cx.mp hx).elim (hs x) λh=>by rw[au.mp h];exact Ã) oQ (by rw[cw];exact bb (ak.mp g').1)⟩
theorem Ia(ss:List (List UInt8))(h:∀s∈ss,s∈O9):ss.flatten.length<=3*ss.length/\∀b∈ss.flatten,b∈AL:=by
 induction ss with
 |nil=>exact⟨aC _,λ_ h=>absurd h aJ⟩
 |cons s ss ih=>
  obtain⟨h1,h2⟩:=ih λx hx=>h x (aM _ hx)
  have hs:=a6.mp NS s (h s (aU ..));rw[aI] at hs;refine⟨by rw[pb,av,bz];exact bQ h1 (of_decide_eq_true hs.1),λb hb=>?_⟩;rw[pb] at hb;exact(cx.mp hb).elim (λhb=>fB.mp (a6.mp hs.2 b hb)) (h2 b)
end
def lend(d:List UInt8)(a:Nat):Bool:=rP (pk d a) [10,32]&&(((d.drop (a+1)).take 2==[69,73])&&tc ((d.drop (a+3)).take 1) [[],[32],[10]])
theorem Kh:(AL.all λb=>dA b.toNat==rP b.toNat [10,32]&&(tc [b] [[],[32],[10]]==dA b.toNat))=ah:=by kernel_rfl
theorem lend_eq(hA:∀(n:Nat) (b:UInt8),21<=n->d[n]?=some b->b∈AL)(h1:21<=a)(h2:a+3<=d.length):lend d a=(ei d (a+1)&&pT d (a+1)):=by
 have e1:=bp (aB (de (by decide)) h2);have k1:=a6.mp Kh _ (hA a _ h1 e1);rw[aI,beq_iff_eq] at k1;have w1:rP (pk d a) [10,32]=dA (pk d a):=by rw[nI e1];exact k1.1.symm
 have w2:tc ((d.drop (a+3)).take 1) [[],[32],[10]]=((a+1+2==d.length)||dA (pk d (a+1+2))):=by
  rcases Nat.eq_or_lt_of_le h2 with h|h
  ·rw[show(a+1+2==d.length)=ah from beq_iff_eq.mpr h,kq (bI h.symm)];rfl
  ·have e3:=bp h;have k3:=a6.mp Kh _ (hA (a+3) _ (ai h1 (aF _ _)) e3);rw[aI,beq_iff_eq,beq_iff_eq] at k3;rw[show(a+1+2==d.length)=aj from beq_eq_false_iff_ne.mpr (aL h),Lq,nI e3,<-k3.2,fZ h];rfl
 unfold lend pT ei;rw[w1,w2,n4];cases dA (pk d a)<;>cases((d.drop (a+1)).take 2==[69,73])<;>rfl
def CV(old:Old):M Bool:=(bY (tC .In (bt (af 1) (af 0)) (bq (aa (pure (.int 10)) (aa (pure (.int 32)) (pure []))))) (bY (tC .Eq (iB old (af 1) (eB .Add (af 0) (pure (.int 1))) (eB .Add (af 0) (pure (.int 3)))) (pure (.bytes [69,73]))) (bY (tC .In (iB old (af 1) (eB .Add (af 0) (pure (.int 3))) (eB .Add (af 0) (pure (.int 4)))) (bq (aa (pure (.bytes [])) (aa (pure (.bytes [32])) (aa (pure (.bytes [10])) (pure [])))))) (pure ah))))
def PX(old:Old)(ap:Ap):M PF:=(aq (bg (eList (aa (bq (aa (pure (.str "q")) (aa (bq (pure [])) (pure [])))) (aa (bq (aa (pure (.str "BI")) (aa (bq (aa (bq (aa (pure (.str "dict")) (aa (bq (aa (pure (.str "W")) (aa (bq (aa (pure (.str "int")) (aa (pure (.int 7)) (pure [])))) (pure [])))) (pure [])))) (aa (bq (aa (pure (.str "string")) (aa (iB old (af 5) (af 7) (bt (af 8) (pure (.int 0)))) (pure [])))) (pure [])))) (pure [])))) (pure [])))) (aX 9)) (aq (bw (eC .Eq (ax ap (pure (.obj (.ref 707))) (aa (af 5) (pure []))) (bq (aa (pure (.str "ok")) (aa (eB .Add (af 9) (eB .Mult (eList (aa (bq (aa (pure (.str "Q")) (aa (bq (pure [])) (pure [])))) (pure []))) (ax ap (pure (.obj (.type "int"))) (aa (eC .Eq (iB old (af 5) (eB .Add (bt (af 8) (pure (.int 0))) (pure (.int 3))) (pure .none)) (pure (.bytes [10,81]))) (pure []))))) (pure [])))))) (pure .next)))
def LY(old:Old)(ap:Ap):M PF:=(aq (cI (tC .NotIn (iB old (af 5) (eB .Add (bt (af 8) (pure (.int 0))) (pure (.int 3))) (pure .none)) (bq (aa (pure (.bytes [])) (aa (pure (.bytes [32])) (aa (pure (.bytes [10,81])) (pure [])))))) (aq (bw (pure (.bool ah))) (pure .next)) (pure .next)) (PX old ap))
def L4(old:Old)(ap:Ap):M PF:=(aq (bg (eB .Add (ax ap (pure (.obj (.builtin "len"))) (aa (eB .Add (af 3) (af 4)) (pure []))) (pure (.int 4))) (aX 7)) (aq (bg (fy [5] (mH (aa (af 7) (aa (eB .Sub (ax ap (pure (.obj (.builtin "len"))) (aa (af 5) (pure []))) (pure (.int 2))) (pure [])))) (CV old) (af 0)) (aX 8)) (aq (cI (tC .Eq (af 8) (eList (pure []))) (aq (bw (eC .Eq (ax ap (pure (.obj (.ref 707))) (aa (af 5) (pure []))) (bq (aa (pure (.str "fault")) (aa (af 7) (pure [])))))) (pure .next)) (pure .next)) (LY old ap))))
theorem UN(old:Old)(ap:Ap):L4 old ap=(aq (bg (eB .Add (ax ap (pure (.obj (.builtin "len"))) (aa (eB .Add (af 3) (af 4)) (pure []))) (pure (.int 4))) (aX 7)) (aq (bg (fy [5] (mH (aa (af 7) (aa (eB .Sub (ax ap (pure (.obj (.builtin "len"))) (aa (af 5) (pure []))) (pure (.int 2))) (pure [])))) (bY (tC .In (bt (af 1) (af 0)) (bq (aa (pure (.int 10)) (aa (pure (.int 32)) (pure []))))) (bY (tC .Eq (iB old (af 1) (eB .Add (af 0) (pure (.int 1))) (eB .Add (af 0) (pure (.int 3)))) (pure (.bytes [69,73]))) (bY (tC .In (iB old (af 1) (eB .Add (af 0) (pure (.int 3))) (eB .Add (af 0) (pure (.int 4)))) (bq (aa (pure (.bytes [])) (aa (pure (.bytes [32])) (aa (pure (.bytes [10])) (pure [])))))) (pure ah)))) (af 0)) (aX 8)) (aq (cI (tC .Eq (af 8) (eList (pure []))) (aq (bw (eC .Eq (ax ap (pure (.obj (.ref 707))) (aa (af 5) (pure []))) (bq (aa (pure (.str "fault")) (aa (af 7) (pure [])))))) (pure .next)) (pure .next)) (aq (cI (tC .NotIn (iB old (af 5) (eB .Add (bt (af 8) (pure (.int 0))) (pure (.int 3))) (pure .none)) (bq (aa (pure (.bytes [])) (aa (pure (.bytes [32])) (aa (pure (.bytes [10,81])) (pure [])))))) (aq (bw (pure (.bool ah))) (pure .next)) (pure .next)) (aq (bg (eList (aa (bq (aa (pure (.str "q")) (aa (bq (pure [])) (pure [])))) (aa (bq (aa (pure (.str "BI")) (aa (bq (aa (bq (aa (pure (.str "dict")) (aa (bq (aa (pure (.str "W")) (aa (bq (aa (pure (.str "int")) (aa (pure (.int 7)) (pure [])))) (pure [])))) (pure [])))) (aa (bq (aa (pure (.str "string")) (aa (iB old (af 5) (af 7) (bt (af 8) (pure (.int 0)))) (pure [])))) (pure [])))) (pure [])))) (pure [])))) (aX 9)) (aq (bw (eC .Eq (ax ap (pure (.obj (.ref 707))) (aa (af 5) (pure []))) (bq (aa (pure (.str "ok")) (aa (eB .Add (af 9) (eB .Mult (eList (aa (bq (aa (pure (.str "Q")) (aa (bq (pure [])) (pure [])))) (pure []))) (ax ap (pure (.obj (.type "int"))) (aa (eC .Eq (iB old (af 5) (eB .Add (bt (af 8) (pure (.int 0))) (pure (.int 3))) (pure .none)) (pure (.bytes [10,81]))) (pure []))))) (pure [])))))) (pure .next))))))):=rfl
noncomputable def U8:List UInt8:=[66,73,32,47,87,32,55,32,47,65,32,110,117,108,108]
def LX(o0 o1 o2:Option PV)(d:List UInt8)(o6 o7 o8 o9:Option PV):List (Option PV):=[o0,o1,o2,some (.bytes [113,10]),some (.bytes U8),some (.bytes d),o6,o7,o8,o9]
def K6(d:List UInt8)(N:Nat):List (PV×Option PV):=(d_ 21 N).map λa:Nat=>(.int a,if lend d a then some (.int a) else none)
theorem Jo(d:List UInt8)(N:Nat):(K6 d N).filterMap (·.2)=((d_ 21 N).filter (lend d)).map λa:Nat=>PV.int a:=by
 unfold K6;induction d_ 21 N with
 |nil=>rfl
 |cons a l ih=>
  simp only[bH,jY];cases q:lend d a with
  |true=>rw[cR];dsimp only[if_true];rw[ih];rfl
  |false=>rw[cR];dsimp only[cJ,if_false];exact ih
theorem K9{S:List PO->Prop}:∀n i:Nat,Sq S (.range (i:Nat) (n:Nat) 1) ((d_ i n).map λa:Nat=>PV.int a)
 |0,i=>λst _=>rfl
 |n+1,i=>⟨_,λst _=>FN,K9 n (i+1)⟩
section
variable{m s:Nat}{loc:List (Option PV)}{o0 o9:Option PV}
theorem Td{b:Nat}:bu (a:Int) (b:Int) 1=((b-a:Nat):Int):=by
 unfold bu;rw[if_pos (by decide)];split
 ·rename_i h;simp only[Int.ediv_one,Int.sub_add_cancel,nR (aT (dq.mp h))]
 ·rename_i h;rw[lQ (fY.mp (kD.mp h))];rfl
theorem Jl{b:Nat}(ha:a<1000000)(hb:b<1000000):Ev (g9 [.int a,.int b]) st (.range (a:Nat) (b-a:Nat) 1):=by
 show(if(cg (a:Int)&&cg (b:Int))=ah then R.ok (It.range a (bu a b 1) 1) st else R.bad)=_;have e1:cg (a:Int)=ah:=decide_eq_true (by lia);have e2:cg (b:Int)=ah:=decide_eq_true (by lia);rw[Td,e1,e2];rfl
theorem Tz(hs:sz d.length=ah)(h:a+3<=d.length):Ev (CV old) ⟨[some (.int a),some (.bytes d)],hp⟩ (lend d a):=by
 have e:=bp (aB (de (by decide)) h);have s0:Ev (bt (af 1) (af 0)) ⟨[some (.int a),some (.bytes d)],hp⟩ (.int (pk d a)):=by
  rw[nI e];exact Ev.sub (by exact rfl) (by exact rfl) (Ev.subB hs e)
 have s1:Ev (iB old (af 1) (eB .Add (af 0) (pure (.int 1))) (eB .Add (af 0) (pure (.int 3)))) ⟨[some (.int a),some (.bytes d)],hp⟩ (.bytes ((d.drop (a+1)).take 2)):=
  (Ev.sl (by exact rfl) (Ev.B (by exact rfl) rfl Ev.gW) (Ev.B (by exact rfl) rfl Ev.gW) (Ev.Th hs rfl rfl)).of (by rw[uO,show a+3-(a+1)=2 from As a 3 1])
 have s2:Ev (iB old (af 1) (eB .Add (af 0) (pure (.int 3))) (eB .Add (af 0) (pure (.int 4)))) ⟨[some (.int a),some (.bytes d)],hp⟩ (.bytes ((d.drop (a+3)).take 1)):=
  (Ev.sl (by exact rfl) (Ev.B (by exact rfl) rfl Ev.gW) (Ev.B (by exact rfl) rfl Ev.gW) (Ev.Th hs rfl rfl)).of (by rw[uO,show a+4-(a+3)=1 from As a 4 3])
 exact(Ev.bY (Ev.tC s0 (Ev.tup (l:=[10,32].map .int) rfl rfl) (Ev.UG [10,32])) λ_=>Ev.bY (Ev.tC s1 rfl Ev.eqB) λ_=>Ev.bY (Ev.tC s2 (Ev.tup (l:=[[],[32],[10]].map .bytes) rfl rfl) (Ev.WJ [[],[32],[10]])) λ_=>Ev.pu).of (by rw[mS];rfl)
end
def OB(d:List UInt8)(a:Nat):Str×List Tr:=("BI",[td xu,.s ((d.drop 21).take (a-21))])
def G2:Str×List Tr:=(du Op.q.b,[])
def Kd:Str×List Tr:=(du Op.Q.b,[])
def Ho(d:List UInt8)(a:Nat):List (Str×List Tr):=[G2,OB d a]++if(d.drop (a+3)==[10,81])=ah then[Kd] else[]
theorem OC:di G2=.tup [.str "q",.tup []]:=by kernel_rfl
theorem Oz:di Kd=.tup [.str "Q",.tup []]:=by kernel_rfl
theorem Oy(d:List UInt8)(a:Nat):di (OB d a)=.tup [.str "BI",.tup [.tup [.str "dict",.tup [.str "W",.tup [.str "int",.int 7]]],.tup [.str "string",.bytes ((d.drop 21).take (a-21))]]]:=by kernel_rfl
theorem My(d:List UInt8)(a:Nat):(Ho d a).length<=3/\∀x∈Ho d a,iI x.2<=2/\x.2.length<=2:=by
 have h1:iI G2.2<=2/\G2.2.length<=2:=by decide+kernel
 have h2:iI Kd.2<=2/\Kd.2.length<=2:=by decide+kernel
 have h3:iI (OB d a).2<=2/\(OB d a).2.length<=2:=by
  have:(td xu).wt=2:=by kernel_rfl
  refine⟨?_,aC _⟩;show iI [td xu,_]<=2;simp only[iI,this,Tr.wt];decide
 unfold Ho;cases(d.drop (a+3)==[10,81])
 ·exact⟨bX _,dN.mpr ⟨h1,dN.mpr ⟨h3,λ_ h=>nomatch h⟩⟩⟩
 ·exact⟨aC _,dN.mpr ⟨h1,dN.mpr ⟨h3,dN.mpr ⟨h2,λ_ h=>nomatch h⟩⟩⟩⟩
theorem TF(h2:a+3<=d.length)(ht:tc (d.drop (a+3)) [[],[32],[10,81]]=ah):∃tl:TS,Toks d (a+3) tl/\yu tl/\tw tl<40/\tl.length<100/\v5 d.length (tl.length+1) [G2,OB d a] [] tl=.ok (Ho d a):=by
 have len:∀{w},w=d.drop (a+3)->a+3+w.length=d.length:=λe=>by rw[e,cB,iW h2]
 unfold Ho;simp only[tc,jF,xc,gq,iF,beq_iff_eq] at ht;rcases ht with h|h|h
 ·rw[<-h];refine⟨[],?_,nofun,by decide,by decide,rfl⟩;show a+3+kB aj (d.drop (a+3))=d.length;rw[<-h];exact len h
 ·rw[<-h];refine⟨[],?_,nofun,by decide,by decide,rfl⟩;show a+3+kB aj (d.drop (a+3))=d.length;rw[<-h];exact len h
 ·rw[<-h];have h4:d.drop (a+4)=[81]:=by rw[show a+4=a+3+1 from rfl,<-cK,<-h];rfl
  refine⟨[(.o .Q,a+4)],⟨?_,⟨[],h4,rfl⟩,?_⟩,λz hz=>?_,cW rfl,cW rfl,rfl⟩
  ·rw[<-h];rfl
  ·show a+4+1+kB aj (d.drop (a+4+1))=d.length;rw[<-cK,h4];exact len h
  ·cases hz with
   |tail _ hz=>cases hz
section
variable{m s:Nat}{loc:List (Option PV)}{o0 o9:Option PV}{l:List PV}
theorem IM{x:PV}{b:Bool}(g:st.hp[c]?=some (.list [x]))(q:∀ay,Upd [] st.hp ay->ay[st.hp.length]?=some (.list (if b=ah then[x] else[]))->Q (.ref st.hp.length) ⟨st.loc,ay⟩):X (iP .Mult (.ref c) (.int (if b=ah then 1 else 0))) st Q E:=by
 refine X.ok (a:=.ref st.hp.length) (s:=⟨st.loc,st.hp++[.list (if b=ah then[x] else[])]⟩) ?_ (q _ (.push _ _) (gl _ _));show BC (.ref c) (.int (if b=ah then 1 else 0)) st=_;unfold BC;dsimp only;rw[g];cases b<;>rfl
theorem N0(hs:sz d.length=ah)(hl:d.length<=100)(h2:a+3<=d.length)(hE:hp[c]?=some (.list l))(hz:l.length<1000)(h0:l[0]?=some (.int a))(hc:dW old (k+41) d (.ok (Ho d a)))
 (q:∀ay,Upd [] hp ay->Q (.bool ah) ⟨loc,ay⟩):X (PX old (aY old (k+42))) ⟨LX o0 o1 o2 d o6 (some (.int (21:Nat))) (some (.ref c)) o9,hp⟩ (Rt Q loc) E:=by
 have a0:∀(o9:Option PV) ay,Upd [] hp ay->Ev (bt (af 8) (pure (.int 0))) ⟨LX o0 o1 o2 d o6 (some (.int (21:Nat))) (some (.ref c)) o9,ay⟩ (.int a):=λo9 ay u=>Ev.sub (by exact rfl) rfl (Ev.nL (j:=0) (u.2 _ _ hE nofun) (eJ (aT hz) rfl) h0)
 have ú:Ev (iB old (af 5) (af 7) (bt (af 8) (pure (.int 0)))) ⟨LX o0 o1 o2 d o6 (some (.int (21:Nat))) (some (.ref c)) o9,hp⟩ (.bytes ((d.drop 21).take (a-21))):=
  (Ev.sl (by exact rfl) (by exact rfl) (a0 _ _ (.refl _ _)) (Ev.Th hs rfl rfl)).of (by rw[uO])
 refine X.dm (X.list (l:=[G2,OB d a].map di) (by
  rw[bH,bH,OC,Oy];exact Ev.cons (by exact rfl) (Ev.cons (Ev.tup (Ev.cons rfl (Ev.cons (Ev.tup (Ev.cons (by exact rfl) (Ev.cons (Ev.tup (Ev.cons rfl (Ev.cons ú Ev.nil)) rfl) Ev.nil)) rfl) Ev.nil)) rfl) Ev.nil)) rfl ?_)
 have g0:=gl hp (.list ([G2,OB d a].map di));have u0:Upd [] hp _:=.push _ (.list ([G2,OB d a].map di));show X _ ⟨LX o0 o1 o2 d o6 (some (.int (21:Nat))) (some (.ref c)) (some (.ref hp.length)),hp++[PO.list ([G2,OB d a].map di)]⟩ _ _;generalize hp++[PO.list ([G2,OB d a].map di)]=h1 at g0 u0⊢;obtain⟨d1,d2⟩:=My d a;refine X.ret (X.C (X.call (vs:=[.bytes d]) rfl (by exact rfl) (u9 (m:=k+36) hc (λl e=>by cases e;exact⟨aA d1 (by decide),λx hx=>⟨ai (d2 x hx).1 (aQ 2 (k+34)),aA (d2 x hx).2 (by decide)⟩⟩) λh2 v u2 hv=>?_)));refine X.tup (X.jz rfl (X.cX (X.B (X.ev (a:=.ref hp.length) (by exact rfl) (X.B (X.list (l:=[di Kd]) (by rw[Oz];exact rfl) rfl (X.ev (a:=.int (if(d.drop (a+3)==[10,81])=ah then 1 else 0)) ?_ (IM (gl _ _) λh3 u3 g3=>?_))))))))
 ·exact Ev.call (vs:=[.bool (d.drop (a+3)==[10,81])]) rfl (Ev.cons (Ev.C ((Ev.sl (by exact rfl) (Ev.B (a0 _ _ (u0.trans (u2.trans (.push _ _)))) rfl Ev.gW) rfl (Ev.Th hs rfl rfl)).of (by rw[qU])) rfl Ev.eqB) Ev.nil) rfl
 have u4:=u2.trans ((Upd.push h2 (.list [di Kd])).trans u3);refine qD (st:=⟨_,h3⟩) (u4.2 _ _ g0 nofun) g3 (by rw[aW];cases(d.drop (a+3)==[10,81])<;>simp) (X.ev (a:=[]) rfl ⟨rfl,X.ev (rF (D:=.ok (Ho d a)) hv ⟨h3.length,rfl,?_,?_⟩ ((Upd.push h2 (.list [di Kd])).trans (u3.trans (.push _ _))) λl e x hx=>?_) (Rt.rt (q _ (u0.trans (u4.trans (.push _ _)))))⟩)
 ·exact((Upd.push h2 (.list [di Kd])).trans u3).1
 ·rw[gl];unfold Ho;rw[cw];cases(d.drop (a+3)==[10,81])<;>rfl
 ·cases e
  exact ai (d2 x hx).1 (by decide)
theorem Mt(ed:d=fE++(32::73::68::10::rest))(hs:sz d.length=ah)(hA:∀(n:Nat) (b:UInt8),21<=n->d[n]?=some b->b∈AL)(h1:21<=a)(h2:a+3<=d.length)(ha:lend d a=ah)(hj:∀j,21<=j->j<a->lend d j=aj)(ht:tc (d.drop (a+3)) [[],[32],[10,81]]=ah):dW old (k+10) d (.ok (Ho d a)):=by
 have he:=(lend_eq hA h1 h2).symm.trans ha;rw[aI] at he;refine Qw ed hs (λh=>?_) λi hi e1 e2 e3=>?_
 ·have:=h (a+1) (e9 h1) he.1;rw[he.2] at this;cases this
 ·have Uy:=oF e1;have Zz:i=a+1:=by
   rcases Nat.lt_trichotomy i (a+1) with h|h|h
   ·cases i with
    |zero=>cases hi
    |succ i=>
     have h3:=hj i (bW hi) (bJ h);rw[lend_eq hA (bW hi) Uy,e1,e2] at h3;cases h3
   ·exact h
   ·have:=e3 (a+1) (e9 h1) h he.1;rw[he.2] at this;cases this
  subst Zz;exact TF h2 ht
theorem Ms(ed:d=fE++(32::73::68::10::rest))(hs:sz d.length=ah)(hA:∀(n:Nat) (b:UInt8),21<=n->d[n]?=some b->b∈AL)(hj:∀j,21<=j->j+3<=d.length->lend d j=aj):dW old (k+10) d (.fault 21):=by
 refine Qw ed hs (λ_=>rfl) λi hi e1 e2 e3=>?_
 have Uy:=oF e1;cases i with
 |zero=>cases hi
 |succ i=>
  have h3:=hj i (bW hi) Uy;rw[lend_eq hA (bW hi) Uy,e1,e2] at h3;cases h3
theorem Nw(ed:d=fE++(32::73::68::10::rest))(hs:sz d.length=ah)(hl:d.length<=100)(hA:∀(n:Nat) (b:UInt8),21<=n->d[n]?=some b->b∈AL)(h1:21<=a)(h2:a+3<=d.length)(ha:lend d a=ah)(hj:∀j,21<=j->j<a->lend d j=aj)(hE:hp[c]?=some (.list l))(hz:l.length<1000)(h0:l[0]?=some (.int a))
 (q:∀ay,Upd [] hp ay->Q (.bool ah) ⟨loc,ay⟩):X (LY old (aY old (k+42))) ⟨LX o0 o1 o2 d o6 (some (.int (21:Nat))) (some (.ref c)) o9,hp⟩ (Rt Q loc) E:=by
 have a0:Ev (bt (af 8) (pure (.int 0))) ⟨LX o0 o1 o2 d o6 (some (.int (21:Nat))) (some (.ref c)) o9,hp⟩ (.int a):=Ev.sub (by exact rfl) rfl (Ev.nL (j:=0) hE (eJ (aT hz) rfl) h0);have s1:Ev (iB old (af 5) (eB .Add (bt (af 8) (pure (.int 0))) (pure (.int 3))) (pure .none)) ⟨LX o0 o1 o2 d o6 (some (.int (21:Nat))) (some (.ref c)) o9,hp⟩ (.bytes (d.drop (a+3))):=
  (Ev.sl (by exact rfl) (Ev.B a0 rfl Ev.gW) rfl (Ev.Th hs rfl rfl)).of (by rw[qU])
 have hc:=Ev.tC (op:=.NotIn) s1 (Ev.tup (es:=aa (pure (.bytes [])) (aa (pure (.bytes [32])) (aa (pure (.bytes [10,81])) (pure [])))) (l:=[[],[32],[10,81]].map .bytes) rfl rfl) (Ev.Sx [[],[32],[10,81]]);cases h:tc (d.drop (a+3)) [[],[32],[10,81]] with
 |false=>
  rw[h] at hc;exact X.tt hc (X.c6 rfl (K.rt (Rt.rt (q hp (.refl _ _)))))
 |true=>
  rw[h] at hc;exact X.ff hc (N0 hs hl h2 hE hz h0 (Mt (k:=k+31) ed hs hA h1 h2 ha hj h) q)
theorem jn(h:21<=j):j<21+(n-2-21)↔j+3<=n:=by
 rw[Nat.sub_sub];show j<21+(n-23)↔_;by_cases c:23<=n
 ·obtain⟨m,rfl⟩:=Nat.exists_eq_add_of_le' c;rw[n4,bz 21];exact(Nat.add_le_add_iff_right (n:=2)).symm
 ·rw[lQ (aT (Nat.lt_of_not_le c))];exact⟨λq=>absurd q (f9 h),λq=>absurd (ai (bR h 3) q) λz=>c (ai (by decide) z)⟩
inductive Um(d:List UInt8):List Nat->Prop
 |no (h:∀j,21<=j->j+3<=d.length->lend d j=aj):Um d []
 |at_ (a:Nat) (F:List Nat) (h1:21<=a) (h2:a+3<=d.length) (h3:lend d a=ah) (h4:∀j,21<=j->j<a->lend d j=aj):Um d (a::F)
theorem Ð(hl:21<=d.length):Um d ((d_ 21 (d.length-2-21)).filter (lend d)):=by
 have hm:∀j,j∈d_ 21 (d.length-2-21)↔21<=j/\j+3<=d.length:=λj=>by
  rw[CE];exact and_congr_right jn
 have hh:=List.head?_filter (p:=lend d) (l:=d_ 21 (d.length-2-21));cases hf:(d_ 21 (d.length-2-21)).find? (lend d) with
 |none=>
  have h:=List.find?_eq_none.mp hf;rw[xd.mpr h];exact .no λj h1 h2=>Bool.eq_false_iff.mpr (h j ((hm j).mpr ⟨h1,h2⟩))
 |some a=>
  obtain⟨h2,h3,h4⟩:=List.find?_range'_eq_some.mp hf;rw[hf] at hh;generalize(d_ 21 (d.length-2-21)).filter (lend d)=F at hh⊢;cases F with
  |nil=>exact nS hh
  |cons b F=>
   cases hh
   exact .at_ _ _ ((hm _).mp h3).1 ((hm _).mp h3).2 h2 λj h5 h6=>(gL _).mp (h4 j h5 h6)
theorem Ou{F:List Nat}(ed:d=fE++(32::73::68::10::rest))(hs:sz d.length=ah)(hl:d.length<=100)(hA:∀(n:Nat) (b:UInt8),21<=n->d[n]?=some b->b∈AL)(hF:Um d F)(g1:hp[c]?=some (.list (F.map λa:Nat=>PV.int a)))(hz:(F.map λa:Nat=>PV.int a).length<1000)(q:∀ay,Upd [] hp ay->Q (.bool ah) ⟨loc,ay⟩):
 X (aq (cI (tC .Eq (af 8) (eList (pure []))) (aq (bw (eC .Eq (ax (aY old (k+42)) (pure (.obj (.ref 707))) (aa (af 5) (pure []))) (bq (aa (pure (.str "fault")) (aa (af 7) (pure [])))))) (pure .next)) (pure .next)) (LY old (aY old (k+42)))) ⟨LX o0 o1 o2 d o6 (some (.int (21:Nat))) (some (.ref c)) none,hp⟩ (Rt Q loc) E:=by
 refine X.qp (eq_nil (c:=c) (by exact rfl) g1 ?_);cases hF with
 |no Ru=>exact⟨λ_=>X.ret (ng (n:=21) (m:=k+36) (st:=⟨_,hp++[.list []]⟩) (by exact rfl) (Ms (k:=k+31) ed hs hA Ru) (λay _=>by exact rfl) λay u=>K.rt (Rt.rt (q ay ((Upd.push _ _).trans u)))),λe=>nomatch e⟩
 |at_ a F h1 h2 h3 h4=>exact⟨(λe=>nomatch e),λ_=>X.nx (K.nx (Nw ed hs hl hA h1 h2 h3 h4 (iy g1 _) hz rfl λay u=>q ay ((Upd.push _ _).trans u)))⟩
theorem N9{x:PV×Option PV}(hs:sz d.length=ah)(hl:21<=d.length)(hx:x∈K6 d (d.length-2-21)):vJ (CV old) (af 0) [some (.bytes d)] hp x:=by
 obtain⟨a,ha,rfl⟩:=bD.mp hx;rw[CE] at ha;have h:=Tz (old:=old) (hp:=hp) hs ((jn ha.1).mp ha.2);unfold vJ;cases e:lend d a with
 |true=>exact⟨by rw[e] at h;exact h,λp hp=>by cases hp;exact rfl⟩
 |false=>exact⟨by rw[e] at h;exact h,λp hp=>nS hp⟩
theorem N_{S:List PO->Prop}(d:List UInt8)(n:Nat):Sq S (.range (21:Nat) (n:Nat) 1) ((K6 d n).map (·.1)):=by
 have:(K6 d n).map (·.1)=(d_ 21 n).map λa:Nat=>PV.int a:=by unfold K6;rw[kr];rfl
 rw[this];exact K9 _ 21
theorem Ot(ed:d=fE++(32::73::68::10::rest))(hs:sz d.length=ah)(hl:d.length<=100)(hA:∀(n:Nat) (b:UInt8),21<=n->d[n]?=some b->b∈AL)
 (q:∀ay,Upd [] hp ay->Q (.bool ah) ⟨loc,ay⟩):X (L4 old (aY old (k+42))) ⟨LX o0 o1 o2 d o6 none none none,hp⟩ (Rt Q loc) E:=by
 have Rn:21<=d.length:=by rw[ed,av];exact bQ (aC 17) (aQ 4 _)
 have hn:d.length-2-21<1000:=aA (dU ..) (aA (dU ..) (aA hl (by decide)));refine X.hY (v:=.int (21:Nat)) (by exact rfl) ?_;show X _ ⟨LX o0 o1 o2 d o6 (some (.int (21:Nat))) none none,hp⟩ _ _;have r1:Ev (mH (aa (af 7) (aa (eB .Sub (ax (aY old (k+42)) (pure (.obj (.builtin "len"))) (aa (af 5) (pure []))) (pure (.int 2))) (pure [])))) ⟨LX o0 o1 o2 d o6 (some (.int (21:Nat))) none none,hp⟩ (.range (21:Nat) (d.length-2-21:Nat) 1):=
  Ev.bind (a:=[.int (21:Nat),.int (d.length-2:Nat)]) (Ev.cons (by exact rfl) (Ev.cons (Ev.B (Ev.Bw (by exact rfl) hs) rfl (Ev.int (i:=(d.length:Int)-2) rfl (nR (ai (by decide) Rn)).symm)) Ev.nil)) (Jl (by decide) (aA (dU ..) (aA hl (by decide))))
 refine X.dm (X.Q0 (X.ev r1 ⟨K6 d (d.length-2-21),N_ d _,by unfold K6;rw[aW,Ce];exact hn,λx hx ay u=>N9 hs Rn hx,λh1 u1 g1=>?_⟩));rw[Jo] at g1;exact Ou (c:=hp.length) ed hs hl hA (Ð Rn) g1 (by rw[aW];exact aA (xh ..) (by rw[Ce];exact hn)) λay u=>q ay (u1.trans u)
end
def EO:M PV:=(eB .Add (pure (.bytes [113,10])) (m9 (tC .Eq (af 2) (pure (.int 1))) (pure (.bytes [55,32])) (pure (.bytes []))))
def EH:M PV:=(eB .Add (eB .Add (eB .Add (eB .Add (eB .Add (pure (.bytes [66,73,32])) (m9 (tC .Eq (af 2) (pure (.int 2))) (pure (.bytes [55,32])) (pure (.bytes [])))) (pure (.bytes [47,87,32,55,32]))) (m9 (tC .Eq (af 2) (pure (.int 7))) (pure (.bytes [48,32,82,32])) (pure (.bytes [])))) (pure (.bytes [47,65,32,110,117,108,108]))) (m9 (tC .Eq (af 2) (pure (.int 3))) (pure (.bytes [32,47,87])) (pure (.bytes []))))
def EP:M PV:=(eB .Add (eB .Add (eB .Add (eB .Add (af 3) (af 4)) (pure (.bytes [32]))) (m9 (tC .Eq (af 2) (pure (.int 4))) (pure (.bytes [81])) (pure (.bytes [73,68])))) (m9 (tC .Eq (af 2) (pure (.int 5))) (pure (.bytes [40])) (pure (.bytes [10]))))
def EL(ap:Ap):M (List PV):=(aa (pure (.int 0)) (aa (ax ap (pure (.obj (.builtin "len"))) (aa (af 3) (pure []))) (aa (eB .Add (ax ap (pure (.obj (.builtin "len"))) (aa (af 3) (pure []))) (pure (.int 3))) (aa (eB .Add (ax ap (pure (.obj (.builtin "len"))) (aa (eB .Add (af 3) (af 4)) (pure []))) (pure (.int 1))) (aa (eB .Add (ax ap (pure (.obj (.builtin "len"))) (aa (eB .Add (af 3) (af 4)) (pure []))) (pure (.int 1))) (aa (eB .Add (ax ap (pure (.obj (.builtin "len"))) (aa (eB .Add (af 3) (af 4)) (pure []))) (pure (.int 3))) (pure [])))))))
def EC:M Bool:=(XZ .Lt .Lt (pure (.int 0)) (af 2) (pure (.int 6)))
def P8(old:Old)(ap:Ap):M PF:=(aq (bg (eList (EL ap)) (aX 6)) (aq (cI EC (aq (bw (eC .Eq (ax ap (pure (.obj (.ref 707))) (aa (af 5) (pure []))) (bq (aa (pure (.str "fault")) (aa (bt (af 6) (af 2)) (pure [])))))) (pure .next)) (pure .next)) (L4 old ap)))
def P7(old:Old)(ap:Ap):M PF:=(aq (bg (eB .Add EP (af 1)) (aX 5)) (aq (cI (tC .NotEq (af 2) (pure (.int 6))) (aq (bg (eB .Add (eB .Add (af 5) (pure (.bytes [10,69,73]))) (ax ap (pure (.obj (.ref 662))) (aa (af 0) (aa (eList (aa (pure (.bytes [])) (aa (pure (.bytes [32])) (aa (pure (.bytes [10,81])) (pure []))))) (pure []))))) (aX 5)) (pure .next)) (pure .next)) (P8 old ap)))
theorem IZ(old:Old)(ap:Ap):Su old ap=(aq (bg (bV ap (pure (.bytes [])) "join" (aa (fy [0] (mH (aa (ax ap (pure (.obj (.ref 655))) (aa (af 0) (aa (pure (.int 5)) (pure [])))) (pure []))) (pure ah) (ax ap (pure (.obj (.ref 662))) (aa (af 1) (aa (eList (aa (pure (.bytes [69])) (aa (pure (.bytes [73])) (aa (pure (.bytes [120])) (aa (pure (.bytes [40])) (aa (pure (.bytes [69,73,120])) (aa (pure (.bytes [32])) (pure [])))))))) (pure []))))) (pure []))) (aX 1)) (aq (bg (ax ap (pure (.obj (.ref 655))) (aa (af 0) (aa (pure (.int 10)) (pure [])))) (aX 2)) (aq (bg EO (aX 3)) (aq (bg EH (aX 4)) (aq (cI (tC .Eq (af 2) (pure (.int 8))) (aq (bw (eC .Eq (ax ap (pure (.obj (.ref 707))) (aa (eB .Add (af 3) (af 4)) (pure []))) (bq (aa (pure (.str "fault")) (aa (ax ap (pure (.obj (.builtin "len"))) (aa (eB .Add (af 3) (af 4)) (pure []))) (pure [])))))) (pure .next)) (pure .next)) (aq (cI (tC .Eq (af 2) (pure (.int 7))) (aq (bw (eC .Eq (ax ap (pure (.obj (.ref 707))) (aa (eB .Add (eB .Add (af 3) (af 4)) (pure (.bytes [32,73,68,32,120,10,69,73]))) (pure []))) (bq (aa (pure (.str "fault")) (aa (eB .Add (ax ap (pure (.obj (.builtin "len"))) (aa (af 3) (pure []))) (pure (.int 8))) (pure [])))))) (pure .next)) (pure .next)) (P7 old ap))))))):=rfl
noncomputable def vk(b:Nat):List UInt8:=[113,10]++(if b=1 then[55,32] else[])
noncomputable def vE(b:Nat):List UInt8:=[66,73,32]++(if b=2 then[55,32] else[])++[47,87,32,55,32]++(if b=7 then[48,32,82,32] else[])++[47,65,32,110,117,108,108]++(if b=3 then[32,47,87] else[])
def oS(b:Nat):List UInt8:=vk b++vE b++[32]++(if b=4 then[81] else[73,68])++(if b=5 then[40] else[10])
def K3(b:Nat):List PV:=[.int 0,.int (vk b).length,.int ((vk b).length+3:Nat),.int ((vk b++vE b).length+1:Nat),.int ((vk b++vE b).length+1:Nat),.int ((vk b++vE b).length+3:Nat)]
theorem lt10{P:Nat->Prop}(h0:P 0)(h1:P 1)(h2:P 2)(h3:P 3)(h4:P 4)(h5:P 5)(h6:P 6)(h7:P 7)(h8:P 8)(h9:P 9){b:Nat}(h:b<10):P b:=by
 match b,h with
 |0,_=>exact h0
 |1,_=>exact h1
 |2,_=>exact h2
 |3,_=>exact h3
 |4,_=>exact h4
 |5,_=>exact h5
 |6,_=>exact h6
 |7,_=>exact h7
 |8,_=>exact h8
 |9,_=>exact h9
 |n+10,h=>exact absurd h (f9 (aQ 10 n))
section
variable{m s:Nat}{loc:List (Option PV)}{R body:List UInt8}{o0 o3 o5 o9:Option PV}{l:List PV}{b:Nat}
theorem QQ(hb:b<10):Ev EO ⟨[o0,o1,some (.int b),o3,o4,o5,o6,o7,o8,o9],hp⟩ (.bytes (vk b)):=
 lt10 (P:=λb=>Ev EO ⟨[o0,o1,some (.int b),o3,o4,o5,o6,o7,o8,o9],hp⟩ (.bytes (vk b))) rfl rfl rfl rfl rfl rfl rfl rfl rfl rfl hb
theorem QM(hb:b<10):Ev EH ⟨[o0,o1,some (.int b),o3,o4,o5,o6,o7,o8,o9],hp⟩ (.bytes (vE b)):=
 lt10 (P:=λb=>Ev EH ⟨[o0,o1,some (.int b),o3,o4,o5,o6,o7,o8,o9],hp⟩ (.bytes (vE b))) rfl rfl rfl rfl rfl rfl rfl rfl rfl rfl hb
theorem QT(hb:b<10):Ev EP ⟨[o0,o1,some (.int b),some (.bytes (vk b)),some (.bytes (vE b)),o5,o6,o7,o8,o9],hp⟩ (.bytes (oS b)):=
 lt10 (P:=λb=>Ev EP ⟨[o0,o1,some (.int b),some (.bytes (vk b)),some (.bytes (vE b)),o5,o6,o7,o8,o9],hp⟩ (.bytes (oS b))) rfl rfl rfl rfl rfl rfl rfl rfl rfl rfl hb
theorem QN(hb:b<10):Ev (EL (aY old (k+1))) ⟨[o0,o1,some (.int b),some (.bytes (vk b)),some (.bytes (vE b)),o5,o6,o7,o8,o9],hp⟩ (K3 b):=
 lt10 (P:=λb=>Ev (EL (aY old (k+1))) ⟨[o0,o1,some (.int b),some (.bytes (vk b)),some (.bytes (vE b)),o5,o6,o7,o8,o9],hp⟩ (K3 b)) rfl rfl rfl rfl rfl rfl rfl rfl rfl rfl hb
theorem Kv(hb:b<10):Ev EC ⟨[o0,o1,some (.int b),o3,o4,o5,o6,o7,o8,o9],hp⟩ (decide (0<b/\b<6)):=
 lt10 (P:=λb=>Ev EC ⟨[o0,o1,some (.int b),o3,o4,o5,o6,o7,o8,o9],hp⟩ (decide (0<b/\b<6))) rfl rfl rfl rfl rfl rfl rfl rfl rfl rfl hb
theorem zV(hb:b<10):(oS b).length<=30:=of_decide_eq_true (lt10 (P:=λb=>decide ((oS b).length<=30)=ah) rfl rfl rfl rfl rfl rfl rfl rfl rfl rfl hb)
theorem NU(hb:b<10):b≠7->b≠8->decide (0<b/\b<6)=aj->vk b=[113,10]/\vE b=U8/\oS b=fE++[32,73,68,10]:=
 lt10 (P:=λb=>b≠7->b≠8->decide (0<b/\b<6)=aj->vk b=[113,10]/\vE b=U8/\oS b=fE++[32,73,68,10]) (λ_ _ _=>⟨rfl,rfl,rfl⟩) (λ_ _ h=>nB h.symm) (λ_ _ h=>nB h.symm) (λ_ _ h=>nB h.symm) (λ_ _ h=>nB h.symm) (λ_ _ h=>nB h.symm) (λ_ _ _=>⟨rfl,rfl,rfl⟩) (λh=>absurd rfl h) (λ_ h=>absurd rfl h) (λ_ _ _=>⟨rfl,rfl,rfl⟩) hb
def CB(old:Old)(k:Nat)(R:List UInt8)(b:Nat):Prop:=sz (oS b++R).length=ah->∃n:Nat,(K3 b)[b]?=some (.int n)/\dW old (k+10) (oS b++R) (.fault n)
theorem CB.mk(e:oS b++R=d)(h1:(K3 b)[b]?=some (.int n))(h2:sz d.length=ah->dW old (k+10) d (.fault n)):CB old k R b:=λhs=>⟨n,h1,e▸h2 (e▸hs)⟩
theorem Qx(hb:b<10):decide (0<b/\b<6)=ah->CB old k R b:=
 lt10 (P:=λb=>decide (0<b/\b<6)=ah->CB old k R b) (λh=>nB h)
  (λ_=>.mk (show oS 1++R=[113,10,55,32,66,73,32]++([47,87,32,55,32,47,65,32,110,117,108,108,32,73,68,10]++R) by kernel_rfl) (n:=4) (by kernel_rfl) VU)
  (λ_=>.mk (show oS 2++R=[113,10,66,73,32,55,32,47,87,32,55,32,47,65,32,110,117,108,108,32,73,68,10]++R by kernel_rfl) (n:=5) (by kernel_rfl) VV)
  (λ_=>.mk (show oS 3++R=[113,10,66,73,32,47,87,32,55,32,47,65,32,110,117,108,108,32,47,87,32,73,68,10]++R by kernel_rfl) (n:=21) (by kernel_rfl) VW)
  (λ_=>.mk (show oS 4++R=fE++(32::81::10::R) by kernel_rfl) (n:=18) (by kernel_rfl) VX)
  (λ_=>.mk (show oS 5++R=fE++(32::73::68::40::R) by kernel_rfl) (n:=20) (by kernel_rfl) VY) (λh=>nB h) (λh=>nB h) (λh=>nB h) (λh=>nB h) hb
theorem GI(hb:b<10)(h7:b≠7)(h8:b≠8)(hR:R.length<=20)(hA:∀x∈R,x∈AL)(q:∀ay,Upd [] hp ay->Q (.bool ah) ⟨loc,ay⟩):
 X (P8 old (aY old (k+42))) ⟨[o0,o1,some (.int b),some (.bytes (vk b)),some (.bytes (vE b)),some (.bytes (oS b++R)),none,none,none,none],hp⟩ (Rt Q loc) E:=by
 have hl:(oS b++R).length<=50:=by rw[av];exact bQ (zV hb) hR
 have hs:sz (oS b++R).length=ah:=eJ hl rfl;refine X.dm (X.list (QN hb) rfl ?_);have g:=gl hp (.list (K3 b));have u:Upd [] hp _:=.push hp (.list (K3 b));show X _ ⟨[o0,o1,some (.int b),some (.bytes (vk b)),some (.bytes (vE b)),some (.bytes (oS b++R)),some (.ref hp.length),none,none,none],hp++[.list (K3 b)]⟩ _ _;generalize hp++[PO.list (K3 b)]=h1 at g u⊢;cases h:decide (0<b/\b<6) with
 |true=>
  obtain⟨n,e1,hc⟩:=Qx (old:=old) (k:=k+31) (R:=R) hb h hs;exact X.tt ((Kv hb).of h) (X.ret (ng (m:=k+36) (st:=⟨_,h1⟩) (by exact rfl) hc (λay u'=>Ev.sub (by exact rfl) (by exact rfl) (Ev.nL (u'.2 _ _ g aJ) rfl e1)) λay u'=>K.rt (Rt.rt (q ay (u.trans u')))))
 |false=>
  refine X.ff ((Kv hb).of h) ?_;obtain⟨e1,e2,e3⟩:=NU hb h7 h8 h;have ed:oS b++R=fE++(32::73::68::10::R):=by rw[e3];rfl
  have ZL:∀(n:Nat) (x:UInt8),21<=n->(oS b++R)[n]?=some x->x∈AL:=λn x hn hx=>by
   rw[e3,cL hn] at hx;exact hA x (cm hx)
  rw[e1,e2];exact Ot ed hs (ai hl (by decide)) ZL λay u'=>q ay (u.trans u')
noncomputable def A7:List (List UInt8):=[[],[32],[10,81]]
theorem P9:(A7.all λs=>decide (s.length<=2)&&s.all λb=>AL.contains b)=ah:=by kernel_rfl
theorem OV(g5:kj hp c)(hb:b<10)(h7:b≠7)(h8:b≠8)(hR:body.length<=12)(hA:∀x∈body,x∈AL)(q:∀ay,kj ay c->Q (.bool ah) ⟨loc,ay⟩):
 X (P7 old (aY old (k+42))) ⟨[some (.ref c),some (.bytes body),some (.int b),some (.bytes (vk b)),some (.bytes (vE b)),none,none,none,none,none],hp⟩ (Rt Q loc) E:=by
 have hl:=zV hb;refine X.hY (v:=.bytes (oS b++body)) (Ev.B (QT hb) (by exact rfl) (mY (by lia))) ?_;show X _ ⟨[some (.ref c),some (.bytes body),some (.int b),some (.bytes (vk b)),some (.bytes (vE b)),some (.bytes (oS b++body)),none,none,none,none],hp⟩ _ _;refine X.tP (Ev.tC (by exact rfl) rfl (y:=.int 6) (z:=!((b:Int)==6)) (by exact rfl)) (λ_=>X.dm (X.B (X.ev (a:=.bytes (oS b++body++[10,69,73])) (Ev.B (by exact rfl) rfl (mY (by rw[av];show(oS b).length+body.length+3<=_;lia))) (lM (l:=A7.map .bytes) g5 (by exact rfl) (by exact rfl) (by decide) (by decide) λv hv h1 u1 sb=>?_)))) λ_=>X.nx (K.nx (GI hb h7 h8 (by lia) hA λay u=>q ay (g5.upd u)))
 obtain⟨t,ht,rfl⟩:=bD.mp hv;have h2:=a6.mp P9 t ht;rw[aI] at h2;have h3:=of_decide_eq_true h2.1;have e:oS b++body++[10,69,73]++t=oS b++(body++([10,69,73]++t)):=by simp only[cS]
 refine X.ev (a:=.bytes (oS b++(body++([10,69,73]++t)))) ((mY (by simp only[av,cA,bE];lia)).of (by rw[e])) (X.nx (K.nx ?_));refine GI hb h7 h8 (by simp only[av,cA,bE];lia) (λx hx=>?_) λay u=>q ay (sb.upd u)
 rcases cx.mp hx with hx|hx
 ·exact hA x hx
 rcases cx.mp hx with hx|hx
 ·exact fB.mp (a6.mp (by decide:([10,69,73]:List UInt8).all (λb=>AL.contains b)=ah) x hx)
 ·exact fB.mp (a6.mp h2.2 x hx)
theorem s9(g5:kj st.hp c)(q:∀ay,kj ay c->Q (.bool ah) ⟨st.loc,ay⟩):X (aY old (k+43) (.obj (.ref 719)) [.ref c]) st Q E:=by
 refine VN ?_;rw[IZ];refine X.dm (X.EU (v:=.bytes []) (g:=.obj (.builtin "bytes.join")) rfl (by exact rfl) (X.cX (X.comp (FO (many:=5) (X.cX (X.call (vs:=[.ref c,.int (5:Nat)]) rfl (by exact rfl) (kO g5 (by decide) (by decide) λn hn h1 u1 sb=>X.ev (a:=[]) rfl ⟨n,rfl,hn,?_⟩))) (by decide)))));refine AW (c:=c) (k:=k+40) (λ_=>by exact rfl) (aL sb.lt) (λh2 o ss Æ Cq oQ g2=>?_) n dR 0 none _ [] (bP hn (by unfold dR;decide)) (by rw[bE,aZ];exact fK hn) (λ_ h=>absurd h aJ) (sb.push _) (gl _ _);obtain⟨f1,f2⟩:=Ia ss Æ;have hf:ss.flatten.length<=12:=ai f1 (b9 3 Cq);refine X.ev (a:=[]) rfl (X.ev (IB (st:=⟨_,h2⟩) g2 (ai Cq (by decide)) (ai hf (by decide))) ?_);refine X.dm (X.call (vs:=[.ref c,.int (10:Nat)]) rfl (by exact rfl) (kO (st:=⟨_,h2⟩) oQ (by decide) (by decide) λb hb h3 u3 yB=>?_));show X _ ⟨[some (.ref c),some (.bytes ss.flatten),some (.int b),none,none,none,none,none,none,none],h3⟩ _ _;refine X.hY (QQ hb) (X.hY (v:=.bytes (vE b)) (by exact QM hb) ?_);show X _ ⟨[some (.ref c),some (.bytes ss.flatten),some (.int b),some (.bytes (vk b)),some (.bytes (vE b)),none,none,none,none,none],h3⟩ _ _;refine X.tP (Ev.tC (by exact rfl) rfl Ev.pU) (λe=>?_) λe=>X.nx (K.nx (X.tP (Ev.tC (by exact rfl) rfl Ev.pU) (λe2=>?_) λe2=>X.nx (K.nx (OV yB hb ?_ ?_ hf f2 q))))
 ·obtain rfl:b=8:=by have:=eq_of_beq e;lia
  exact X.ret (ng (n:=17) (d:=fE) (m:=k+36) (st:=⟨_,h3⟩) (by exact rfl) (V0 (k:=k+31)) (λ_ _=>by exact rfl) λay u=>K.rt (Rt.rt (q ay (yB.upd u))))
 ·obtain rfl:b=7:=by have:=eq_of_beq e2;lia
  exact X.ret (ng (n:=10) (m:=k+36) (st:=⟨_,h3⟩) (by exact rfl) (VZ (k:=k+31)) (λ_ _=>by exact rfl) λay u=>K.rt (Rt.rt (q ay (yB.upd u))))
 ·have:=beq_eq_false_iff_ne.mp e2;lia
 ·have:=beq_eq_false_iff_ne.mp e;lia
end
def LQ(ap:Ap):M PF:=(aq (bg (eB .Add (eB .Add (eB .Mult (af 1) (pure (.int 1091))) (eB .Mult (pure (.int 2)) (ax ap (pure (.obj (.builtin "abs"))) (aa (ax ap (pure (.obj (.type "int"))) (aa (af 2) (pure []))) (pure []))))) (ax ap (pure (.obj (.type "int"))) (aa (eC .Lt (af 2) (pure (.int 0))) (pure [])))) (aX 1)) (pure .next))
def PG(ap:Ap):M PF:=(aq (cI (hJ (eT (tV (ax ap (pure (.obj (.ref 714))) (aa (af 1) (pure []))))) (hJ (eT (tV (ax ap (pure (.obj (.ref 719))) (aa (af 1) (pure []))))) (pure aj))) (aq (bw (pure (.bool aj))) (pure .next)) (pure .next)) (pure .next))
theorem IV(old:Old)(ap:Ap):So old ap=(aq (bg (pure (.int 59)) (aX 1)) (aq (pZ (nv (iB old (af 0) (pure .none) (pure (.int 63)))) (aX 2) (LQ ap)) (aq (bw (eList (aa (af 1) (aa (pure (.int 0)) (pure []))))) (pure .next)))):=rfl
theorem zI(old:Old)(ap:Ap):I0 old ap=(aq (bg (ax ap (pure (.obj (.ref 648))) (aa (af 0) (pure []))) (aX 1)) (aq (pZ (mH (aa (pure (.int 3)) (pure []))) (aX 2) (PG ap)) (aq (bw (pure (.bool ah))) (pure .next)))):=rfl
section
variable{m s:Nat}{loc:List (Option PV)}{ns:List Int}{o0:Option PV}
theorem IP:Ev (iP .Mult (.int m) (.int 1091)) st (.int (m*1091:Nat)):=by
 show(if(small (m:Int)||small 1091)=ah then(bB (PV.int ((m:Int)*1091)):M PV) else M.bad) st=_;rw[if_pos (by rw[show small 1091=ah by decide,xb])];rfl
theorem IQ:Ev (iP .Mult (.int 2) (.int m)) st (.int (2*m:Nat)):=by
 show(if(small 2||small (m:Int))=ah then(bB (PV.int (2*(m:Int))):M PV) else M.bad) st=_;rw[if_pos (by rw[show small 2=ah by decide,Bool.true_or])];rfl
theorem Ft(rest:List Int)(kf i:Nat)(o2:Option PV)(m:Nat)(hk:rest.length<kf)(hr:ns.drop i=rest)(g:hp[li]?=some (.list (ns.map .int)))(q:∀o2 (m:Nat),QF .next ⟨[o0,some (.int m),o2],hp⟩):
 X (iC kf (.list li i) (aX 2) (LQ (aY old (k+1)))) ⟨[o0,some (.int m),o2],hp⟩ QF E:=by
 induction kf generalizing rest i o2 m with
 |zero=>exact absurd hk (lA _)
 |succ kf ih=>
  cases rest with
  |nil=>
   have:(ns.map PV.int)[i]?=none:=by rw[dB];rw[aW];exact lZ.mp hr
   exact X.Bi (by simp only[cY,g,this]) (q o2 m)
  |cons x rest=>
   have ih:=ih rest;have hi:(ns.map PV.int)[i]?=some (.int x):=by
    rw[cE,show ns[i]?=some x by rw[<-gx,hr];rfl];rfl
   have e1:cY ⟨[o0,some (.int m),o2],hp⟩ (.list li i)=some (some (.int x,.list li (i+1))):=by simp only[cY,g,hi]
   have e2:aX 2 (.int x) ⟨[o0,some (.int m),o2],hp⟩=.ok () ⟨[o0,some (.int m),some (.int x)],hp⟩:=rfl;have ea:Ev (ax (aY old (k+1)) (pure (.obj (.builtin "abs"))) (aa (ax (aY old (k+1)) (pure (.obj (.type "int"))) (aa (af 2) (pure []))) (pure []))) ⟨[o0,some (.int m),some (.int x)],hp⟩ (.int x.natAbs):=
    Ev.int (i:=if x<0 then-x else x) (Ev.call (vs:=[.int x]) rfl (Ev.cons (Ev.call (vs:=[.int x]) rfl (by exact rfl) rfl) Ev.nil) rfl) (by split<;>lia)
   have eb:Ev (ax (aY old (k+1)) (pure (.obj (.type "int"))) (aa (eC .Lt (af 2) (pure (.int 0))) (pure []))) ⟨[o0,some (.int m),some (.int x)],hp⟩ (.int ((if decide (x<0)=ah then 1 else 0:Nat):Nat)):=
    Ev.int (i:=if decide (x<0)=ah then 1 else 0) (Ev.call (vs:=[.bool (decide (x<0))]) rfl (Ev.cons (Ev.C (by exact rfl) rfl Ev.lt) Ev.nil) rfl) (by cases decide (x<0)<;>rfl)
   have ev:=Ev.B (op:=.Add) (Ev.B (op:=.Add) (Ev.B (op:=.Mult) (a:=af 1) (b:=pure (.int 1091)) (st:=⟨[o0,some (.int m),some (.int x)],hp⟩) (x:=.int m) (y:=.int 1091) rfl rfl IP) (Ev.B (op:=.Mult) (a:=pure (.int 2)) (x:=.int 2) rfl ea IQ) Ev.Hw) eb Ev.Hw
   with_reducible refine X.Bj e1 (X.ok e2 ?_)
   unfold LQ
   with_reducible refine X.hY ev (X.nx ?_)
   exact ih _ _ _ (bJ hk) (by rw[<-cK,hr];rfl)
theorem S4{a:Addr}(hn:ns.length<=63)(q:∀ay c,kj ay c->Q (.ref c) ⟨st.loc,ay⟩):X (aY (some (.ref a,ns.map .int)) (k+2) (.obj (.ref 648)) [.obj (.ref a)]) st Q E:=by
 refine VD ?_;rw[IV];refine X.hY (v:=.int 59) rfl (X.MU (X.bind (X.dP (a:=.obj (.ref a)) (by exact rfl) (X.dP (a:=.none) (by exact rfl) (X.dP (a:=.int 63) (by exact rfl) (X.ok (a:=.ref st.hp.length) (s:=⟨[some (.obj (.ref a)),some (.int 59),none],st.hp++[.list (ns.map .int)]⟩) ?_ (X.ev (a:=.list st.hp.length 0) (by unfold Ev j4;simp only[gl]) ?_)))))))
 ·have e:cut (ns.map PV.int) none (some ((63:Nat):Int))=ns.map .int:=by rw[qV,fm (by rw[aW];exact hn)]
  show lh (some (.ref a,ns.map .int)) (.obj (.ref a)) .none (.int ((63:Nat):Int)) _=_;have z:sz (ns.map PV.int).length=ah:=decide_eq_true (by rw[aW];lia);refine(if_pos rfl).trans ((if_pos z).trans ?_);rw[e];exact if_pos z
 ·exact Ft (m:=59) ns dR 0 none (by unfold dR;lia) rfl (gl _ _) λo2 m=>K.nx (X.ret (X.list (l:=[.int m,.int (0:Nat)]) (by exact rfl) rfl (Rt.rt (q _ _ ⟨m,0,gl _ _⟩))))
theorem EI(n kf i:Nat)(o2:Option PV)(hp:List PO)(hk:n<kf)(g5:kj hp c)(q:∀ay o2,QF .next ⟨[o0,some (.ref c),o2],ay⟩):X (iC kf (.range (i:Nat) (n:Nat) 1) (aX 2) (PG (aY old (k+43)))) ⟨[o0,some (.ref c),o2],hp⟩ QF E:=by
 induction kf generalizing n i o2 hp with
 |zero=>exact absurd hk (lA _)
 |succ kf ih=>
  cases n with
  |zero=>exact X.Bi rfl (q hp o2)
  |succ n=>
   have ih:=λi o2 hp=>ih n i o2 hp (bJ hk)
   refine X.Bj FN (X.ok (a:=()) (s:=⟨[o0,some (.ref c),some (.int (i:Nat))],hp⟩) rfl ?_);refine X.qp (X.hJ (X.eT (X.tV (X.call (vs:=[.ref c]) rfl (by exact rfl) (wR (st:=⟨_,hp⟩) g5 λh1 sb=>X.truth ⟨(λe=>nomatch e),λ_=>?_⟩)))));refine X.hJ (X.eT (X.tV (X.call (vs:=[.ref c]) rfl (by exact rfl) (s9 (st:=⟨_,h1⟩) sb λh2 oQ=>X.truth ⟨(λe=>nomatch e),λ_=>X.ev (a:=aj) rfl ⟨(λe=>nomatch e),λ_=>X.nx (K.nx (X.nx ?_))⟩⟩))));exact ih (i+1) _ h2 oQ
theorem IF(old:Old)(k:Nat):EG old k=I0 old (aY old k):=by kernel_rfl
theorem main(a:Addr)(ns:List Int)(hn:ns.length<=63):∃st',EG (some (.ref a,ns.map .int)) 300 ⟨[some (.obj (.ref a)),none,none],[]⟩=.ok (.ret (.bool ah)) st':=by
 rw[IF,zI];have key:X (I0 (some (.ref a,ns.map .int)) (aY (some (.ref a,ns.map .int)) (257+43))) ⟨[some (.obj (.ref a)),none,none],[]⟩ (λf _=>f=.ret (.bool ah)) (λ_ _=>False):=by
  rw[zI];refine X.dm (X.call (vs:=[.obj (.ref a)]) rfl (by exact rfl) (S4 (k:=298) hn λh1 c g5=>?_));refine X.D9 (i:=.range (0:Nat) (3:Nat) 1) (by exact rfl) (EI (k:=257) 3 dR 0 none h1 (by unfold dR;lia) g5 λay o2=>K.nx (X.c6 rfl rfl))
 obtain⟨f,s,e,rfl⟩:=key.run;exact⟨s,e⟩
end
end
end
end Mine
theorem PySem.Challenge.cw_nn0155_01_holds : PySem.Challenge.rw_nn0155_01.Holds :=
  Mine.Rx (Mine.TQ Mine.main)
