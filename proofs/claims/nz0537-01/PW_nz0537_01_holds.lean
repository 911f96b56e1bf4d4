import PyProof.Rows.All
import Wide.All
import OpenK.AllK
import Wide.FinOn
import PyProof.RaisesMany
import PyProof.WalksPairs
import PyProof.RangeFor
import PyProof.EnumMake
import PyProof.CompFree
import PyProof.CompUse
import PyProof.DictTable
import PyProof.AssignAttr
import PyProof.ExcClass3
import PyProof.ExcInit
import PyProof.ExcBaseAll.Exception
import PyProof.InstStoreFacts
import PyProof.RulesAs
import KE.KLam
import PyProof.ZipIter
import PyProof.Draws
import KE.KDictOf
import PyProof.AttrMissHeap
import Lean
import PySem.Challenge.RW_nz0537_01
set_option Elab.async false
set_option linter.all false
set_option tactic.hygienic false
set_option backward.match.sparseCases false
set_option maxRecDepth 100000
set_option maxHeartbeats 4000000
set_option bootstrap.genMatcherCode false
set_option genCtorIdx false
open PySem renaming wpAny_bind->a9,Value->a4,wpAny_pure->bX,wpAny_mono->c6,Shared->bM,wpAny->b8,Expr->a8,model->b9,Addr->b7,Str->a6,Around->cy,Heap->bP,wpAny_field->eD,wpAny_holding->gQ,OsState->dA,Scope->cD,Params->da,wpAny_newObj_type->jV,mainGlobals->gR,DictEntry->fy,World->cQ,wpAny_callSpecial?_slot->o0,sysModules->gB,Stmt->cw,wpAny_call_entry->lK,builtinsNs->iB,wpAny_seqItems->mR,NameKind->iD,compareOp->jD,wpAny_setField_rec->ru,wpAny_standAt->o3,wpAny_attempt->o4,wpAny_setField->pA,strKind_is->lL,recursionLimit->pB,pyNext->gE,Pos->c8,wpAny_isInstance->rv,Obj->cn,Model->fg,wpAny_ite_false->rx,wpAny_execs_nil->ry,rawInt->i5,wpAny_nextOf_ascii_item->xb,treeTable->lM,Env->cz,wpAny_truthy_bool->ur,wpAny_loadPart_at->ut,isSubtype_stop->rz,wpAny_rule->o5,eval->eu,call_meets->o6,wpAny_of_eq->pC,FuncData->lN,letOwnedTupleGo->uu,notedBy->kQ,wpAny_Constant_str->xc,starEach->mS,firstArgMember->rA,Operator->mT,wpAny_throw->rD,wpAny_handled->uv,Comprehension->uw,wpAny_execs_cons->xd,sizeLine->o7,fresh->iU,wpAny_call->rE,step->fZ,codeAny_mono->ux,codeAny->mU,wpAny_newFunctionEnv->BN,valueAt->o8,wpAny_pyIter_ascii->BO,wpAny_Constant_int->BP,typeIs_str->uy,stored->mV,backTo->mW,assignEach->uz,wpAny_assign_Name->BQ,Keyword->pD,plainObj_wpAny_Assign_Attribute->Iu,swapsWith->uA,notIterableAtAll->BR,frameOf->BS,wpAny_letGo->xe,field->lO,excClassObj->xg,importedModules->BU,Program->rF,wpAny_loadPart->BV,pyIter->pE,newTuple->uB,closureFor->xh,cLine->mX,wpAny_onRaise->BW,wpAny_comprehension_free->Iv,behindInMarks->BX,cellsFrom->xi,Tok->fA,wpAny_typeOf->BY,wpAny_nextOf_ascii_end->Iw,wpAny_allTrue_And_cons->Ix,wpAny_Call_method_late->Iy,wpAny_Assign_Subscript->Iz,relabel->uC,isTrue->rH,getAttr->uD,Result->rJ,wpAny_storeName_local->IA,wpAny_allTrue_Or_cons->IB,codeAny_call_function->IC,wpAny_updateSeq_pair->ID,unpackItems->BZ,loadIfAlive->xf,codeAny_call_builtin->IE,wpAny_isTrue_BoolOp->IF,wpAny_isSubtype_exc->IG,wpAny_Constant_none->IH
open List renaming casesOn->bO,length_map->cR,getD_eq_getElem?_getD->fC,mem_map->cM,getElem?_eq_getElem->fD,all_eq_true->dM,length_append->ey,mem_cons->dp,getElem?_eq_some_iff->gS,mem_singleton->fh,getElem?_eq_none->i6,range'->dQ,map_cons->eZ,zip_cons_cons->iE,lookup_cons->gU,mem_flatMap->gj,getElem?_map->iV,replicate->iF,mem_of_getElem?->kR,range->fO,length_cons->jE,append_assoc->jW,mem_range->jk,any_eq_true->jY,nodup_cons->jZ,mem_append->mZ,mem_append_left->o9,isEmpty_iff->lP,length_singleton->pF,mem_filter->mY,foldl_cons->n7,append_nil->n9,not_mem_nil->pG,getElem?_cons_succ->uE,mem_append_right->uF,getElem?_append_right->xj,getElem?_append_left->xk,getElem?_range->uG,mem_filterMap->uH,getElem?_set_self->xl,map_append->uI,mem_map_of_mem->xm,zip_nil_right->xo,size_toArray->xq,pairwise_map->xr,ext_getElem?->xt,rec->ob,map_fst_zip->xu,length_take->xw,length_drop->xx,map_map->uJ,take_append_drop->C0,contains_iff_mem->C1,zip_eq_zipWith->C2,contains_cons->C3,set_set->xy,reverse_cons->C4,map_nil->xz,of_mem_zip->C5,mem_zipIdx_iff_getElem?->II,forIn_cons->C6,getElem?_eq_none_iff->IJ,drop_eq_getElem_cons->IK,any_cons->C7,mem_iff_getElem?->IL,length_replicate->IM,eq_nil_or_concat->IN,concat_eq_append->IP,mem_of_mem_take->IQ,map_id->C8,map_congr_left->IR,lookup_append->IS,getElem_range->IT,nodup_append->IU,length_range->IV,foldl_append->IW,flatten_cons->IX,mem_reverse->IY,getElem_mem->IZ,getElem_map->J0,getElem_inj->J1,drop_length->J2,cons_append->J3,any_toArray->J4,nil_append->J5,length_set->J6,length_nil->J7,forIn_nil->J8,foldl_map->J9,drop_zero->Ja
open Nat renaming le_trans->cW,le_succ_of_le->dX,add_right_comm->f4,zero_le->dR,lt_of_le_of_lt->gV,lt_of_lt_of_le->iG,le_of_not_lt->i7,casesAuxOn->gF,le_refl->fj,le_of_eq->gW,succ_le_succ->k7,zero_add->iH,le_add_right->kS,add_le_add_left->ng,ne_of_lt->jl,add_le_add->lQ,add_sub_cancel'->pH,le_succ->kT,le_of_succ_le_succ->uK,min_le_left->pI,le_of_ble_eq_true->uL,mul_le_mul_left->uM,not_lt->nh,le_of_add_right_le->xB,add_comm->pJ,le_of_sub_eq_zero->xC,lt_succ_self->uN,add_assoc->rK,succ_ne_zero->xD,succ->pK,not_succ_le_zero->C9,ne_of_gt->xF,mul_succ->xG,lt_succ_of_lt->Ca,le_of_succ_le->Cc,le_of_lt_succ->Cd,le_of_lt->xH,sub_sub_self->Ce,one_mul->xI,le_antisymm->Cf,sub_lt_left_of_lt_add->Jb,lt_irrefl->Cg,succ_pos->Ch,sub_le_iff_le_add'->Jc,rec->uO,beq->uP,eq_of_beq_eq_true->Jd,mul_le_mul_right->Je,sub_lt_sub_left->Jf,lt_of_le_of_ne->Jg,eq_zero_or_pos->Jh,sub_sub_right->Ji,not_lt_zero->Jj,min_eq_left->Jk
open PySem.Heap renaming get?_push_of_some->cS,get?_push_size->dY,get?_update_self->kU,lt_size->gX,SameBut->jm,size_push->pL,get?_none_of_le->xJ,ExtBut->rL,get?_update_other->Ci,get?_update_ne->Jl,get?_push_at->Jm,MadeExcOf->Jn
open Option.some renaming inj->bv
open Bool renaming and_eq_true->dF,casesOn->dj,and_eq_true_iff->gY,false_ne_true->gG,not_eq_true'->jF,rec->gk,or_eq_true_iff->pM,or_eq_true->xK,false_eq_true->Jo,eq_false_iff->Jp,eq_iff_iff->Jq,false_and->Jr
open Int renaming le_trans->eR,toNat_natCast->kW,toNat_of_nonneg->pN,le_of_eq->lR,add_one_le_of_lt->rM,ofNat_le->ni,not_lt->kX,le_of_lt_add_one->uQ,lt_of_le_of_lt->uR,toNat_le->rN,add_comm->rO,ofNat_lt->uS,natAbs_of_nonneg->Cj,not_le->uT,natCast_nonneg->Ck,lt_of_lt_of_le->Cn,toNat_eq_zero->Co,le_of_lt->xL,add_pos_of_pos_of_nonneg->Js,add_nonneg->Cp,toNat_lt->Cq,lt_toNat->Cr,fmod_nonneg_of_pos->Jt,lt_iff_le_and_ne->Ju,fmod_lt_of_pos->Jv,le_antisymm->Jw
open Option renaming bind_eq_some_iff->gZ,map_eq_some_iff->iW,isSome_iff_exists->lS,rec->kY,casesOn->pO,any_eq_true->uU,isNone_iff_eq_none->Jx
open PySem.W renaming behindTheImports->gH,topFrame->i8,piecesOf->i9,looks_pair->lT,emptyDict->lU,callWith_of->og,boot_heap->nj,findIn->jo,same->gI,instObj->lV,keepIn->kZ,boot_drawn->xN,looks_findIn->xM,boot_toks->xO,notCls->pP,getL->jG,topRun->rP,looks_clsIn->Cs
open PySem.F renaming plainAttrs_str->oh,slot_zip_next->uV,slot_zip_getattribute->Ct,slot_str_split->xP,args_str_split_2->Cu,entry_str_split->Cv,slot_str_ascii_iterator_next->Jy,slot_dict_get->Cw,attr_Exception->Jz,slot_tuple_iterator_next->JA,slot_range_iterator_next->JB,slot_list_reverse->JC,slot_str_iterator_next->JD,slot_list_pop->JE,slot_list_getitem->JG,args_zip_next_1->JH
open PySem.Value renaming ref->fP,none->iI,builtin->rQ,casesOn->xQ
open PySem.Value.ref renaming inj->ez
open PySem.Obj renaming isFreed_of_fields->pQ,data_mapFields->pR,mapFields->oj
open Array renaming length_toList->om,getElem?_toList->xR,toList_append->Cz,eq_empty_of_size_eq_zero->JI,getElem?_eq_getElem->JJ,ext'->CC
open PySem.Str renaming ofString->eG
open PySem.PyData renaming keyHash->ib,eqv->rR,strOk->JK
open PySem.Calls renaming evalArgs_plain->on,spliced_cons->oq,spliced_nil->pS,Name_function_global->JL
open PyProof.Rows renaming Call_Name->l0,Attribute_any_->rS,tail_any->nq,subscriptTail->xS
open PySem.Builtin.Str renaming tooLong->uW,occurrences->CE,partsBetween->JN,strKind->JO
open Classical renaming byContradiction->xT,em->uX,not_forall->JP,not_not->JQ
open PySem.Heap.SameBut renaming update->lW
open Nat.succ renaming inj->iX
open PySem.Builtin.SmallTypes renaming nextOf->rT,ownedTupleIsFree->JM,ownedTupleHandOut->a1q
open PySem.Env renaming kindOf->jp
open PySem.NameKind renaming free->pT,cell->xU
open PySem.Challenge renaming pw_nz0537_01->CG,rw_nz0537_01->JR
open PySem.Expr renaming casesOn->lX
open PySem.W.SharedT renaming abs->nr
open PySem.Builtin.Int renaming intBits->uY
open Ne renaming symm->k8
open Prod.mk renaming inj->pU
open PySem.Txt renaming split->rU,slice->xV
open PySem.Builtin.List renaming listFitsIndex->JS,listTooLong->JT
open ForInStep renaming yield->xW
open PySem.W.WShape renaming hasItems->a0H,has->a0I
open PySem.W.WData renaming bool->uZ,casesOn->JU
open PySem.Builtin.ObjectAttr renaming storeInDict->JV,storeTaker?->a1r
open False renaming elim->v5
open PySem.Code renaming builtin->CJ,quiet_builtin->JW
open Function renaming comp_def->JX,comp->JY
open List.cons renaming inj->CK
open PySem PySem.W PyProof.Rows PySem.Calls PySem.SeqAt
set_option genSizeOf false
set_option genInjectivity false
section
local macro_rules
|`(command|def $i:declId $s:optDeclSig $v:declVal)=>Lean.MonadRef.withRef .missing `(command|noncomputable def $i:declId $s:optDeclSig $v:declVal)
|`(command|abbrev $i:declId $s:optDeclSig $v:declVal)=>Lean.MonadRef.withRef .missing `(command|noncomputable abbrev $i:declId $s:optDeclSig $v:declVal)
|`(command|theorem%$t $i:declId $s:declSig $v:declVal)=>if t.getPos?.isNone then Lean.Macro.throwUnsupported else Lean.MonadRef.withRef .missing `(command|theorem $i:declId $s:declSig $v:declVal)
|`(⋯)=>`(by kernel_rfl)
|`(∅)=>`(by decide)
namespace Mine.Internal
abbrev bZ:=a4->bM->Prop
abbrev cJ:List Nat:=[99,104,97,114,97,99,116,101,114]
abbrev dv:List Nat:=[105,110,116,101,103,101,114]
abbrev dJ:List Nat:=[108,111,103,105,99,97,108]
abbrev wl:List Nat:=[114,101,103,117,108,97,114,32,101,120,112,114,101,115,115,105,111,110,115,32,97,114,101,32,110,111,116,32,115,117,112,112,111,114,116,101,100,59,32,117,115,101,32,102,105,120,101,100,32,61,32,84,82,85,69]
abbrev iQ:List Nat:=[100,111,117,98,108,101]
abbrev eV:List Nat:=[108,105,115,116]
abbrev Ar:List Nat:=[114,101,112,108,97,99,105,110,103,32,115,117,98,115,116,114,105,110,103,115,32,105,110,32,97,32,110,111,110,45,99,104,97,114,97,99,116,101,114,32,111,98,106,101,99,116]
abbrev As:List Nat:=[39,110,99,104,97,114,40,41,39,32,114,101,113,117,105,114,101,115,32,97,32,99,104,97,114,97,99,116,101,114,32,118,101,99,116,111,114]
abbrev jt:List Nat:=[102,105,120,101,100]
abbrev oX:List Nat:=[99,111,108,108,97,112,115,101]
abbrev jK:List Nat:=[119,104,105,99,104]
abbrev ku:List Nat:=[110,97,109,101,115]
abbrev kx:List Nat:=[115,116,97,114,116]
abbrev lq:List Nat:=[114,105,103,104,116]
abbrev th:List Nat:=[114,101,112,108,97,99,101,109,101,110,116]
abbrev zF:List Nat:=[110,111,110,45,99,104,97,114,97,99,116,101,114,32,111,98,106,101,99,116,40,115,41]
abbrev zG:List Nat:=[110,111,110,45,99,104,97,114,97,99,116,101,114,32,97,114,103,117,109,101,110,116]
abbrev oN:List Nat:=[112,97,116,116,101,114,110]
abbrev zH:List Nat:=[105,110,118,97,108,105,100,32,39,116,105,109,101,115,39,32,118,97,108,117,101]
abbrev jM:List Nat:=[98,111,116,104]
abbrev ky:List Nat:=[115,116,111,112]
abbrev qz:List Nat:=[117,115,101,66,121,116,101,115]
abbrev zI:List Nat:=[122,101,114,111,45,108,101,110,103,116,104,32,112,97,116,116,101,114,110]
abbrev lr:List Nat:=[108,101,102,116]
abbrev vS:List Nat:=[105,103,110,111,114,101,46,99,97,115,101]
abbrev oO:List Nat:=[116,105,109,101,115]
abbrev lu:List Nat:=[115,101,112]
abbrev oP:List Nat:=[78,85,76,76]
abbrev qA:List Nat:=[102,97,99,116,111,114]
abbrev tj:List Nat:=[108,101,118,101,108,115]
abbrev Ga:List Nat:=[39,97,114,103,39,32,115,104,111,117,108,100,32,98,101,32,111,110,101,32,111,102,32]
abbrev hH:List Nat:=[92,49]
abbrev qB:List Nat:=[110,111,110,101]
abbrev qC:List Nat:=[112,101,114,108]
abbrev zJ:List Nat:=[119,104,105,116,101,115,112,97,99,101]
abbrev tm:List Nat:=[118,97,108,117,101]
abbrev vT:List Nat:=[112,114,101,102,105,120]
abbrev zK:List Nat:=[108,97,110,103,117,97,103,101]
abbrev vU:List Nat:=[102,105,114,115,116]
abbrev vV:List Nat:=[115,112,108,105,116]
abbrev vW:List Nat:=[99,108,97,115,115]
abbrev oQ:List Nat:=[97,46,98]
abbrev vX:List Nat:=[116,101,120,116]
abbrev Gb:List Nat:=[46,92,124,40,41,91,93,123,125,94,36,42,43,63]
abbrev vY:List Nat:=[108,97,115,116]
abbrev vZ:List Nat:=[70,65,76,83,69]
section
section
variable{Y Q M a0 a1 a2:Type}{p0 p1 p2 p3 p4 p5 p6:Prop}{n0 n1 n2 n3 n4 n5:Nat}{z0 I:Int}{q0 q1 B q3:Y->Prop}{O N H A r4 r5:Y->Q->Prop}{s0 C s2 s3:Y->Q->M->Prop}{t0 t1 t2 t3:Y->Q->M->a0->Prop}{u0 u1 u2 u3 u4:Y->Q->M->a0->a1->a2->Prop}
theorem ff(h:false=true):p0:=(gG h).elim
theorem iT(k:p0)(a:Y)(p:q0 a):p0/\∃a,q0 a:=⟨k,a,p⟩
theorem tO(k:p0)(a:Y)(p:q0 a)(q:q1 a):p0/\∃a,q0 a/\q1 a:=⟨k,a,p,q⟩
theorem tw(k:p0)(a:Y)(p:q0 a)(q:q1 a)(y:B a):p0/\∃a,q0 a/\q1 a/\B a:=⟨k,a,p,q,y⟩
theorem vN(k:p0)(a:Y)(p:q0 a)(q:q1 a)(b:Q)(y:O a b):p0/\∃a,q0 a/\q1 a/\∃b,O a b:=⟨k,a,p,q,b,y⟩
theorem qh(k:p0)(a:Y)(p:q0 a)(q:q1 a)(b:Q)(y:O a b)(z:N a b):p0/\∃a,q0 a/\q1 a/\∃b,O a b/\N a b:=⟨k,a,p,q,b,y,z⟩
theorem sY(k:p0)(a:Y)(b:Q)(c:M)(p:s0 a b c)(q:C a b c):p0/\∃a b c,s0 a b c/\C a b c:=⟨k,a,b,c,p,q⟩
theorem a7(a:Y)(k:q0 a)(p:q1 a):∃a,q0 a/\q1 a:=⟨a,k,p⟩
theorem cF(a:Y)(k:q0 a)(p:q1 a)(q:B a):∃a,q0 a/\q1 a/\B a:=⟨a,k,p,q⟩
theorem js(a:Y)(k:q0 a)(p:q1 a)(q:B a)(y:q3 a):∃a,q0 a/\q1 a/\B a/\q3 a:=⟨a,k,p,q,y⟩
theorem nK(a:Y)(k:q0 a)(p:q1 a)(b:Q)(q:O a b):∃a,q0 a/\q1 a/\∃b,O a b:=⟨a,k,p,b,q⟩
theorem ix(a:Y)(b:Q)(k:O a b):∃a b,O a b:=⟨a,b,k⟩
theorem dU(a:Y)(b:Q)(k:O a b)(p:N a b):∃a b,O a b/\N a b:=⟨a,b,k,p⟩
theorem d6(a:Y)(b:Q)(k:O a b)(p:N a b)(q:H a b):∃a b,O a b/\N a b/\H a b:=⟨a,b,k,p,q⟩
theorem lp(a:Y)(b:Q)(k:O a b)(p:N a b)(q:H a b)(y:A a b):∃a b,O a b/\N a b/\H a b/\A a b:=⟨a,b,k,p,q,y⟩
theorem qi(a:Y)(b:Q)(k:O a b)(p:N a b)(q:H a b)(y:A a b)(z:r4 a b):∃a b,O a b/\N a b/\H a b/\A a b/\r4 a b:=⟨a,b,k,p,q,y,z⟩
theorem vm(a:Y)(b:Q)(k:O a b)(p:N a b)(q:H a b)(y:A a b)(z:r4 a b)(u:r5 a b):∃a b,O a b/\N a b/\H a b/\A a b/\r4 a b/\r5 a b:=⟨a,b,k,p,q,y,z,u⟩
theorem eM(a:Y)(b:Q)(c:M)(k:s0 a b c)(p:C a b c):∃a b c,s0 a b c/\C a b c:=⟨a,b,c,k,p⟩
theorem vP(a:Y)(b:Q)(c:M)(k:s0 a b c)(p:C a b c)(q:s2 a b c):∃a b c,s0 a b c/\C a b c/\s2 a b c:=⟨a,b,c,k,p,q⟩
theorem lb(a:Y)(b:Q)(c:M)(k:s0 a b c)(p:C a b c)(q:s2 a b c)(y:s3 a b c):∃a b c,s0 a b c/\C a b c/\s2 a b c/\s3 a b c:=⟨a,b,c,k,p,q,y⟩
theorem mh(a:Y)(b:Q)(c:M)(d:a0)(k:t0 a b c d)(p:t1 a b c d):∃a b c d,t0 a b c d/\t1 a b c d:=⟨a,b,c,d,k,p⟩
theorem pV(a:Y)(b:Q)(c:M)(d:a0)(e:a1)(f:a2)(k:u0 a b c d e f)(p:u1 a b c d e f)(q:u2 a b c d e f)(y:u3 a b c d e f)(z:u4 a b c d e f):∃a b c d e f,u0 a b c d e f/\u1 a b c d e f/\u2 a b c d e f/\u3 a b c d e f/\u4 a b c d e f:=⟨a,b,c,d,e,f,k,p,q,y,z⟩
theorem c5{x a b:Nat}(h:a<=x)(k:Nat.ble b a=true):b<=x:=cW (uL k) h
theorem dh{x a b:Nat}(h:x<=a)(k:Nat.ble a b=true):x<=b:=cW h (uL k)
theorem By{x:Int}(h:0< x):¬x=0:=λe=>Int.lt_irrefl 0 (by rw [e] at h;exact h)
theorem om0:n0=5->3< n0:=λh=>h▸∅
theorem om1:n0< n1->0< (↑n1:Int) -(↑n0:Int):=λh=>Int.sub_pos_of_lt (uS.mpr h)
theorem om2:(↑n0:Int) -((↑n1:Int)+1)=(↑n0:Int) -(↑n1:Int) -1:=(Int.sub_sub ..).symm
theorem om3:(↑n0:Int) -(↑n0:Int)<=0:=lR (Int.sub_self _)
theorem om4:z0.natAbs<=1048576->z0.toNat<=1048576:=λh=>by rcases z0 with n | n;exact h;exact dR _
theorem om5:n0+200+100*(n1+1)< n2->n0+3+200+100*n1< n2:=λh=>gV (by rw [f4 n0,f4 (n0+200),xG,<-rK];exact ng ∅ _) h
theorem om6:n0+20+5*(n1+1)< n2->n0+1+20+5*n1< n2:=λh=>gV (by rw [f4 n0,f4 (n0+20),xG,<-rK];exact ng ∅ _) h
theorem om7:n0=n1->n2=n1->n3=n0->n0<=n3:=λU U c=>gW c.symm
theorem om8:2<=n0->n0=1->False:=by intros;simp_all
theorem I8:n0+1=0->False:=xD _
theorem YZ:n0< 100->n0=n1->n0=n2->n2< 1000:=λa U c=>gV (gW c.symm) (iG a ∅)
theorem Z0:n0<=1048576->n0=n1->min n0 n1<=16777216:=λa U=>cW (pI ..) (dh a rfl)
theorem Z1:z0.natAbs=0->z0=0:=Int.natAbs_eq_zero.mp
theorem Z2:n0< 64->n0+1<=64:=by intros;assumption
theorem Z3:0<=z0->z0< 1->z0=0:=λa b=>Jw (uQ b) a
theorem Z4:n0+n1<=1048576->n0=n2->n1=n3->n2+n3<=16777216:=λa b c=>b▸c▸dh a rfl
theorem Z5:0<=z0->z0<=64->1*z0.toNat<=256:=λU b=>cW (gW (xI _)) (dh (rN.mpr b) rfl)
theorem Z6:0<=z0->z0<=64-> -9223372036854775808<=z0/\z0< 9223372036854775808:=λa b=>⟨eR ∅ a,uR b ∅⟩
theorem Z7:n0<=256->¬n0> 1152921504606846975:=λh=>nh.mpr (dh h rfl)
theorem Z8:n0<=256->¬n0> 16777216:=λh=>nh.mpr (dh h rfl)
theorem Z9:0<=z0->z0<=64->¬z0< 1->0< z0:=λU U c=>kX.mp c
theorem Za:0<=z0->z0<=64->¬z0< 1->0< z0.toNat:=λU U c=>Cr.mpr (kX.mp c)
theorem HD:n0<=1048576->¬n0> 16777216:=λh=>nh.mpr (dh h rfl)
theorem Zb:n0+64< n1->n0< n1:=λh=>gV (kS ..) h
theorem Zc:n0< 55296\/57343< n0/\n0< 1114112->n1=n0->n1< 1114112:=λa b=>gV (gW b) (a.elim (λh=>iG h ∅) (·.2))
theorem Zd:0< n0->n1<=n0 -1->n1< n0:=λa b=>gV b (Nat.sub_lt a ∅)
theorem Ze:0< n0->n1< n0->n1<=n0 -1:=λU b=>Nat.le_sub_one_of_lt b
theorem Zf:n0<=1048576->n0=n1->n1<=16777216:=λa b=>cW (gW b.symm) (dh a rfl)
theorem Zg:n0=n1->n0<=1048576->n0<=16777216:=λU b=>dh b rfl
theorem Zh:0<=z0/\z0< 128->0<=z0:=by intros;simp_all
theorem Zi:0<=z0/\z0< 128->z0<=1114111:=λh=>eR (xL h.2) ∅
theorem Zj:0<=z0/\z0< 128->z0< 1114112:=λh=>Int.lt_trans h.2 ∅
theorem Zk:0<=z0->z0<=64->(-9223372036854775808<=z0/\z0< 9223372036854775808)/\z0<=16777216:=λa b=>⟨⟨eR ∅ a,uR b ∅⟩,eR b ∅⟩
theorem Zl:n0<=1048576->n0=n1->(↑n0:Int)< 9223372036854775808:=λa U=>uR (ni.mpr a) ∅
theorem Zm:0<=z0->z0=(↑z0.toNat:Int):=λh=>(pN h).symm
theorem Zn:1<=n0+1:=by intros;simp_all
theorem Zo:n0=n1->¬n2< n0->n0<=n2:=λU b=>i7 b
theorem Zp:n0=n1->¬n2< n0->n1<=n2:=λa b=>a▸i7 b
theorem Zq:n0< n1->n2=n0->min n0 n1=n2:=λa b=>(Jk (xH a)).trans b.symm
theorem Zr:n0< n1->n2=n0->n3=n2->n4< min n0 n1->n4=n0->False:=λU U U d e=>jl (iG d (pI ..)) e
theorem Zs:n0=n1->n2=n0->n2=n1:=λa b=>b.trans a
theorem Zt:3< 0+1+1+1+1+1+n0:=iG (by decide:3< 5) (kS ..)
theorem HE:n0<=1000->n1=n0->n0<=16777216:=λa U=>dh a rfl
theorem Zu:n0+100< n1->n0+64< n1:=λh=>Nat.lt_trans (Nat.add_lt_add_left ∅ _) h
theorem Zv:n0<=1048576->n0=n1->n0<=16777216:=λa U=>dh a rfl
theorem Zw:n0=n1->n0<=1048576->n1<=16777216:=λa b=>a▸dh b rfl
theorem Zx:0≠2+n0:=λh=>xD _ ((pJ _ 2).trans h.symm)
theorem Zy:1≠2+n0:=λh=>xD _ (iX ((pJ _ 2).trans h.symm))
theorem Zz:n0+200+100*n1< n2->n0+100< n2:=λh=>gV (cW (ng (by decide:100<=200) _) (kS ..)) h
theorem ZA:n0<=n1->n2+200+100*n1< n3->n2+200+100*n0< n3:=λa h=>gV (ng (uM 100 a) _) h
theorem ZB:n0<=n1->n2+20+5*n1< n3->n2+20+5*n0< n3:=λa h=>gV (ng (uM 5 a) _) h
theorem ZC:n0<=100->n1+200+100*(n2+1)< n3->n1+n0+200+100*n2< n3:=λa h=>gV (by rw [f4 n1,f4 (n1+200),xG,<-rK];exact ng a _) h
theorem ZE:n0<=5->n1+20+5*(n2+1)< n3->n1+n0+20+5*n2< n3:=λa h=>gV (by rw [f4 n1,f4 (n1+20),xG,<-rK];exact ng a _) h
theorem ZF:n0+0<=n1->n0<=n1:=λh=>h
theorem ZG:n0+(n1+1)<=n2->n0<=n2:=xB
theorem ZH:n0+(n1+1)<=n2->n2=n2 -1+1:=λh=>(Nat.sub_add_cancel (cW (k7 (dR _)) h)).symm
theorem ZI:n0+(n1+1)<=n2+1->n0<=n2:=λh=>xB (uK h)
theorem ZJ:n0+(n1+1)<=n2+1->n0+n1<=n2:=uK
theorem wC:n0+n1<=n2->n0<=n2:=xB
theorem wD:n0+n1<=n2->n0+n1<=n2:=λh=>h
theorem ZL:n0<=n1->0+n0<=n1:=λh=>cW (gW (iH _)) h
theorem AS:n0+(n1+1)<=n2->n0+1+n1<=n2:=λh=>cW (gW (f4 _ 1 _)) h
theorem AT:n0+(n1+1)<=n2->n0< n2:=λh=>iG (Nat.lt_add_of_pos_right (Ch _)) h
theorem HF:¬(↑n0:Int)+1=0:=λh=>xD _ (Int.ofNat.inj h)
theorem AU:0<=z0->z0< (↑n0:Int)->z0.toNat< n0:=λa b=>(Cq a).mpr b
theorem tW:0<=(↑n0:Int):=Ck _
theorem ZM:n0< z0.toNat->(↑n0:Int)< z0:=Cr.mp
theorem pa:n0<=4->(↑n0:Int).toNat<=4:=by intros;simp_all
theorem wE:n0<=4->(↑n0:Int).natAbs<=4:=by intros;simp_all
theorem ZN:0<=z0->z0< 0->False:=λa b=>kX.mpr a b
theorem ZO:n0<=4->n0=n1+1->(↑n0:Int).natAbs<=4:=by intros;assumption
theorem ZP:n0<=n1->n2<=n3->n4+n2+n0+n5<=n4+(n5+1*(n3+n1)):=λa b=>by rw [xI,rK n4,rK n4,pJ _ n5];exact ng (ng (lQ b a) _) _
theorem AV:0<=z0->z0<=3->z0.toNat<=3:=λU b=>rN.mpr b
theorem tX:0<=z0->z0<=3->z0.natAbs<=3:=λa b=>ni.mp (eR (lR (Cj a)) b)
theorem ZQ:n0<=4->n1<=8->n2<=(n3+1)*12->n1+n0+n2<=(n3+1+1)*12:=λa b c=>by rw [Nat.succ_mul (n3+1),pJ (n1+n0)];exact lQ c (lQ b a)
theorem ZR:n0+1+n1=n0+(n1+1):=f4 _ 1 _
theorem ZT:(↑n0:Int)< z0->(↑n0:Int)< z0:=λh=>h
theorem ZU:n0<=n1->n2<=n3->n2<=1*(n3+n1):=λa b=>by rw [xI];exact cW b (kS ..)
theorem ZV:n0<=n1->n2<=n3->n4<=n5->n2+n0+n4<=n5+1*(n3+n1):=λa b c=>by rw [xI,pJ n5];exact lQ (lQ b a) c
theorem ZW:(↑n0:Int)< (↑n1:Int)->n0< n1:=uS.mp
theorem ZX:n0< n1->n1<=4->n0< 4:=λa b=>iG a b
theorem ZY:0<=z0->z0<=3->n0=z0.toNat->(↑n1:Int)< z0->(↑n1:Int)< (↑n0:Int):=λa U c d=>by rw [c,pN a];exact d
theorem ZZ:n0=z0.toNat->(↑n1:Int)< (↑n0:Int)->n1< z0.toNat:=λa b=>a▸uS.mp b
theorem a0a:n0<=n1->n0+1<=n1+1:=k7
theorem a0b:n0<=8->n1<=n2->n2< n0->n1< 8:=λa b c=>gV b (iG c a)
theorem a0c:n0<=3->n0+1<=4:=k7
theorem a0d:n0+n1<=2000->n0<=2000:=xB
theorem a0e:0<=z0->z0<=3->z0=0\/z0=1\/z0=2\/z0=3:=by intros;lia
theorem a0f:0<=z0->z0<=3->(↑n0:Int)< z0->n0< 3:=λU b c=>uS.mp (Cn c b)
theorem a0g:0<=z0->z0<=3->z0<=3:=λU h=>h
theorem HG:0<=z0/\z0< 4->n0=z0.toNat->n0<=3:=λa b=>cW (gW b) (rN.mpr (uQ a.2))
theorem a0h:n0<=n1+n2->n0+1<=n1+(n2+1):=k7
theorem a0i:n0<=1300->n1< 30->n2<=n0+n1->n2< 2000:=λa b c=>gV c (iG (Nat.add_lt_add_of_le_of_lt a b) ∅)
theorem a0j:n0<=n1+n2->n2=30->n0<=n1+30:=λa b=>b▸a
theorem HH:n0<=1300->n0< 2000:=λh=>gV h ∅
theorem a0k:n0<=63->min 40 n0<=40:=λU=>pI ..
theorem a0l:n0<=63->n1< min 40 n0->n1< 40:=λU h=>iG h (pI ..)
theorem a0m:n0< 40->n1<=31*n0->n1<=1300:=λa b=>cW b (cW (uM 31 (Cd a)) ∅)
theorem a0n:n0< 40->n1<=31*n0->n1+1<=1300:=λa b=>k7 (cW b (cW (uM 31 (Cd a)) ∅))
theorem a0o:n0<=31*n1->n2<=n0+1+30->n2<=31*(n1+1):=λa b=>cW b (Nat.add_le_add_right a 31)
theorem Xq:n0<=63->n1<=31*min 40 n0->n1<=1240:=λU b=>cW b (uM 31 (pI ..))
theorem Xr:n0<=1240->min 160 n0<=2000:=λU=>cW (pI ..) ∅
theorem GD:z0=(↑n0:Int)->0<=I/\I< z0->I< (↑n0:Int):=λa b=>a▸b.2
theorem Xs:z0=(↑n0:Int)->0< z0->n0<=100->¬z0=0:=λU b U=>By b
theorem a0K:0<=z0/\z0<=4->z0.natAbs<=4:=λa=>ni.mp (eR (lR (Cj a.1)) a.2)
theorem Xu:0<=z0/\z0< 4->0<=z0/\z0<=4:=λa=>⟨a.1,xL a.2⟩
theorem Xv:n0<=3->n0+1< 8:=λh=>gV (k7 h) ∅
theorem Xw:0< (↑(n0+1):Int):=Int.natCast_pos.mpr (Ch _)
theorem Xx:0< z0/\z0<=4->0<=I/\I< z0->0<=1+I/\1+I<=4:=λa b=>⟨Cp ∅ b.1,eR (lR (rO 1 _)) (eR (rM b.2) a.2)⟩
theorem Xy:0< z0/\z0<=4->¬z0=0:=λa=>By a.1
theorem Xz:0< z0/\z0<=4->0<=I/\I< z0->n0=(1+I).toNat->n0<=4:=λa b c=>cW (gW c) (rN.mpr (eR (lR (rO 1 _)) (eR (rM b.2) a.2)))
theorem GG:0<=z0/\z0< I->0=(1+z0).toNat->False:=λa b=>absurd (Co.mp b.symm) (uT.mpr (Js ∅ a.1))
theorem XA:0< z0/\z0<=3->0<=I/\I< z0->0<=1+I/\1+I<=4:=λa b=>⟨Cp ∅ b.1,eR (lR (rO 1 _)) (eR (rM b.2) (eR a.2 ∅))⟩
theorem XB:0< z0/\z0<=3->¬z0=0:=λa=>By a.1
theorem XC:0< z0/\z0<=3->0<=I/\I< z0->n0=(1+I).toNat->n0<=4:=λa b c=>cW (gW c) (rN.mpr (eR (lR (rO 1 _)) (eR (rM b.2) (eR a.2 ∅))))
theorem XD:¬(↑(0+1):Int)> (↑(n0+1):Int):=λh=>absurd (uS.mp h) (nh.mpr (k7 (dR _)))
theorem XE:0<=z0/\z0< 3->0<=1+z0/\1+z0<=4:=λa=>⟨Cp ∅ a.1,eR (lR (rO 1 _)) (eR (rM a.2) ∅)⟩
theorem XF:0<=z0/\z0< 3->n0=(1+z0).toNat->n0<=3:=λa b=>cW (gW b) (rN.mpr (eR (lR (rO 1 _)) (rM a.2)))
theorem XG:0<=z0/\z0< 3->0=(1+z0).toNat->False:=λa b=>absurd (Co.mp b.symm) (uT.mpr (Js ∅ a.1))
theorem XH:n0≠n1->(↑n0:Int)≠(↑n1:Int):=λa b=>a (Int.ofNat.inj b)
theorem GH:n0<=3->n1=n0->n1<=4:=λa b=>cW (gW b) (dh a rfl)
theorem XI:n0=n1->n2=n1->n0=n2:=λa b=>a.trans b.symm
theorem XJ:n0=n1->¬n2=n1->n0≠n2:=λa b c=>b (c.symm.trans a)
theorem xA(h:p0/\p1)(k:p0->p1->p2):p2:=by rcases h with ⟨p,q⟩;exact k p q
theorem dm(h:p0/\p1/\p2)(k:p0->p1->p2->p3):p3:=by rcases h with ⟨p,q,y⟩;exact k p q y
theorem pk(h:p0/\p1/\p2/\p3)(k:p0->p1->p2->p3->p4):p4:=by rcases h with ⟨p,q,y,z⟩;exact k p q y z
theorem H0(h:p0/\p1/\p2/\p3/\p4)(k:p0->p1->p2->p3->p4->p5):p5:=by rcases h with ⟨p,q,y,z,u⟩;exact k p q y z u
theorem qE(h:p0/\p1/\p2/\p3/\p4/\p5)(k:p0->p1->p2->p3->p4->p5->p6):p6:=by rcases h with ⟨p,q,y,z,u,v⟩;exact k p q y z u v
theorem fx(h:p0/\∃a,q0 a)(k:p0->∀a,q0 a->p1):p1:=by rcases h with ⟨p,q,y⟩;exact k p q y
theorem Ba(h:p0/\∃a,q0 a/\q1 a)(k:p0->∀a,q0 a->q1 a->p1):p1:=by rcases h with ⟨p,q,y,z⟩;exact k p q y z
theorem tG(h:p0/\∃a,q0 a/\q1 a/\B a)(k:p0->∀a,q0 a->q1 a->B a->p1):p1:=by rcases h with ⟨p,q,y,z,u⟩;exact k p q y z u
theorem kq(h:p0/\∃a,q0 a/\q1 a/\∃b,O a b/\N a b)(k:p0->∀a,q0 a->q1 a->∀b,O a b->N a b->p1):p1:=by rcases h with ⟨p,q,y,z,u,v,w⟩;exact k p q y z u v w
theorem xE(h:∃a,q0 a)(k:∀a,q0 a->p0):p0:=by rcases h with ⟨p,q⟩;exact k p q
theorem a5(h:∃a,q0 a/\q1 a)(k:∀a,q0 a->q1 a->p0):p0:=by rcases h with ⟨p,q,y⟩;exact k p q y
theorem ck(h:∃a,q0 a/\q1 a/\B a)(k:∀a,q0 a->q1 a->B a->p0):p0:=by rcases h with ⟨p,q,y,z⟩;exact k p q y z
theorem jN(h:∃a,q0 a/\q1 a/\B a/\q3 a)(k:∀a,q0 a->q1 a->B a->q3 a->p0):p0:=by rcases h with ⟨p,q,y,z,u⟩;exact k p q y z u
theorem fY(h:∃a b,O a b)(k:∀a b,O a b->p0):p0:=by rcases h with ⟨p,q,y⟩;exact k p q y
theorem cU(h:∃a b,O a b/\N a b)(k:∀a b,O a b->N a b->p0):p0:=by rcases h with ⟨p,q,y,z⟩;exact k p q y z
theorem c0(h:∃a b,O a b/\N a b/\H a b)(k:∀a b,O a b->N a b->H a b->p0):p0:=by rcases h with ⟨p,q,y,z,u⟩;exact k p q y z u
theorem oS(h:∃a b,O a b/\N a b/\H a b/\A a b)(k:∀a b,O a b->N a b->H a b->A a b->p0):p0:=by rcases h with ⟨p,q,y,z,u,v⟩;exact k p q y z u v
theorem hB(h:∃a b,O a b/\N a b/\H a b/\A a b/\r4 a b)(k:∀a b,O a b->N a b->H a b->A a b->r4 a b->p0):p0:=by rcases h with ⟨p,q,y,z,u,v,w⟩;exact k p q y z u v w
theorem qY(h:∃a b c,s0 a b c)(k:∀a b c,s0 a b c->p0):p0:=by rcases h with ⟨p,q,y,z⟩;exact k p q y z
theorem d8(h:∃a b c,s0 a b c/\C a b c)(k:∀a b c,s0 a b c->C a b c->p0):p0:=by rcases h with ⟨p,q,y,z,u⟩;exact k p q y z u
theorem kA(h:∃a b c,s0 a b c/\C a b c/\s2 a b c)(k:∀a b c,s0 a b c->C a b c->s2 a b c->p0):p0:=by rcases h with ⟨p,q,y,z,u,v⟩;exact k p q y z u v
theorem gq(h:∃a b c,s0 a b c/\C a b c/\s2 a b c/\s3 a b c)(k:∀a b c,s0 a b c->C a b c->s2 a b c->s3 a b c->p0):p0:=by rcases h with ⟨p,q,y,z,u,v,w⟩;exact k p q y z u v w
theorem gv(h:∃a b c d,t0 a b c d)(k:∀a b c d,t0 a b c d->p0):p0:=by rcases h with ⟨p,q,y,z,u⟩;exact k p q y z u
theorem eK(h:∃a b c d,t0 a b c d/\t1 a b c d)(k:∀a b c d,t0 a b c d->t1 a b c d->p0):p0:=by rcases h with ⟨p,q,y,z,u,v⟩;exact k p q y z u v
theorem sG(h:∃a b c d,t0 a b c d/\t1 a b c d/\t2 a b c d/\t3 a b c d)(k:∀a b c d,t0 a b c d->t1 a b c d->t2 a b c d->t3 a b c d->p0):p0:=by rcases h with ⟨p,q,y,z,u,v,w,r⟩;exact k p q y z u v w r
end
abbrev Tx:=List Nat
set_option genCtorIdx true in
inductive D where
 | none | bool (b:Bool) | int (i:Int) | str (s:Tx)
 | t (xs:List D) | l (xs:List D) | dct (ks:List Tx) (vs:List D)
 | y (k i a:D) | nul (k a:D)
 | fn (f:Nat) | clo (l:Nat) (cs:List D)
set_option genCtorIdx true in
inductive V where
 | u | d (x:D) | k (x:D) | w (x:D)
 | ol (xs:List D) | od (ks:List Tx) (vs:List D) | oi (c:Nat) (as:List Nat) (vs:List V)
abbrev Fr:=List V
set_option genCtorIdx true in
inductive Out(α:Type) where
 | ok (a:α) | err (m:Tx) | x
def Out.bind{k p:Type}:Out k->(k->Out p)->Out p
 | .ok a,f=>f a
 | .err m,_=>.err m
 | .x,_=>.x
def Out.of{k:Type}:Option k->Out k
 | some a=>.ok a
 | none=>.x
set_option genCtorIdx true in
inductive Op where | add | sub | mul | fdiv | mod | pow
set_option genCtorIdx true in
inductive Cm where | eq | ne | lt | le | gt | ge | inn | nin | is | isn
set_option genCtorIdx true in
inductive Bi where | len | abs | max | min | str | list | dict | chr
set_option genCtorIdx true in
inductive Sm where | join | find | upper | lower | lstrip | rstrip | rjust | split | get
set_option genCtorIdx true in
inductive Lm where | append | pop | reverse
inductive E where
 | none | bool (b:Bool) | int (i:Int) | str (s:Tx)
 | bad | v (x:Nat) | mov (x:Nat) | bor (x:Nat) | f (x a:Nat) | bf (x a:Nat) | fn (f:Nat) | gl (g:Nat)
 | b (op:Op) (a b:E) | neg (a:E) | not (a:E) | and (es:List E) | or (es:List E)
 | c (c:Cm) (a b:E) | cmp2 (c c':Cm) (a b b':E) | i (t a b:E)
 | t (es:List E) | list (es:List E) | dict (ks:List Tx) (es:List E)
 | attr (e:E) (a:Nat) | sub (e i:E) | slice (e:E) (l u:Option E)
 | call (f:Nat) (es:List E) | co (f:Nat) (e:E) (es:List E) | cb (f x:Nat) (es:List E) | meth (f x:Nat) (es:List E)
 | cv (e:E) (es:List E) | new (c:Nat) (es:List E)
 | isi (e:E) (c:Nat) | bi (b:Bi) (es:List E) | sm (m:Sm) (e:E) (es:List E) | lm (m:Lm) (x:Nat) (es:List E)
 | z (a b:E) | comp (e:E) (xs:List Nat) (r:Bool) (it:E) (c:Option E) | lam (l:Nat) (xs:List Nat)
inductive S where
 | bad
 | a (x:Nat) (e:E) | sT (xs:List Nat) (e:E) | sA (x a:Nat) (e:E) | sI (x:Nat) (i e:E) | sP (x a:Nat) (i e:E)
 | aug (x:Nat) (op:Op) (e:E)
 | ite (t:E) (a b:List S) | w (t:E) (b:List S) | for (xs:List Nat) (r:Bool) (it:E) (b:List S)
 | ret (e:E) | brk | expr (e:E) | raise (e:E) | tryA (x:Nat) (e:E)
set_option genCtorIdx true in
inductive Ctl where | next | brk | ret(v:V)
def df:Nat:=1048576
def jr:Tx:=[107,105,110,100]
abbrev jh(ks:List Tx):Prop:=jr∉ks/\ks.Nodup
def iS:V->Option D
 | .d x=>some x
 | .k x=>some x
 | .ol xs=>some (.l xs)
 | .od ks vs=>some (.dct ks vs)
 | _=>none
def Br:V->Bool
 | .d (.bool _)=>true
 | _=>false
def Hk:List V->Option D
 | [k,i,a,b,p]=>if Br b&&Br p then (iS k).bind λk=>(iS i).bind λi=>(iS a).bind λa=>some (.y k i a) else none
 | _=>none
def Hj:List V->Option D
 | [k,a]=>(iS k).bind λk=>(iS a).bind λa=>some (.nul k a)
 | _=>none
def kE(c:Nat)(as:List Nat)(vs:List V):Option D:=if c==0&&as==[0,1,2,3,4] then Hk vs else if c==1&&as==[0,2] then Hj vs else none
def frz:V->Option D
 | .oi c as vs=>kE c as vs
 | v=>iS v
def own:V->Bool
 | .ol _ | .od .. | .oi .. =>true
 | _=>false
def rd(f:Fr)(x:Nat):V:=f.getD x .u
def fk:List Nat->List V->Nat->Option V
 | a::as,v::vs,b=>if a==b then some v else fk as vs b
 | _,_,_=>none
def dG:List Nat->List V->Nat->V->List Nat×List V
 | a::as,v::vs,b,x=>if a==b then (a::as,x::vs) else (a::(dG as vs b x).1,v::(dG as vs b x).2)
 | _,_,b,x=>([b],[x])
def mm:List Tx->List D->Tx->Option D
 | k::ks,v::vs,x=>if k==x then some v else mm ks vs x
 | _,_,_=>none
def dO:List Tx->List D->Tx->D->List Tx×List D
 | k::ks,v::vs,x,y=>if k==x then (k::ks,y::vs) else (k::(dO ks vs x y).1,v::(dO ks vs x y).2)
 | _,_,x,y=>([x],[y])
def cI(s:Tx):Bool:=s.all (·< 1114112)
def lz:D->Bool
 | .none=>true
 | .int _=>true
 | .str _=>true
 | _=>false
def fS:Nat->D->Bool
 | 0,d=>lz d
 | n+1,d=>match d with
  | .t xs=>xs.all (fS n)
  | .l xs=>xs.all (fS n)
  | d=>lz d
def nJ(d:D):Bool:=fS 8 d
def SS(l:Tx):a6:=⟨l.toArray⟩
mutual
noncomputable def kM:D->PyData
 | .int i=>.int i
 | .str s=>.str (SS s)
 | .t xs=>.tuple (toPs xs)
 | .l xs=>.list (toPs xs)
 | _=>.none
noncomputable def toPs:List D->List PyData
 | []=>[]
 | x::xs=>kM x::toPs xs
end
def wQ(a b:D):Bool:=rR (kM a) (kM b)
def lh(n:Nat)(i:Int):Option Nat:=if 0<=i then (if i.toNat< n then some i.toNat else none) else if 0<=i+n then some (i+n).toNat else none
def im(sep:Tx):List Tx->Tx
 | []=>[]
 | [x]=>x
 | x::y::r=>x++sep++im sep (y::r)
def em{α:Type}(d:D)(k:Int->Option α):Option α:=match d with
 | .int i=>k i
 | _=>none
def gP{α:Type}(d:D)(k:Tx->Option α):Option α:=match d with
 | .str i=>k i
 | _=>none
def uh{α:Type}(d:D)(k:List D->Option α):Option α:=match d with
 | .l i=>k i
 | _=>none
def BA{α:Type}(d:D)(k:List Tx->List D->Option α):Option α:=match d with
 | .dct i j=>k i j
 | _=>none
def cG{α:Type}(b:Bool)(x:Option α):Option α:=if b then x else none
def mz:List D->Option (List Tx)
 | []=>some []
 | d::r=>gP d λs=>(mz r).map (s:: ·)
def ms:List D->Option (List Int)
 | []=>some []
 | d::r=>em d λs=>(ms r).map (s:: ·)
def qG(i:Int):Tx:=(toString i).toList.map Char.toNat
def pg(x:a6):Option V:=cG (cI x.cps.toList&&decide (x.length<=df)) (some (.d (.str x.cps.toList)))
def cL(n:Nat):Bool:=decide (n<=df)
def GA:D->Option Nat
 | .str s=>some s.length
 | .l s=>some s.length
 | .t s=>some s.length
 | .dct s _=>some s.length
 | _=>none
def gp:D->Option Bool
 | .none=>some false
 | .bool b=>some b
 | .int i=>some (i !=0)
 | .t _=>none
 | d=>(GA d).bind λn=>cG (cL n) (some (n !=0))
def qy(i:Int):Bool:=decide (i.natAbs< 2 ^ 64)
def H4(d e:D):Option V:=match d with
 | .int a=>em e λb=>some (.d (.int (a+b)))
 | .str a=>gP e λb=>cG (cL (a.length+b.length)) (some (.d (.str (a++b))))
 | .l a=>uh e λb=>cG (cL (a.length+b.length)) (some (.ol (a++b)))
 | _=>none
def HA(d e:D):Option V:=match d with
 | .int a=>em e λb=>cG (qy a&&qy b) (some (.d (.int (a*b))))
 | .str a=>em e λn=>cG (cL (a.length*n.toNat)&&(decide (0<=n)&&decide (n<=64))) (some (.d (.str (iF n.toNat a).flatten)))
 | .l a=>em e λn=>cG (decide (0<=n)&&decide (n<=64)) (match a with | [x]=>some (.ol (iF n.toNat x)) | _=>none)
 | _=>none
def oZ(d e:D)(k:Int->Int->Option V):Option V:=em d λa=>em e λb=>k a b
def mq(k:Op)(d e:D):Option V:=match k with
 | .add=>H4 d e
 | .mul=>HA d e
 | .sub=>oZ d e λa b=>some (.d (.int (a -b)))
 | .fdiv=>oZ d e λa b=>cG (b !=0&&qy b) (some (.d (.int (a.fdiv b))))
 | .mod=>oZ d e λa b=>cG (b !=0) (some (.d (.int (a.fmod b))))
 | .pow=>oZ d e λa b=>cG (a==10&&(decide (0<=b)&&decide (b<=18))) (some (.d (.int (a ^ b.toNat))))
def AR(d:D):Option D:=em d λi=>some (.int (-i))
def wo(k:Op)(d e:D):Option D:=match k with
 | .add=>match d with
  | .int a=>em e λb=>some (.int (a+b))
  | .str a=>gP e λb=>cG (cL (a.length+b.length)) (some (.str (a++b)))
  | _=>none
 | .sub=>em d λa=>em e λb=>some (.int (a -b))
 | _=>none
def vQ:D->Bool
 | .l []=>true
 | _=>false
def zX:D->Bool
 | .l _=>true
 | _=>false
def isNone:D->Bool
 | .none=>true
 | _=>false
def mH(a b:D):Option Bool:=if vQ b&&zX a then some (vQ a) else cG (nJ a&&nJ b) (some (wQ a b))
def tY(d e:D)(k:Int->Int->Bool):Option Bool:=em d λa=>em e λb=>some (k a b)
def Bq(a:Tx)(b:D):Option Bool:=match b with
 | .l b=>(mz b).map λl=>l.contains a
 | .t b=>(mz b).map λl=>l.contains a
 | .dct ks _=>some (ks.contains a)
 | _=>none
def inS(a:Tx)(b:D):Option Bool:=match b with
 | .str b=>some (Txt.contains (SS b) (SS a))
 | b=>Bq a b
def cZ(c:Cm)(a b:D):Option Bool:=match c with
 | .eq=>mH a b
 | .ne=>(mH a b).map λt=>!t
 | .lt=>tY a b λa b=>decide (a< b)
 | .le=>tY a b λa b=>decide (a<=b)
 | .gt=>tY a b λa b=>decide (b< a)
 | .ge=>tY a b λa b=>decide (b<=a)
 | .inn=>gP a λa=>inS a b
 | .nin=>gP a λa=>(Bq a b).map λt=>!t
 | .is=>cG (isNone b) (some (isNone a))
 | .isn=>cG (isNone b) (some (!isNone a))
def Hx(d:D):Option Nat:=match d with
 | .dct .. =>none
 | d=>(GA d).bind λn=>cG (cL n) (some n)
def GX(xs:List D)(i:Int):Option D:=cG (cL xs.length) ((lh xs.length i).bind λn=>xs[n]?)
def kI(d e:D):Option D:=match d with
 | .l xs=>em e λi=>GX xs i
 | .t xs=>em e λi=>GX xs i
 | .str xs=>em e λi=>cG (cL xs.length) ((lh xs.length i).bind λn=>(xs[n]?).map λc=>.str [c])
 | .dct ks vs=>gP e λx=>mm ks vs x
 | _=>none
def AX:Option D->Option (Option Int)
 | none=>some none
 | some d=>em d λi=>some (some i)
def zC(d:D)(l u:Option D):Option V:=(AX l).bind λl=>(AX u).bind λu=>match d with
  | .l xs=>if l.isNone then u.bind λu=>cG (decide (0<=u)&&cL xs.length) (some (.ol (xs.take u.toNat))) else none
  | .str xs=>cG (cL xs.length) (pg (xV (SS xs) l u))
  | _=>none
def wB(l:List Int):Option Int:=match l with
 | []=>none
 | a::r=>some (r.foldl (λm x=>if m< x then x else m) a)
def qQ(a b c:Int):Int:=if b> a then (if c> b then c else b) else (if c> a then c else a)
def Bj(b:Bi)(d:D):Option V:=match b with
 | .len=>(Hx d).map λ(n:Nat)=>V.d (.int n)
 | .abs=>em d λi=>some (.d (.int i.natAbs))
 | .max=>uh d λl=>((ms l).bind wB).map λi=>.d (.int i)
 | .str=>em d λi=>cG (qy i) (some (.d (.str (qG i))))
 | .list=>match d with
  | .l l=>cG (cL l.length) (some (.ol l))
  | .str s=>cG (cL s.length) (some (.ol (s.map λc=>.str [c])))
  | _=>none
 | .dict=>BA d λks vs=>cG (cL ks.length) (some (.od ks vs))
 | .chr=>em d λi=>cG (decide (0<=i)&&decide (i< 128)) (some (.d (.str [i.toNat])))
 | .min=>none
def HT(b:Bi)(d e:D):Option V:=match b with
 | .max=>oZ d e λa b=>some (.d (.int (if b> a then b else a)))
 | .min=>oZ d e λa b=>some (.d (.int (if b< a then b else a)))
 | _=>none
def HU(b:Bi)(d e f:D):Option V:=match b with
 | .max=>em d λa=>em e λb=>em f λc=>some (.d (.int (qQ a b c)))
 | _=>none
def kJ(b:Bi)(ds:List D):Option V:=match ds with
 | [d]=>Bj b d
 | [d,e]=>HT b d e
 | [d,e,f]=>HU b d e f
 | _=>none
def nz(sep:Tx)(l:List Tx):Nat:=l.foldl (λn x=>n+x.length+sep.length) 0
def Fb(t sep:Tx):Bool:=!sep.isEmpty&&cL t.length&&(rU (SS t) (SS sep)).all (λx=>cI x.cps.toList) &&cL (JN (SS t) (CE (SS t) (SS sep) 0 (SS t).length ((SS t).length+1)) (SS sep).length).length
def sm0(m:Sm)(t:Tx):Option V:=match m with
 | .upper=>pg (Txt.upper (SS t))
 | .lower=>pg (Txt.lower (SS t))
 | _=>none
def Ij(m:Sm)(t:Tx)(d:D):Option V:=match m with
 | .join=>uh d λl=>(mz l).bind λl=>cG (cL (nz t l)) (some (.d (.str (im t l))))
 | .find=>gP d λp=>some (.d (.int (Txt.find (SS t) (SS p))))
 | .lstrip=>gP d λk=>cG (cL t.length) (pg (Txt.lstripChars (SS t) (SS k)))
 | .rstrip=>gP d λk=>cG (cL t.length) (pg (Txt.rstripChars (SS t) (SS k)))
 | .split=>gP d λsep=>cG (Fb t sep) (some (.ol ((rU (SS t) (SS sep)).map λx=>.str x.cps.toList)))
 | _=>none
def sm2(m:Sm)(t:Tx)(d e:D):Option V:=match m with
 | .find=>gP d λp=>em e λi=>some (.d (.int (Txt.find3 (SS t) (SS p) i)))
 | .rjust=>em d λn=>gP e λp=>match p with
  | [c]=>cG (decide (0<=n)&&decide (n<=64)) (some (.d (.str (iF (n.toNat -t.length) c++t))))
  | _=>none
 | _=>none
def Il(m:Sm)(t:Tx)(ds:List D):Option V:=match ds with
 | []=>sm0 m t
 | [d]=>Ij m t d
 | [d,e]=>sm2 m t d e
 | _=>none
def Ik(ks:List Tx)(vs:List D)(ds:List D):Option V:=match ds with
 | [d]=>gP d λx=>some (.d ((mm ks vs x).getD .none))
 | [d,e]=>gP d λx=>some (.d ((mm ks vs x).getD e))
 | _=>none
def Gx:Sm->Bool
 | .get=>true
 | _=>false
def uk(m:Sm)(d:D)(ds:List D):Option V:=if Gx m then BA d λks vs=>Ik ks vs ds else gP d λt=>Il m t ds
def WT:D->Bool
 | .dct .. =>true
 | _=>false
def isStr:D->Bool
 | .str _=>true
 | _=>false
def td(m:Sm)(d:D):Bool:=if Gx m then WT d else isStr d
def hZ(m:Lm)(ds:List D)(xs:List D):Option (D×List D):=match m with
 | .append=>match ds with
  | [d]=>cG (decide (xs.length< df)) (some (.none,xs++[d]))
  | _=>none
 | .pop=>cG (ds.isEmpty&&cL xs.length) (xs.getLast?.map λd=>(d,xs.dropLast))
 | .reverse=>cG (ds.isEmpty&&cL xs.length) (some (.none,xs.reverse))
def mj(d:D)(a:Nat):Option D:=match d with
 | .y k i x=>if a==0 then some k else if a==1 then some i else if a==2 then some x else none
 | .nul k x=>if a==0 then some k else if a==2 then some x else none
 | _=>none
def AE(d:D)(c:Nat):Option Bool:=match d with
 | .y .. =>cG (c==0) (some true)
 | .nul .. =>cG (c==0) (some false)
 | .str _=>cG (c==1) (some true)
 | _=>none
def ze(d:D):Option (List D):=match d with
 | .l xs=>cG (cL xs.length) (some xs)
 | .t xs=>cG (cL xs.length) (some xs)
 | .str s=>cG (cL s.length) (some (s.map λc=>.str [c]))
 | _=>none
def Vh(d:D):Option (List D):=em d λn=>cG (cL n.natAbs) (some ((fO n.toNat).map λ(i:Nat)=>.int (i:Int)))
def dN(r:Bool)(d:D):Option (List D):=if r then Vh d else ze d
def jf:Fr->List Nat->List D->Option Fr
 | f,[],[]=>some f
 | f,x::xs,d::ds=>match rd f x with
  | .k _=>none
  | _=>jf (f.set x (.d d)) xs ds
 | _,_,_=>none
def cE(f:Fr)(xs:List Nat)(d:D):Option Fr:=match xs with
 | [x]=>jf f [x] [d]
 | xs=>match d with
  | .t ds=>jf f xs ds
  | .l ds=>jf f xs ds
  | _=>none
def a0E:Fr->List Nat->Fr
 | f,[]=>f
 | f,x::xs=>a0E (f.set x .u) xs
def H7{α:Type}(v:V)(k:D->Option α):Option α:=match v with
 | .d d=>k d
 | .k d=>k d
 | _=>none
def vJ(f:Fr):List Nat->Option (List D×Fr)
 | []=>some ([],f)
 | x::xs=>H7 (rd f x) λd=>(vJ (f.set x (.k d)) xs).map λr=>(d::r.1,r.2)
def imm:D->Bool
 | .none | .bool _ | .int _ | .str _=>true
 | _=>false
def fz(r:V×Fr):Out (D×Fr):=match frz r.1 with
 | some d=>.ok (d,r.2)
 | none=>.x
def vw:V->Option D
 | .w d=>some d
 | v=>frz v
def view(r:V×Fr):Out (D×Fr):=match vw r.1 with
 | some d=>.ok (d,r.2)
 | none=>.x
def eN:E->Bool
 | .bor _ | .bf _ _=>true
 | _=>false
def vz(e:E)(r:V×Fr):Out (D×Fr):=if eN e then view r else fz r
def dL(r:V×Fr):Out (Bool×Fr):=(fz r).bind λp=>(Out.of (gp p.1)).bind λb=>.ok (b,p.2)
def eh(r:V×Fr):Out (V×Fr):=match r.1 with
 | .u | .k _ | .w _=>.x
 | _=>.ok r
def iO(fZ:D->Fr->Out (Option D×Fr)):List D->Fr->Out (List D×Fr)
 | [],f=>.ok ([],f)
 | d::ds,f=>(fZ d f).bind λr=>(iO fZ ds r.2).bind λq=>.ok (match r.1 with | some x=>x::q.1 | none=>q.1,q.2)
def fm(fZ:D->Fr->Out (Ctl×Fr)):List D->Fr->Out (Ctl×Fr)
 | [],f=>.ok (.next,f)
 | d::ds,f=>(fZ d f).bind λr=>match r.1 with
  | .next=>fm fZ ds r.2
  | .brk=>.ok (.next,r.2)
  | .ret v=>.ok (.ret v,r.2)
def qX(p:Fr->Out (Bool×Fr))(k:Fr->Out (Ctl×Fr)):Nat->Fr->Out (Ctl×Fr)
 | 0,_=>.x
 | n+1,f=>(p f).bind λt=>match t.1 with
  | false=>.ok (.next,t.2)
  | true=>(k t.2).bind λr=>match r.1 with
   | .next=>qX p k n r.2
   | .brk=>.ok (.next,r.2)
   | .ret v=>.ok (.ret v,r.2)
def Av:Nat:=200
def dP:Nat:=105
def lG:V->Bool
 | .u=>true
 | _=>false
def mu:V->Bool
 | .u | .k _ | .w _=>true
 | _=>false
def pn:V->Bool
 | .oi 2 _ _=>true
 | _=>false
def Bt(v:V)(a:Nat):Bool:=match v with
 | .oi _ as vs=>(fk as vs a).isSome
 | _=>false
def qP:V->Bool
 | .oi .. =>false
 | _=>true
abbrev cB:=Nat->List V->Out (V×V)
def gls:List D:=[D.int 1000000,D.str [32,9,13,10],D.int 1000000]
def nW(c:Nat):Nat:=match c with | 0=>16 | 1=>15 | 2=>35 | _=>999
def nN(x y:Tx):Bool:=x.length==y.length&&(decide x.Nodup&&(x.all (·< 128)&&(y.all (·< 128)&&cL x.length)))
section
variable (G:cB)
mutual
noncomputable def ev:E->Fr->Out (V×Fr)
 | .bad,_=>.x
 | .none,f=>.ok (.d .none,f)
 | .bool b,f=>.ok (.d (.bool b),f)
 | .int i,f=>.ok (.d (.int i),f)
 | .str s,f=>.ok (.d (.str s),f)
 | .v x,f=>match frz (rd f x) with
  | some d=>.ok (.d d,if own (rd f x) then f.set x (.d d) else f)
  | none=>.x
 | .mov 0,_=>.x
 | .mov (x+1),f=>match own (rd f (x+1)),frz (rd f (x+1)) with
  | true,_=>.ok (rd f (x+1),f.set (x+1) .u)
  | false,some d=>.ok (.d d,f)
  | false,none=>.x
 | .bor x,f=>match frz (rd f x) with
  | some d=>.ok (.w d,f)
  | none=>.x
 | .f x a,f=>match rd f x with
  | .oi c as vs=>match fk as vs a with
   | some v=>match frz v with
    | some d=>.ok (.d d,if own v then f.set x (.oi c as (dG as vs a (.d d)).2) else f)
    | none=>.x
   | none=>.x
  | v=>match frz v with
   | some d=>(Out.of (mj d a)).bind λd=>.ok (.d d,f)
   | none=>.x
 | .bf x a,f=>match rd f x with
  | .oi _ as vs=>match fk as vs a with
   | some v=>match frz v with
    | some d=>.ok (.w d,f)
    | none=>.x
   | none=>.x
  | _=>.x
 | .fn g,f=>.ok (.d (.fn g),f)
 | .gl g,f=>(Out.of gls[g]?).bind λd=>.ok (.d d,f)
 | .b op a b,f=>(ev a f).bind λr=>(fz r).bind λp=>(ev b p.2).bind λr=>(fz r).bind λq=>(Out.of (mq op p.1 q.1)).bind λv=>.ok (v,q.2)
 | .neg a,f=>(ev a f).bind λr=>(fz r).bind λp=>(Out.of (AR p.1)).bind λd=>.ok (.d d,p.2)
 | .not a,f=>((ev a f).bind dL).bind λr=>.ok (.d (.bool (!r.1)),r.2)
 | .and es,f=>evAnd es f
 | .or es,f=>evOr es f
 | .c c a b,f=>(ev a f).bind λr=>(vz a r).bind λp=>(ev b p.2).bind λr=>(vz b r).bind λq=>(Out.of (cZ c p.1 q.1)).bind λt=>.ok (.d (.bool t),q.2)
 | .cmp2 c n a b o,f=>(ev a f).bind λr=>(fz r).bind λp=>(ev b p.2).bind λr=>(fz r).bind λq=>(Out.of (cZ c p.1 q.1)).bind λt=>match t with
   | false=>.ok (.d (.bool false),q.2)
   | true=>(ev o q.2).bind λr=>(fz r).bind λs=>(Out.of (cZ n q.1 s.1)).bind λt=>.ok (.d (.bool t),s.2)
 | .i t a b,f=>((ev t f).bind dL).bind λr=>match r.1 with
  | true=>(ev a r.2).bind eh
  | false=>(ev b r.2).bind eh
 | .t es,f=>(evs es f).bind λr=>.ok (.d (.t r.1),r.2)
 | .list es,f=>(evs es f).bind λr=>.ok (.ol r.1,r.2)
 | .dict ks es,f=>(evs es f).bind λr=>if ks.length==r.1.length&&decide (jh ks) then .ok (.od ks r.1,r.2) else .x
 | .attr e a,f=>(ev e f).bind λr=>(fz r).bind λp=>(Out.of (mj p.1 a)).bind λd=>.ok (.d d,p.2)
 | .sub e i,f=>(ev e f).bind λr=>(vz e r).bind λp=>(ev i p.2).bind λr=>(fz r).bind λq=>(Out.of (kI p.1 q.1)).bind λd=>if eN e&&!imm d then .x else .ok (.d d,q.2)
 | .slice e l u,f=>(ev e f).bind λr=>(fz r).bind λp=>(evo l p.2).bind λl=>(evo u l.2).bind λq=>(Out.of (zC p.1 l.1 q.1)).bind λv=>.ok (v,q.2)
 | .call g es,f=>(evs es f).bind λr=>(G g (r.1.map .d)).bind λq=>.ok (q.1,r.2)
 | .co g e es,f=>(ev e f).bind λr=>(eh r).bind λp=>(evs es p.2).bind λq=>(G g (p.1::q.1.map .d)).bind λs=>.ok (s.1,q.2)
 | .cb g x es,f=>if lG (rd f x) then .x else (evs es f).bind λr=>if mu (rd r.2 x) then .x else (G g (rd r.2 x::r.1.map .d)).bind λq=>.ok (q.1,r.2.set x q.2)
 | .meth g x es,f=>if pn (rd f x) then (evs es f).bind λr=>if mu (rd r.2 x) then .x else (G g (rd r.2 x::r.1.map .d)).bind λq=>.ok (q.1,r.2.set x q.2) else .x
 | .cv e es,f=>(ev e f).bind λr=>(fz r).bind λp=>(evs es p.2).bind λq=>match p.1 with
  | .fn g=>if g< dP then (G g (q.1.map .d)).bind λs=>.ok (s.1,q.2) else .x
  | .clo l h=>(G l (q.1.map .d++h.map .k)).bind λs=>.ok (s.1,q.2)
  | _=>.x
 | .new c es,f=>(evs es f).bind λr=>if c< 3 then (G (nW c) (.oi c [] []::r.1.map .d)).bind λq=>match q.1 with | .d .none=>eh (q.2,r.2) | _=>.x else .x
 | .isi e c,f=>(ev e f).bind λr=>(fz r).bind λp=>(Out.of (AE p.1 c)).bind λb=>.ok (.d (.bool b),p.2)
 | .bi b es,f=>(evs es f).bind λr=>(Out.of (kJ b r.1)).bind λv=>.ok (v,r.2)
 | .sm m e es,f=>(ev e f).bind λr=>(fz r).bind λp=>if td m p.1 then (evs es p.2).bind λq=>(Out.of (uk m p.1 q.1)).bind λv=>.ok (v,q.2) else .x
 | .lm m x es,f=>match rd f x with
  | .ol _=>(evs es f).bind λr=>match rd r.2 x with
   | .ol xs=>(Out.of (hZ m r.1 xs)).bind λq=>.ok (.d q.1,r.2.set x (.ol q.2))
   | _=>.x
  | _=>.x
 | .z a b,f=>(ev a f).bind λr=>(fz r).bind λp=>(ev b p.2).bind λr=>(fz r).bind λq=>match p.1,q.1 with
  | .str x,.str y=>if nN x y then .ok (.od (x.map λc=>[c]) (y.map λc=>.str [c]),q.2) else .x
  | _,_=>.x
 | .comp e xs rg it c,f=>(ev it f).bind λr=>(fz r).bind λp=>(Out.of (dN rg p.1)).bind λj=>(iO (λd f=>(Out.of (cE f xs d)).bind λf=>(evTo c f).bind λt=>match t.1 with
   | true=>(ev e t.2).bind λr=>(fz r).bind λq=>.ok (some q.1,q.2)
   | false=>.ok (none,t.2)) j p.2).bind λq=>.ok (.ol q.1,a0E q.2 xs)
 | .lam l xs,f=>(Out.of (vJ f xs)).bind λr=>.ok (.d (.clo l r.1),r.2)
noncomputable def evs:List E->Fr->Out (List D×Fr)
 | [],f=>.ok ([],f)
 | e::es,f=>(ev e f).bind λr=>(fz r).bind λp=>(evs es p.2).bind λq=>.ok (p.1::q.1,q.2)
noncomputable def evo:Option E->Fr->Out (Option D×Fr)
 | none,f=>.ok (none,f)
 | some e,f=>(ev e f).bind λr=>(fz r).bind λp=>.ok (some p.1,p.2)
noncomputable def evTo:Option E->Fr->Out (Bool×Fr)
 | none,f=>.ok (true,f)
 | some e,f=>(ev e f).bind dL
noncomputable def evAnd:List E->Fr->Out (V×Fr)
 | [],_=>.x
 | [e],f=>(ev e f).bind eh
 | e::es,f=>(ev e f).bind λr=>(fz r).bind λp=>(Out.of (gp p.1)).bind λt=>match t with
   | false=>.ok (.d p.1,p.2)
   | true=>evAnd es p.2
noncomputable def evOr:List E->Fr->Out (V×Fr)
 | [],_=>.x
 | [e],f=>(ev e f).bind eh
 | e::es,f=>(ev e f).bind λr=>(fz r).bind λp=>(Out.of (gp p.1)).bind λt=>match t with
   | true=>.ok (.d p.1,p.2)
   | false=>evOr es p.2
end
def put(f:Fr)(x:Nat)(v:V):Out Fr:=match rd f x with
 | .k _=>.x
 | _=>.ok (f.set x v)
mutual
noncomputable def ex:S->Fr->Out (Ctl×Fr)
 | .bad,_=>.x
 | .a x e,f=>(ev G e f).bind λr=>(eh r).bind λr=>(put r.2 x r.1).bind λf=>.ok (.next,f)
 | .sT xs e,f=>(ev G e f).bind λr=>(fz r).bind λp=>(Out.of (cE p.2 xs p.1)).bind λf=>.ok (.next,f)
 | .sA x a e,f=>(ev G e f).bind λr=>(eh r).bind λr=>match rd r.2 x with
  | .oi c as vs=>if as.length< 100&&qP r.1 then .ok (.next,r.2.set x (.oi c (dG as vs a r.1).1 (dG as vs a r.1).2)) else .x
  | .d (.y ..)=>match a,r.1 with
   | 3,.d (.bool _)=>.ok (.next,r.2)
   | _,_=>.x
  | _=>.x
 | .sI x i e,f=>(ev G e f).bind λr=>(fz r).bind λp=>if lG (rd p.2 x) then .x else (ev G i p.2).bind λr=>(fz r).bind λq=>match rd q.2 x,q.1 with
  | .od ks vs,.str k=>if k==jr||decide (df< ks.length) then .x else .ok (.next,q.2.set x (.od (dO ks vs k p.1).1 (dO ks vs k p.1).2))
  | _,_=>.x
 | .sP x a i e,f=>(ev G e f).bind λr=>(fz r).bind λp=>if !Bt (rd p.2 x) a then .x else (ev G i p.2).bind λr=>(fz r).bind λq=>match rd q.2 x with
  | .oi c as vs=>match fk as vs a,q.1 with
   | some (.od ks ds),.str k=>if k==jr||decide (df< ks.length) then .x else .ok (.next,q.2.set x (.oi c as (dG as vs a (.od (dO ks ds k p.1).1 (dO ks ds k p.1).2)).2))
   | some (.ol xs),.int j=>if 0<=j&&decide (j.toNat< xs.length)&&decide (xs.length<=df) then .ok (.next,q.2.set x (.oi c as (dG as vs a (.ol (xs.set j.toNat p.1))).2)) else .x
   | _,_=>.x
  | _=>.x
 | .aug x v e,f=>match rd f x with
  | .d o=>(ev G e f).bind λr=>(fz r).bind λp=>(Out.of (wo v o p.1)).bind λd=>(put p.2 x (.d d)).bind λf=>.ok (.next,f)
  | _=>.x
 | .ite t a b,f=>((ev G t f).bind dL).bind λr=>match r.1 with
  | true=>exs a r.2
  | false=>exs b r.2
 | .w t b,f=>qX (λf=>(ev G t f).bind dL) (λf=>exs b f) Av f
 | .for xs rg it b,f=>(ev G it f).bind λr=>(fz r).bind λp=>(Out.of (dN rg p.1)).bind λz=>fm (λd f=>(Out.of (cE f xs d)).bind λf=>exs b f) z p.2
 | .ret e,f=>(ev G e f).bind λr=>(eh r).bind λr=>.ok (.ret r.1,r.2)
 | .brk,f=>.ok (.brk,f)
 | .expr e,f=>(ev G e f).bind λr=>(fz r).bind λp=>.ok (.next,p.2)
 | .raise e,f=>(ev G e f).bind λr=>match r.1 with
  | .d (.str m)=>.err m
  | _=>.x
 | .tryA x e,f=>match ev G e f with
  | .ok r=>(eh r).bind λr=>(put r.2 x r.1).bind λf=>.ok (.next,f)
  | .err m=>if cI m then .ok (.ret (.d (.str m)),f.map λU=>.u) else .x
  | .x=>.x
noncomputable def exs:List S->Fr->Out (Ctl×Fr)
 | [],f=>.ok (.next,f)
 | s::k,f=>(ex s f).bind λr=>match r.1 with
  | .next=>exs k r.2
  | c=>.ok (c,r.2)
end
end
structure Fn where
 npar:Nat
 bor:Bool
 dflt:List D
 nslots:Nat
 body:List S
def oM(fn:Fn)(k:List V):Option Fr:=if k.length<=fn.npar&&fn.npar<=k.length+fn.dflt.length then
  some (k++(fn.dflt.drop (fn.dflt.length -(fn.npar -k.length))).map .d++iF (fn.nslots -fn.npar) .u)
 else none
def back(fn:Fn)(f:Fr):Out V:=if fn.bor then (match rd f 0 with | .k _=>.x | v=>.ok v) else .ok .u
def kB(G:cB)(fn:Fn)(k:List V):Out (V×V):=(Out.of (oM fn k)).bind λf=>(exs G fn.body f).bind λr=>match r.1 with
  | .ret v=>(back fn r.2).bind λb=>.ok (v,b)
  | .next=>(back fn r.2).bind λb=>.ok (.d .none,b)
  | .brk=>.x
def b6(fns:List Fn):Nat->cB
 | 0,_,_=>.x
 | n+1,i,k=>match fns[i]? with
  | some fn=>kB (b6 fns n) fn k
  | none=>.x
end
open Mine.Internal.V renaming d->eA,casesOn->bS,ol->k9
open Mine.Internal.Out renaming of->cg,ok->dS,casesOn->ou,bind->bt
open Mine.Internal.D renaming int->iY,str->iJ,none->ox,casesOn->c7,l->dq
open Mine.Internal.Ctl renaming rec->rX,next->h4,ret->rY
def L6:List S:=[.ret (.and [.c .isn (.bor 0) .none,.c .gt (.sub (.v 0) (.int 1)) (.int 0)])]
def LG:List S:=[.ite (.not (.call 0 [.v 0])) [.bad] [],.a 1 (.b .fdiv (.bi .abs [.sub (.v 0) (.int 0)]) (.sub (.v 0) (.int 1))),.ret (.i (.c .ge (.sub (.v 0) (.int 0)) (.int 0)) (.v 1) (.b .sub (.int 0) (.v 1)))]
def Kc:List S:=[.a 2 (.b .fdiv (.v 0) (.v 1)),.a 3 (.b .mul (.int 2) (.b .sub (.v 0) (.b .mul (.v 2) (.v 1)))),.ite (.or [.c .gt (.v 3) (.v 1),.and [.c .eq (.v 3) (.v 1),.c .eq (.b .mod (.v 2) (.int 2)) (.int 1)]]) [.bad] [],.ret (.mov 2)]
def Lq:List S:=[.a 1 (.bi .abs [.sub (.v 0) (.int 0)]),.a 2 (.sub (.v 0) (.int 1)),.a 3 (.int 0),.w (.c .ge (.v 1) (.b .mul (.int 10) (.v 2))) [.bad],.w (.c .lt (.v 1) (.v 2)) [.a 1 (.b .mul (.v 1) (.int 10)),.aug 3 .sub (.int 1)],.ret (.mov 3)]
def KQ:List S:=[.a 1 (.bi .abs [.v 0]),.a 2 (.list []),.w (.c .ge (.v 1) (.b .pow (.int 10) (.int 18))) [.bad],.expr (.lm .append 2 [.bi .str [.v 1]]),.ite (.c .lt (.bor 0) (.int 0)) [.bad] [],.expr (.lm .reverse 2 []),.ret (.sm .join (.str []) [.v 2])]
def Kl:List S:=[.ite (.c .is (.bor 0) .none) [.bad] [],.ite (.c .gt (.sub (.v 0) (.int 1)) (.int 0)) [.ret .none] [],.bad]
def NB:List S:=[.a 3 (.b .sub (.b .sub (.v 2) (.int 1)) (.v 1)),.ite (.c .ge (.bor 3) (.int 0)) [.ret (.call 2 [.b .mul (.bi .abs [.sub (.v 0) (.int 0)]) (.b .pow (.int 10) (.v 3)),.sub (.v 0) (.int 1)])] [],.bad]
def Kx:List S:=[.ite (.c .eq (.sub (.v 0) (.int 0)) (.int 0)) [.ret (.t [.int 0,.b .mul (.str [48]) (.v 1),.int 0])] [],.a 2 (.call 3 [.v 0]),.a 3 (.call 6 [.v 0,.v 2,.v 1]),.ite (.c .ge (.v 3) (.b .pow (.int 10) (.v 1))) [.bad] [],.ret (.t [.i (.c .gt (.sub (.v 0) (.int 0)) (.int 0)) (.int 1) (.neg (.int 1)),.bi .str [.v 3],.v 2])]
def Km:List S:=[.a 1 (.bi .len [.v 0]),.w (.and [.c .gt (.bor 1) (.int 1),.c .eq (.sub (.v 0) (.b .sub (.v 1) (.int 1))) (.str [48])]) [.aug 1 .sub (.int 1)],.ret (.slice (.v 0) none (some (.v 1)))]
def KI:List S:=[.a 2 (.call 2 [.b .mul (.bi .abs [.sub (.v 0) (.int 0)]) (.b .pow (.int 10) (.v 1)),.sub (.v 0) (.int 1)]),.a 3 (.sm .rjust (.call 4 [.v 2]) [.b .add (.v 1) (.int 1),.str [48]]),.ite (.c .gt (.bor 1) (.int 0)) [.a 3 (.b .add (.b .add (.slice (.v 3) none (some (.b .sub (.bi .len [.v 3]) (.v 1)))) (.str [46])) (.slice (.v 3) (some (.b .sub (.bi .len [.v 3]) (.v 1))) none))] [],.ite (.c .lt (.sub (.v 0) (.int 0)) (.int 0)) [.bad] [],.ret (.mov 3)]
def Ly:List S:=[.sT [2,3,4] (.call 7 [.v 0,.v 1]),.a 5 (.bi .len [.call 8 [.v 3]]),.a 6 (.b .add (.bi .max [.v 4,.int 0]) (.int 1)),.ite (.c .lt (.sub (.v 0) (.int 0)) (.int 0)) [.bad] [],.ret (.t [.v 5,.v 6,.bi .max [.b .sub (.b .sub (.v 5) (.int 1)) (.v 4),.int 0],.v 4])]
def Ko:List S:=[.a 2 (.int 1),.a 3 (.int 1),.a 4 (.int 0),.a 5 (.int 0),.a 6 (.int 0),.for [7] false (.v 0) [.a 8 (.call 10 [.v 7,.v 1]),.a 2 (.bi .max [.v 2,.sub (.v 8) (.int 0)]),.a 3 (.bi .max [.v 3,.sub (.v 8) (.int 1)]),.a 4 (.bi .max [.v 4,.sub (.v 8) (.int 2)]),.ite (.c .ge (.bi .abs [.sub (.v 8) (.int 3)]) (.int 100)) [.bad] [],.ite (.c .lt (.sub (.v 7) (.int 0)) (.int 0)) [.bad] []],.a 9 (.b .add (.v 3) (.i (.c .gt (.bor 4) (.int 0)) (.b .add (.v 4) (.int 1)) (.int 0))),.a 10 (.b .add (.b .add (.b .add (.v 6) (.i (.c .gt (.bor 2) (.int 1)) (.b .add (.v 2) (.int 1)) (.int 1))) (.int 4)) (.v 5)),.ite (.c .le (.v 9) (.v 10)) [.ret (.t [.str jt,.v 4])] [],.bad]
def Nx:List S:=[.a 2 (.call 5 [.v 0]),.ite (.c .isn (.bor 2) .none) [.bad] [],.ite (.c .eq (.sub (.v 1) (.int 0)) (.str jt)) [.ret (.call 9 [.v 0,.sub (.v 1) (.int 1)])] [],.bad]
def Kk:List S:=[.a 2 (.comp (.v 4) [4] false (.v 0) (some (.and [.c .isn (.bor 4) .none,.c .gt (.sub (.v 4) (.int 1)) (.int 0)]))),.a 3 (.call 11 [.v 2,.v 1]),.ret (.comp (.call 12 [.v 5,.v 3]) [5] false (.v 0) none)]
def Ku:List S:=[.ret (.sub (.call 13 [.list [.v 0],.v 1]) (.int 0))]
def Ka:List S:=[.sA 0 0 (.str oP),.sA 0 2 .none]
def K5:List S:=[.sA 0 0 (.v 1),.sA 0 1 (.v 2),.sA 0 2 (.v 3),.sA 0 3 (.bool false),.sA 0 4 (.bool false)]
def TR:List S:=[.ite (.c .gt (.v 0) (.gl 0)) [.bad] [],.ret (.v 0)]
def Mi:List S:=[.ret (.new 0 [.str dJ,.bi .list [.v 0]])]
def Md:List S:=[.ret (.new 0 [.str dv,.bi .list [.v 0]])]
def L4:List S:=[.ret (.new 0 [.str cJ,.bi .list [.v 0]])]
def Qa:List S:=[.ite (.c .isn (.bor 1) .none) [.sA 0 2 (.dict [ku] [.call 20 [.v 1]])] [],.ret (.v 0)]
def Mg:List S:=[.ret (.co 21 (.new 0 [.str eV,.comp (.call 26 [.v 2]) [2] false (.v 0) none]) [.v 1])]
def Ny:List S:=[.a 1 (.f 0 0),.ite (.c .eq (.bor 1) (.str oP)) [.bad] [],.ite (.or [.isi (.v 0) 0,.c .eq (.bor 1) (.str zK)]) [.ret (.bi .len [.f 0 1])] [],.bad]
def L7:List S:=[.ret (.isi (.v 0) 0)]
def L5:List S:=[.ret (.c .inn (.f 0 0) (.t [.str dJ,.str dv,.str iQ,.str cJ]))]
def Qb:List S:=[.ite (.isi (.v 0) 0) [.sA 0 3 (.bool true)] [],.ret (.v 0)]
def Ls:List S:=[.ite (.c .is (.f 0 2) .none) [.ret .none] [],.ret (.sm .get (.f 0 2) [.v 1])]
def KL:List S:=[.ite (.or [.c .is (.bor 1) .none,.c .eq (.bor 0) (.str cJ)]) [.ret (.mov 1)] [],.bad]
def Lx:List S:=[.ite (.or [.c .is (.bor 1) .none,.c .lt (.bor 1) (.int 1),.c .gt (.v 1) (.bi .len [.v 0])]) [.ret .none] [],.ret (.sub (.v 0) (.b .sub (.v 1) (.int 1)))]
def Kq:List S:=[.a 1 (.call 27 [.v 0,.str tj]),.ite (.and [.c .isn (.bor 1) .none,.c .eq (.f 0 0) (.str dv),.c .inn (.str qA) (.call 33 [.v 0])]) [.a 2 (.i (.call 25 [.v 1]) (.call 30 [.v 1]) (.list [])),.ret (.comp (.call 29 [.v 2,.v 3]) [3] false (.f 0 1) none)] [],.ret (.comp (.call 28 [.f 0 0,.v 4]) [4] false (.f 0 1) none)]
def Lz:List S:=[.ite (.c .eq (.f 0 0) (.str zK)) [.bad] [],.ite (.c .eq (.f 0 0) (.str [101,110,118,105,114,111,110,109,101,110,116])) [.bad] [],.a 2 (.call 32 [.v 0]),.ite (.and [.c .isn (.bor 2) .none,.c .eq (.bi .len [.v 2]) (.int 1)]) [.bad] [],.a 4 (.call 27 [.v 0,.str ku]),.ite (.c .is (.bor 4) .none) [.ret .none] [],.ret (.bi .list [.f 4 1])]
def Nw:List S:=[.a 1 (.call 27 [.v 0,.str [100,105,109]]),.ite (.c .is (.bor 1) .none) [.ret .none] [],.bad]
def KH:List S:=[.a 1 (.call 27 [.v 0,.str vW]),.ite (.c .is (.bor 1) .none) [.ret (.list [])] [],.ret (.bi .list [.f 1 1])]
def KJ:List S:=[.sA 0 2 (.i (.c .is (.f 1 2) .none) .none (.bi .dict [.f 1 2])),.ret (.v 0)]
def K2:List S:=[.sA 0 5 (.v 1),.sA 0 6 (.v 2),.sA 0 7 (.b .mul (.list [.int 0]) (.bi .len [.v 2])),.sA 0 8 (.dict [] [])]
def K6:List S:=[.for [1] false (.f 0 5) [.ite (.c .ne (.bor 1) (.str [46,46,46])) [.for [2] true (.bi .len [.f 0 6]) [.ite (.and [.c .eq (.sub (.f 0 6) (.v 2)) (.v 1),.c .eq (.sub (.bf 0 7) (.v 2)) (.int 0)]) [.ite (.c .inn (.v 1) (.bf 0 8)) [.bad] [],.sP 0 8 (.v 1) (.v 2),.sP 0 7 (.v 2) (.int 2)] []]] []]]
def K4:List S:=[.for [1] false (.f 0 5) [.ite (.c .eq (.bor 1) (.str [46,46,46])) [.bad] [],.ite (.c .nin (.v 1) (.bf 0 8)) [.expr (.meth 38 0 [.v 1])] []]]
def K0:List S:=[.for [2] true (.bi .len [.f 0 6]) [.a 3 (.sub (.f 0 6) (.v 2)),.ite (.and [.c .ne (.sub (.bf 0 7) (.v 2)) (.int 2),.c .isn (.bor 3) .none,.c .ne (.bor 3) (.str []),.bad]) [.bad] []]]
def K1:List S:=[.a 1 (.int 0),.for [2] false (.f 0 5) [.ite (.c .eq (.bor 2) (.str [46,46,46])) [.bad] [],.ite (.c .nin (.v 2) (.bf 0 8)) [.w (.and [.c .lt (.v 1) (.bi .len [.f 0 6]),.not (.meth 40 0 [.v 1])]) [.aug 1 .add (.int 1)],.ite (.c .lt (.v 1) (.bi .len [.f 0 6])) [.sP 0 8 (.v 2) (.v 1),.sP 0 7 (.v 1) (.int 2)] []] []]]
def K3:List S:=[.ret (.and [.c .eq (.sub (.bf 0 7) (.v 1)) (.int 0),.or [.c .is (.sub (.f 0 6) (.v 1)) .none,.c .eq (.sub (.f 0 6) (.v 1)) (.str [])]])]
def K9:List S:=[.ret (.comp (.v 1) [1] true (.bi .len [.f 0 6]) (some (.c .eq (.sub (.bf 0 7) (.v 1)) (.int 0))))]
def Kt:List S:=[.a 3 (.new 2 [.v 0,.comp (.sub (.v 5) (.int 0)) [5] false (.v 1) none]),.expr (.meth 36 3 []),.expr (.meth 37 3 []),.expr (.meth 39 3 []),.a 4 (.meth 41 3 []),.ite (.and [.c .gt (.bi .len [.v 4]) (.int 0),.c .nin (.str [46,46,46]) (.bor 0)]) [.bad] [],.ret (.t [.f 3 8,.v 4])]
def TU:List S:=[.sT [3,4] (.call 42 [.bi .list [.v 1],.v 0,.v 2]),.a 5 (.list []),.for [6] false (.v 1) [.ite (.c .eq (.bor 6) (.str [46,46,46])) [.bad] [.ite (.c .inn (.v 6) (.bor 3)) [.expr (.lm .append 5 [.sub (.sub (.v 0) (.sub (.v 3) (.v 6))) (.int 1)])] [.expr (.lm .append 5 [.none])]]],.ret (.mov 5)]
def Mj:List S:=[.ite (.or [.c .is (.bor 1) .none,.c .eq (.bor 0) (.str cJ)]) [.ret (.mov 1)] [],.ite (.c .eq (.bor 0) (.str dJ)) [.ret (.i (.c .eq (.bor 1) (.int 1)) (.str [84,82,85,69]) (.str vZ))] [],.ite (.c .eq (.bor 0) (.str dv)) [.ret (.bi .str [.v 1])] [],.ret (.call 14 [.v 1,.int 15])]
def Me:List S:=[.ite (.c .eq (.v 0) (.v 2)) [.bad] [],.ite (.or [.c .eq (.bor 2) (.str eV),.c .eq (.bor 2) (.str [101,120,112,114,101,115,115,105,111,110]),.c .eq (.bor 2) (.str [112,97,105,114,108,105,115,116])]) [.bad] [],.ite (.not (.call 46 [.v 0])) [.bad] [],.ite (.c .eq (.bor 2) (.str dJ)) [.bad] [],.ite (.c .eq (.bor 2) (.str dv)) [.bad] [],.ite (.c .eq (.bor 2) (.str iQ)) [.bad] [],.ret (.call 44 [.v 0,.v 1])]
def K7:List S:=[.ret (.c .inn (.v 0) (.t [.str dJ,.str dv,.str iQ,.str cJ]))]
def KR:List S:=[.ite (.c .isn (.bor 1) .none) [.sA 0 2 (.dict [ku] [.call 26 [.call 20 [.v 1]]])] [],.ret (.v 0)]
def Mb:List S:=[.ite (.not (.isi (.v 0) 0)) [.bad] [],.a 3 (.f 0 1),.ite (.c .ne (.f 0 0) (.v 1)) [.a 3 (.comp (.call 45 [.f 0 0,.v 4,.v 1,.v 2]) [4] false (.f 0 1) none)] [],.ret (.co 47 (.new 0 [.v 1,.bi .list [.v 3]]) [.call 31 [.v 0]])]
def KO:List S:=[.ite (.c .is (.bor 0) .none) [.bad] [],.ret (.v 0)]
def Lr:List S:=[.ite (.c .is (.bor 0) .none) [.ret (.mov 1)] [],.ite (.or [.not (.call 24 [.v 0]),.c .eq (.call 23 [.v 0]) (.int 0)]) [.bad] [],.a 2 (.sub (.attr (.call 48 [.v 0,.str dJ,.list []]) 1) (.int 0)),.ite (.c .is (.bor 2) .none) [.bad] [],.ret (.c .eq (.bor 2) (.int 1))]
def xY:List S:=[.a 2 (.int 0),.for [3] false (.v 0) [.a 2 (.bi .max [.v 2,.bi .len [.v 3]])],.a 4 (.list []),.for [5] true (.v 2) [.a 6 (.list []),.for [3] false (.v 0) [.ite (.c .eq (.bi .len [.v 3]) (.int 0)) [.expr (.lm .append 6 [.str []])] [.a 7 (.sub (.v 3) (.b .mod (.v 5) (.bi .len [.v 3]))),.expr (.lm .append 6 [.i (.c .is (.bor 7) .none) (.str [78,65]) (.v 7)])]],.expr (.lm .append 4 [.sm .join (.v 1) [.v 6]])],.ret (.mov 4)]
def Ke:List S:=[.a 3 (.call 51 [.v 0,.v 1]),.ite (.c .is (.bor 2) .none) [.ret (.mov 3)] [],.ret (.list [.sm .join (.v 2) [.v 3]])]
def Ky:List S:=[.ite (.c .is (.bor 0) .none) [.ret (.list [.none])] [],.ite (.c .eq (.bor 1) (.str [])) [.ret (.bi .list [.v 0])] [],.a 2 (.sm .split (.v 0) [.v 1]),.ite (.c .eq (.sub (.bor 2) (.neg (.int 1))) (.str [])) [.expr (.lm .pop 2 [])] [],.ret (.mov 2)]
def Le:List S:=[.ite (.or [.c .is (.bor 0) .none,.c .is (.bor 1) .none,.c .is (.bor 2) .none]) [.ret .none] [],.a 3 (.bi .max [.v 1,.int 1]),.ite (.c .lt (.v 2) (.v 3)) [.ret (.str [])] [],.ret (.slice (.v 0) (some (.b .sub (.v 3) (.int 1))) (some (.v 2)))]
def Kf:List S:=[.ite (.or [.c .is (.bor 0) .none,.c .is (.bor 1) .none,.c .is (.bor 2) .none,.c .is (.bor 3) .none]) [.ret .none] [],.a 4 (.bi .max [.v 1,.int 1]),.a 5 (.bi .min [.v 2,.bi .len [.v 0]]),.ite (.c .lt (.v 5) (.v 4)) [.ret (.v 0)] [],.a 6 (.bi .min [.b .add (.b .sub (.v 5) (.v 4)) (.int 1),.bi .len [.v 3]]),.ret (.b .add (.b .add (.slice (.v 0) none (some (.b .sub (.v 4) (.int 1)))) (.slice (.v 3) none (some (.v 6)))) (.slice (.v 0) (some (.b .add (.b .sub (.v 4) (.int 1)) (.v 6))) none))]
def Kj:List S:=[.ite (.c .is (.bor 0) .none) [.ret .none] [],.a 2 (.list []),.for [3] false (.v 0) [.a 4 (.i (.v 1) (.sm .upper (.v 3) []) (.sm .lower (.v 3) [])),.expr (.lm .append 2 [.i (.c .eq (.bi .len [.v 4]) (.int 1)) (.v 4) (.v 3)])],.ret (.sm .join (.str []) [.v 2])]
def LD:List S:=[.ret (.call 56 [.v 0,.bool true])]
def LC:List S:=[.ret (.call 56 [.v 0,.bool false])]
def TV:List S:=[.ite (.c .is (.bor 0) .none) [.ret .none] [],.ite (.c .ne (.bor 1) (.str lq)) [.a 0 (.sm .lstrip (.v 0) [.gl 1])] [],.ite (.c .ne (.bor 1) (.str lr)) [.a 0 (.sm .rstrip (.v 0) [.gl 1])] [],.ret (.v 0)]
def Kz:List S:=[.ite (.or [.c .is (.bor 0) .none,.c .is (.bor 1) .none]) [.ret .none] [],.ret (.i (.c .eq (.slice (.v 0) none (some (.bi .len [.v 1]))) (.v 1)) (.int 1) (.int 0))]
def Ld:List S:=[.ite (.c .eq (.bor 0) (.str [])) [.raise (.str zI)] [],.ite (.c .is (.bor 2) .none) [.ret .none] [],.a 4 (.sm .find (.v 2) [.v 0]),.ite (.and [.c .ge (.bor 4) (.int 0),.c .is (.bor 1) .none]) [.ret .none] [],.a 5 (.list []),.a 6 (.int 0),.w (.c .ge (.bor 4) (.int 0)) [.expr (.lm .append 5 [.slice (.v 2) (some (.v 6)) (some (.v 4))]),.expr (.lm .append 5 [.v 1]),.a 6 (.b .add (.v 4) (.bi .len [.v 0])),.ite (.not (.v 3)) [.brk] [],.a 4 (.sm .find (.v 2) [.v 0,.v 6])],.expr (.lm .append 5 [.slice (.v 2) (some (.v 6)) none]),.ret (.sm .join (.str []) [.v 5])]
def Kw:List S:=[.ite (.or [.c .is (.bor 0) .none,.c .is (.bor 1) .none]) [.ret .none] [],.ite (.c .lt (.bor 1) (.int 0)) [.raise (.str zH)] [],.ret (.b .mul (.v 0) (.v 1))]
def LB:List S:=[.ite (.c .eq (.f 1 0) (.str oP)) [.ret (.list [])] [],.ite (.c .eq (.f 1 0) (.str [115,121,109,98,111,108])) [.bad] [],.ite (.c .eq (.f 1 0) (.str zK)) [.bad] [],.ite (.not (.call 24 [.v 1])) [.bad] [],.ite (.c .inn (.f 1 0) (.t [.str eV,.str [101,120,112,114,101,115,115,105,111,110],.str [112,97,105,114,108,105,115,116]])) [.bad] [],.ite (.c .inn (.str qA) (.call 33 [.v 1])) [.ret (.call 30 [.v 1])] [],.ret (.attr (.call 48 [.v 1,.str cJ,.list []]) 1)]
def LA:List S:=[.ite (.c .is (.bor 0) .none) [.bad] [],.ite (.or [.c .ne (.f 0 0) (.str cJ),.c .ne (.call 23 [.v 0]) (.int 1),.c .is (.sub (.f 0 1) (.int 0)) .none]) [.bad] [],.ret (.sub (.f 0 1) (.int 0))]
def Nz:List S:=[.a 3 (.call 20 [.comp (.cv (.v 2) [.v 4]) [4] false (.call 63 [.v 0,.v 1]) none]),.ite (.c .eq (.f 1 0) (.str cJ)) [.expr (.cb 34 3 [.v 1])] [],.ret (.mov 3)]
def CQ:List S:=[.a 3 (.list []),.a 4 .none,.for [5,6] false (.v 1) [.ite (.c .eq (.bor 5) (.str lu)) [.a 2 (.call 64 [.v 6,.str lu,.v 2])] [.ite (.c .eq (.bor 5) (.str oX)) [.ite (.c .ne (.f 6 0) (.str oP)) [.a 4 (.call 64 [.v 6,.str oX,.none])] []] [.ite (.c .ne (.bor 5) (.str [114,101,99,121,99,108,101,48])) [.expr (.lm .append 3 [.call 63 [.v 0,.v 6]])] []]]],.ret (.call 20 [.call 52 [.v 3,.v 2,.v 4]])]
def Mc:List S:=[.ret (.call 66 [.v 0,.v 1,.str [32]])]
def Lp:List S:=[.a 3 (.comp (.t [.i (.c .eq (.bor 4) (.str lu)) .none (.v 4),.v 5]) [4,5] false (.v 1) none),.ret (.call 66 [.v 0,.v 3,.str []])]
def Kn:List S:=[.ite (.v 1) [.ret .none] [],.for [2] false (.v 0) [.ite (.c .inn (.bor 2) (.str Gb)) [.raise (.str wl)] []]]
def y1:List S:=[.sT [3,4,5,6,7] (.call 43 [.v 1,.list [.str [120],.str vV,.str jt,.str qC,.str qz]]),.expr (.call 49 [.v 3,.str [120]]),.ite (.c .ne (.f 3 0) (.str cJ)) [.raise (.str zG)] [],.a 8 (.i (.or [.c .is (.bor 4) .none,.c .eq (.call 23 [.v 4]) (.int 0)]) (.list [.str []]) (.call 63 [.v 0,.v 4])),.a 9 (.list []),.for [10] true (.call 23 [.v 3]) [.a 11 (.sub (.v 8) (.b .mod (.v 10) (.bi .len [.v 8]))),.ite (.c .is (.bor 11) .none) [.bad] [],.expr (.call 69 [.v 11,.call 50 [.v 5,.bool false]]),.expr (.lm .append 9 [.call 20 [.call 53 [.sub (.f 3 1) (.v 10),.v 11]]])],.ret (.call 22 [.v 9,.call 31 [.v 3]])]
def CR:List S:=[.ite (.or [.not (.call 24 [.v 0]),.c .eq (.call 23 [.v 0]) (.int 0)]) [.bad] [],.a 1 (.list []),.for [2] false (.attr (.call 48 [.v 0,.str iQ,.list []]) 1) [.ite (.or [.c .is (.bor 2) .none,.c .eq (.v 2) (.t [.int 0,.int 0])]) [.expr (.lm .append 1 [.none])] [.ite (.c .eq (.sub (.v 2) (.int 1)) (.int 0)) [.bad] [.expr (.lm .append 1 [.call 1 [.v 2]])]]],.ret (.mov 1)]
def CX:List S:=[.sT [3,4,5] (.call 43 [.v 1,.list [.str [120],.str kx,.str ky]]),.a 6 (.call 63 [.v 0,.call 49 [.v 3,.str [120]]]),.a 7 (.list []),.a 8 (.list []),.ite (.c .gt (.bi .len [.v 6]) (.int 0)) [.a 7 (.call 71 [.call 49 [.v 4,.str kx]]),.a 8 (.call 71 [.call 49 [.v 5,.str ky]])] [],.a 9 (.list []),.for [10] true (.bi .len [.v 6]) [.expr (.lm .append 9 [.call 54 [.sub (.v 6) (.v 10),.sub (.v 7) (.b .mod (.v 10) (.bi .len [.v 7])),.sub (.v 8) (.b .mod (.v 10) (.bi .len [.v 8]))]])],.a 11 (.call 20 [.v 9]),.ite (.c .eq (.f 3 0) (.str cJ)) [.expr (.cb 34 11 [.v 3])] [],.ret (.mov 11)]
def CO:List S:=[.sT [3,4,5] (.call 43 [.v 1,.list [.str vX,.str vU,.str vY]]),.a 6 (.call 63 [.v 0,.call 49 [.v 3,.str vX]]),.a 7 (.call 71 [.call 49 [.v 4,.str vU]]),.a 8 (.i (.c .is (.bor 5) .none) (.list [.gl 2]) (.call 71 [.v 5])),.ite (.c .eq (.bi .len [.v 6]) (.int 0)) [.ret (.call 20 [.list []])] [],.a 9 (.bi .max [.bi .len [.v 6],.bi .len [.v 7],.bi .len [.v 8]]),.a 10 (.list []),.for [11] true (.v 9) [.expr (.lm .append 10 [.call 54 [.sub (.v 6) (.b .mod (.v 11) (.bi .len [.v 6])),.sub (.v 7) (.b .mod (.v 11) (.bi .len [.v 7])),.sub (.v 8) (.b .mod (.v 11) (.bi .len [.v 8]))]])],.ret (.call 20 [.v 10])]
def CL:List S:=[.sT [3,4,5,6] (.call 43 [.v 1,.list [.str [120],.str kx,.str ky,.str tm]]),.ite (.c .ne (.attr (.call 49 [.v 3,.str [120]]) 0) (.str cJ)) [.raise (.str Ar)] [],.ite (.or [.c .is (.bor 6) .none,.c .ne (.f 6 0) (.str cJ),.c .eq (.call 23 [.v 6]) (.int 0)]) [.bad] [],.a 7 (.call 71 [.call 49 [.v 4,.str kx]]),.a 8 (.call 71 [.call 49 [.v 5,.str ky]]),.a 9 (.list []),.for [10] true (.call 23 [.v 3]) [.expr (.lm .append 9 [.call 55 [.sub (.f 3 1) (.v 10),.sub (.v 7) (.b .mod (.v 10) (.bi .len [.v 7])),.sub (.v 8) (.b .mod (.v 10) (.bi .len [.v 8])),.sub (.f 6 1) (.b .mod (.v 10) (.call 23 [.v 6]))]])],.ret (.co 34 (.call 20 [.v 9]) [.v 3])]
def L3:List S:=[.ret (.call 65 [.v 0,.call 49 [.sub (.call 43 [.v 1,.list [.str [120]]]) (.int 0),.str [120]],.fn 57])]
def KZ:List S:=[.ret (.call 65 [.v 0,.call 49 [.sub (.call 43 [.v 1,.list [.str [120]]]) (.int 0),.str [120]],.fn 58])]
def b_b_trimws:List S:=[.sT [3,4,5] (.call 43 [.v 1,.list [.str [120],.str jK,.str zJ]]),.a 6 (.call 64 [.v 4,.str jK,.str jM]),.ite (.c .nin (.v 6) (.t [.str jM,.str lr,.str lq])) [.raise (.str [39,97,114,103,39,32,115,104,111,117,108,100,32,98,101,32,111,110,101,32,111,102,32,8216,98,111,116,104,8217,44,32,8216,108,101,102,116,8217,44,32,8216,114,105,103,104,116,8217])] [],.ret (.call 65 [.v 0,.call 49 [.v 3,.str [120]],.lam 105 [6]])]
def NA:List S:=[.ite (.or [.c .ne (.f 0 0) (.str cJ),.c .ne (.f 1 0) (.str cJ)]) [.raise (.str zF)] [],.ite (.or [.c .eq (.call 23 [.v 0]) (.int 0),.c .eq (.call 23 [.v 1]) (.int 0)]) [.ret (.call 18 [.list []])] [],.a 3 (.bi .max [.call 23 [.v 0],.call 23 [.v 1]]),.ret (.call 18 [.comp (.cv (.v 2) [.sub (.f 0 1) (.b .mod (.v 4) (.call 23 [.v 0])),.sub (.f 1 1) (.b .mod (.v 4) (.call 23 [.v 1]))]) [4] true (.v 3) none])]
def Kb:List S:=[.sT [3,4] (.call 43 [.v 1,.list [.str [120],.str vT]]),.ret (.call 78 [.call 49 [.v 3,.str [120]],.call 49 [.v 4,.str vT],.fn 60])]
def Kv:List S:=[.ite (.call 50 [.v 3,.bool false]) [.bad] [],.a 4 (.call 63 [.v 0,.call 49 [.v 1,.str oN]]),.ite (.or [.c .eq (.bi .len [.v 4]) (.int 0),.c .is (.sub (.v 4) (.int 0)) .none]) [.bad] [],.expr (.call 69 [.sub (.v 4) (.int 0),.call 50 [.v 2,.bool false]]),.ret (.sub (.v 4) (.int 0))]
def b_replace_all:List S:=[.sT [3,4,5,6,7,8,9] (.call 43 [.v 1,.list [.str oN,.str th,.str [120],.str vS,.str qC,.str jt,.str qz]]),.a 10 (.call 80 [.v 0,.v 3,.v 8,.v 6]),.a 11 (.call 63 [.v 0,.call 49 [.v 4,.str th]]),.ite (.c .eq (.bi .len [.v 11]) (.int 0)) [.bad] [],.ite (.and [.c .isn (.sub (.v 11) (.int 0)) .none,.c .inn (.str [92]) (.sub (.v 11) (.int 0)),.not (.call 50 [.v 8,.bool false])]) [.raise (.str wl)] [],.ret (.call 65 [.v 0,.call 49 [.v 5,.str [120]],.lam 106 [11,10,2]])]
def Q9:List S:=[.ret (.call 81 [.v 0,.v 1,.bool false])]
def Nv:List S:=[.ret (.call 81 [.v 0,.v 1,.bool true])]
def Db:List S:=[.sT [3,4,5,6,7,8] (.call 43 [.v 1,.list [.str oN,.str [120],.str vS,.str qC,.str jt,.str qz]]),.a 9 (.call 80 [.v 0,.v 3,.v 7,.v 5]),.a 10 (.list []),.for [11] false (.call 63 [.v 0,.call 49 [.v 4,.str [120]]]) [.expr (.lm .append 10 [.i (.and [.c .isn (.bor 11) .none,.c .inn (.v 9) (.bor 11)]) (.int 1) (.int 0)])],.ret (.call 18 [.v 10])]
def Dc:List S:=[.sT [3,4,5,6] (.call 43 [.v 1,.list [.str [120],.str [116,121,112,101],.str [97,108,108,111,119,78,65],.str [107,101,101,112,78,65]]]),.expr (.call 49 [.v 3,.str [120]]),.ite (.and [.call 24 [.v 3],.c .inn (.str qA) (.call 33 [.v 3])]) [.raise (.str As)] [],.a 7 (.list []),.for [8] false (.call 63 [.v 0,.v 3]) [.ite (.c .is (.bor 8) .none) [.expr (.lm .append 7 [.i (.c .eq (.f 3 0) (.str cJ)) .none (.int 2)])] [.expr (.lm .append 7 [.bi .len [.v 8]])]],.a 9 (.call 19 [.v 7]),.ite (.call 24 [.v 3]) [.for [10] false (.t [.str ku,.str [100,105,109],.str [100,105,109,110,97,109,101,115]]) [.a 11 (.call 27 [.v 3,.v 10]),.ite (.c .isn (.bor 11) .none) [.a 12 (.or [.f 9 2,.dict [] []]),.sI 12 (.v 10) (.v 11),.sA 9 2 (.v 12)] []]] [],.ret (.mov 9)]
def v8:List S:=[.sT [3,4] (.call 43 [.v 1,.list [.str [120],.str oO]]),.a 5 (.call 63 [.v 0,.call 49 [.v 3,.str [120]]]),.a 6 (.attr (.call 48 [.call 49 [.v 4,.str oO],.str dv,.list []]) 1),.ite (.or [.c .eq (.bi .len [.v 5]) (.int 0),.c .eq (.bi .len [.v 6]) (.int 0)]) [.ret (.call 20 [.list []])] [],.a 7 (.list []),.for [8] true (.bi .max [.bi .len [.v 5],.bi .len [.v 6]]) [.a 9 (.sub (.v 5) (.b .mod (.v 8) (.bi .len [.v 5]))),.a 10 (.sub (.v 6) (.b .mod (.v 8) (.bi .len [.v 6]))),.ite (.and [.c .isn (.bor 9) .none,.c .isn (.bor 10) .none]) [.expr (.call 17 [.b .mul (.bi .len [.v 9]) (.v 10)])] [],.expr (.lm .append 7 [.call 62 [.v 9,.v 10]])],.a 11 (.call 20 [.v 7]),.a 12 (.i (.call 24 [.v 3]) (.call 31 [.v 3]) .none),.ite (.and [.c .isn (.bor 12) .none,.c .eq (.bi .len [.v 7]) (.bi .len [.v 12])]) [.sA 11 2 (.dict [ku] [.call 26 [.call 20 [.v 12]]])] [],.ret (.mov 11)]
def b_law_row:List S:=[.a 1 (.list []),.for [2] false (.slice (.v 0) none (some (.int 40))) [.a 3 (.i (.c .ge (.bor 2) (.int 0)) (.v 2) (.b .sub (.int 7) (.v 2))),.expr (.lm .append 1 [.b .mod (.v 3) (.int 1024)]),.a 3 (.b .fdiv (.v 3) (.int 1024)),.for [4] true (.int 30) [.ite (.c .gt (.bor 3) (.int 0)) [.expr (.lm .append 1 [.b .mod (.v 3) (.int 1024)]),.a 3 (.b .fdiv (.v 3) (.int 1024))] []]],.a 1 (.slice (.v 1) none (some (.int 160))),.expr (.lm .reverse 1 []),.ret (.mov 1)]
def Lu:List S:=[.ret (.i (.c .ne (.bor 0) (.list [])) (.lm .pop 0 []) (.int 0))]
def Lw:List S:=[.ret (.sub (.list [.str [97],.str [],.str [97,98],.str [32,97,32],.str oQ,.str [65,44,98],.str [97,97,98],.none,.str [90,122,9]]) (.b .mod (.cb 88 0 []) (.int 9)))]
def Lc:List S:=[.a 2 (.new 0 [.str cJ,.comp (.cb 89 0 []) [3] true (.v 1) none]),.ite (.c .eq (.b .mod (.cb 88 0 []) (.int 3)) (.int 2)) [.sA 2 2 (.dict [ku] [.new 0 [.str cJ,.comp (.bi .chr [.b .add (.int 117) (.v 4)]) [4] true (.v 1) none]])] [],.ret (.mov 2)]
def b_law_value:List S:=[.a 1 (.b .mod (.cb 88 0 []) (.int 8)),.a 2 (.b .mod (.cb 88 0 []) (.int 4)),.ite (.c .lt (.bor 1) (.int 3)) [.ret (.cb 90 0 [.v 2])] [],.ite (.c .eq (.bor 1) (.int 3)) [.ret (.new 1 [])] [],.a 3 (.list []),.for [4] true (.v 2) [.a 5 (.b .mod (.cb 88 0 []) (.int 9)),.ite (.c .eq (.bor 5) (.int 8)) [.expr (.lm .append 3 [.none])] [.ite (.c .eq (.bor 1) (.int 4)) [.expr (.lm .append 3 [.b .sub (.v 5) (.int 3)])] [.ite (.c .eq (.bor 1) (.int 5)) [.expr (.lm .append 3 [.b .mod (.v 5) (.int 2)])] [.ite (.c .eq (.bor 1) (.int 6)) [.expr (.lm .append 3 [.i (.c .eq (.b .mod (.v 5) (.int 2)) (.int 0)) (.t [.b .fdiv (.v 5) (.int 2),.int 1]) (.t [.v 5,.int 2])])] [.expr (.lm .append 3 [.b .add (.b .mod (.v 5) (.int 2)) (.int 1)])]]]]],.a 6 (.new 0 [.sub (.list [.str dv,.str dJ,.str iQ,.str dv]) (.b .sub (.v 1) (.int 4)),.v 3]),.ite (.c .eq (.bor 1) (.int 7)) [.sA 6 2 (.dict [tj,vW] [.new 0 [.str cJ,.list [.str [108,111],.str oQ]],.new 0 [.str cJ,.list [.str qA]]])] [],.ret (.mov 6)]
def CY:List S:=[.ite (.c .eq (.f 0 0) (.str oP)) [.ret (.list [])] [],.ite (.and [.c .isn (.f 0 2) .none,.c .inn (.str tj) (.f 0 2)]) [.ret (.comp (.i (.c .is (.bor 3) .none) .none (.sub (.list [.str [108,111],.str oQ]) (.b .sub (.v 3) (.int 1)))) [3] false (.f 0 1) none)] [],.a 1 (.list []),.for [2] false (.f 0 1) [.ite (.or [.c .is (.bor 2) .none,.c .eq (.f 0 0) (.str cJ)]) [.expr (.lm .append 1 [.v 2])] [.ite (.c .eq (.f 0 0) (.str dJ)) [.expr (.lm .append 1 [.sub (.list [.str vZ,.str [84,82,85,69]]) (.v 2)])] [.ite (.c .eq (.f 0 0) (.str dv)) [.expr (.lm .append 1 [.bi .str [.v 2]])] [.expr (.lm .append 1 [.b .add (.bi .str [.b .fdiv (.sub (.v 2) (.int 0)) (.sub (.v 2) (.int 1))]) (.i (.c .eq (.sub (.v 2) (.int 1)) (.int 2)) (.str [46,53]) (.str []))])]]]],.ret (.mov 1)]
def L9:List S:=[.ite (.or [.c .ne (.f 0 0) (.str cJ),.c .is (.f 0 2) .none]) [.ret .none] [],.ret (.attr (.sub (.f 0 2) (.str ku)) 1)]
def b_law_asked:List S:=[.tryA 2 (.cv (.v 0) [.none,.v 1,.none]),.a 3 (.i (.c .is (.f 2 2) .none) .none (.attr (.sub (.f 2 2) (.str ku)) 1)),.ite (.c .eq (.f 2 0) (.str eV)) [.ret (.t [.str eV,.comp (.f 4 1) [4] false (.f 2 1) none,.v 3])] [],.ret (.t [.f 2 0,.f 2 1,.v 3])]
def y2:List S:=[.a 3 (.bi .max [.b .add (.list [.int 0]) (.comp (.bi .len [.v 11]) [11] false (.v 0) none)]),.a 4 (.list []),.for [5] true (.v 3) [.a 6 (.str []),.for [7] true (.bi .len [.v 0]) [.a 8 (.sub (.v 0) (.v 7)),.a 9 (.i (.c .ne (.bor 8) (.list [])) (.sub (.v 8) (.b .mod (.v 5) (.bi .len [.v 8]))) (.str [])),.aug 6 .add (.b .add (.i (.c .gt (.bor 7) (.int 0)) (.v 1) (.str [])) (.i (.c .is (.bor 9) .none) (.str [78,65]) (.v 9)))],.expr (.lm .append 4 [.v 6])],.ite (.c .isn (.bor 2) .none) [.a 10 (.str []),.for [5] true (.v 3) [.aug 10 .add (.b .add (.i (.c .gt (.bor 5) (.int 0)) (.v 2) (.str [])) (.sub (.v 4) (.v 5)))],.ret (.list [.v 10])] [],.ret (.mov 4)]
def La:List S:=[.a 1 (.b .mod (.cb 88 0 []) (.int 10)),.ite (.c .eq (.bor 1) (.int 9)) [.ret (.t [.none,.none])] [],.ite (.c .eq (.bor 1) (.int 8)) [.ret (.t [.t [.int 5,.int 2],.int 2])] [],.ret (.t [.t [.b .sub (.v 1) (.int 1),.int 1],.b .sub (.v 1) (.int 1)])]
def Lv:List S:=[.ite (.or [.c .is (.bor 0) .none,.c .is (.bor 1) .none,.c .is (.bor 2) .none]) [.ret .none] [],.a 3 (.str []),.for [4] true (.bi .len [.v 0]) [.ite (.cmp2 .le .le (.v 1) (.b .add (.v 4) (.int 1)) (.v 2)) [.aug 3 .add (.sub (.v 0) (.v 4))] []],.ret (.mov 3)]
def Mf:List S:=[.ite (.or [.c .is (.bor 0) .none,.c .is (.bor 1) .none,.c .is (.bor 2) .none,.c .is (.bor 3) .none]) [.ret .none] [],.a 4 (.str []),.a 5 (.int 0),.for [6] true (.bi .len [.v 0]) [.ite (.and [.cmp2 .le .le (.bi .max [.v 1,.int 1]) (.b .add (.v 6) (.int 1)) (.v 2),.c .lt (.v 5) (.bi .len [.v 3])]) [.aug 4 .add (.sub (.v 3) (.v 5)),.aug 5 .add (.int 1)] [.aug 4 .add (.sub (.v 0) (.v 6))]],.ret (.mov 4)]
def L8:List S:=[.ite (.c .is (.bor 0) .none) [.ret .none] [],.a 2 (.str [97,98,99,100,101,102,103,104,105,106,107,108,109,110,111,112,113,114,115,116,117,118,119,120,121,122]),.a 3 (.str [65,66,67,68,69,70,71,72,73,74,75,76,77,78,79,80,81,82,83,84,85,86,87,88,89,90]),.a 4 (.i (.v 1) (.z (.v 2) (.v 3)) (.z (.v 3) (.v 2))),.ret (.sm .join (.str []) [.comp (.sm .get (.v 4) [.v 5,.v 5]) [5] false (.v 0) none])]
def Ks:List S:=[.ite (.c .is (.bor 0) .none) [.ret .none] [],.w (.and [.c .ne (.bor 1) (.str lq),.c .inn (.slice (.v 0) none (some (.int 1))) (.list [.str [32],.str [9]])]) [.a 0 (.slice (.v 0) (some (.int 1)) none)],.w (.and [.c .ne (.bor 1) (.str lr),.c .inn (.slice (.v 0) (some (.neg (.int 1))) none) (.list [.str [32],.str [9]])]) [.a 0 (.slice (.v 0) none (some (.neg (.int 1))))],.ret (.v 0)]
def Kr:List S:=[.ite (.c .is (.bor 0) .none) [.ret .none] [],.a 4 (.str []),.a 5 (.int 0),.a 6 (.int 0),.w (.c .lt (.v 5) (.bi .len [.v 0])) [.ite (.and [.c .eq (.slice (.v 0) (some (.v 5)) (some (.b .add (.v 5) (.bi .len [.v 1])))) (.v 1),.or [.v 3,.c .eq (.bor 6) (.int 0)]]) [.ite (.c .is (.bor 2) .none) [.ret .none] [],.aug 4 .add (.v 2),.aug 5 .add (.bi .len [.v 1]),.aug 6 .add (.int 1)] [.aug 4 .add (.sub (.v 0) (.v 5)),.aug 5 .add (.int 1)]],.ret (.mov 4)]
def KN:List S:=[.ite (.c .is (.bor 0) .none) [.ret (.list [.none])] [],.ite (.c .eq (.bor 1) (.str [])) [.ret (.comp (.v 5) [5] false (.v 0) none)] [],.a 2 (.list []),.a 3 (.str []),.a 4 (.int 0),.w (.c .lt (.v 4) (.bi .len [.v 0])) [.ite (.c .eq (.slice (.v 0) (some (.v 4)) (some (.b .add (.v 4) (.bi .len [.v 1])))) (.v 1)) [.expr (.lm .append 2 [.v 3]),.a 3 (.str []),.aug 4 .add (.bi .len [.v 1])] [.aug 3 .add (.sub (.v 0) (.v 4)),.aug 4 .add (.int 1)]],.ret (.b .add (.v 2) (.i (.c .ne (.bor 3) (.str [])) (.list [.v 3]) (.list [])))]
def Lb:List S:=[.ret (.or [.v 1,.c .eq (.comp (.v 2) [2] false (.v 0) (some (.c .inn (.bor 2) (.str Gb)))) (.list [])])]
def b_law:List S:=[.a 1 (.call 87 [.v 0]),.a 2 (.str wl),.a 3 (.comp (.cb 91 1 []) [31] true (.b .mod (.cb 88 1 []) (.int 4)) none),.a 4 (.sub (.list [.str [45],.str [],.str [44,32]]) (.b .mod (.cb 88 1 []) (.int 3))),.a 5 (.sub (.list [.none,.str [43],.str []]) (.b .mod (.cb 88 1 []) (.int 3))),.a 6 (.b .add (.comp (.t [.none,.v 32]) [32] false (.v 3) none) (.list [.t [.str lu,.new 0 [.str cJ,.list [.v 4]]]])),.ite (.c .isn (.bor 5) .none) [.expr (.lm .append 6 [.t [.str oX,.new 0 [.str cJ,.list [.v 5]]]])] [],.a 7 (.comp (.call 92 [.v 33]) [33] false (.v 3) none),.a 8 (.call 67 [.none,.v 6,.none]),.ite (.or [.c .ne (.f 8 0) (.str cJ),.c .ne (.f 8 1) (.call 95 [.v 7,.v 4,.v 5]),.c .isn (.f 8 2) .none]) [.bad] [],.ite (.c .ne (.call 94 [.fn 68,.v 6]) (.t [.str cJ,.call 95 [.b .add (.v 7) (.list [.list [.v 4]]),.str [],.v 5],.none])) [.bad] [],.a 9 (.i (.c .ne (.bor 3) (.list [])) (.sub (.v 3) (.int 0)) (.cb 90 1 [.int 2])),.a 10 (.call 92 [.v 9]),.a 11 (.call 93 [.v 9]),.a 12 (.comp (.cb 96 1 []) [34] true (.b .add (.int 1) (.b .mod (.cb 88 1 []) (.int 4))) none),.a 13 (.comp (.cb 96 1 []) [35] true (.b .add (.int 1) (.b .mod (.cb 88 1 []) (.int 3))) none),.a 14 (.new 0 [.str iQ,.comp (.sub (.v 36) (.int 0)) [36] false (.v 12) none]),.a 15 (.new 0 [.str iQ,.comp (.sub (.v 37) (.int 0)) [37] false (.v 13) none]),.a 16 (.list []),.for [17] true (.bi .len [.v 10]) [.expr (.lm .append 16 [.call 97 [.sub (.v 10) (.v 17),.sub (.sub (.v 12) (.b .mod (.v 17) (.bi .len [.v 12]))) (.int 1),.sub (.sub (.v 13) (.b .mod (.v 17) (.bi .len [.v 13]))) (.int 1)]])],.ite (.c .ne (.call 94 [.fn 72,.list [.t [.none,.v 9],.t [.none,.v 14],.t [.none,.v 15]]]) (.t [.str cJ,.v 16,.v 11])) [.bad] [],.a 16 (.list []),.ite (.c .ne (.bor 10) (.list [])) [.for [17] true (.bi .max [.bi .len [.v 10],.bi .len [.v 12],.bi .len [.v 13]]) [.expr (.lm .append 16 [.call 97 [.sub (.v 10) (.b .mod (.v 17) (.bi .len [.v 10])),.sub (.sub (.v 12) (.b .mod (.v 17) (.bi .len [.v 12]))) (.int 1),.sub (.sub (.v 13) (.b .mod (.v 17) (.bi .len [.v 13]))) (.int 1)]])]] [],.ite (.c .ne (.call 94 [.fn 73,.list [.t [.none,.v 9],.t [.str vY,.v 15],.t [.none,.v 14]]]) (.t [.str cJ,.v 16,.none])) [.bad] [],.a 18 (.new 0 [.str cJ,.comp (.cb 89 1 []) [38] true (.b .add (.int 1) (.b .mod (.cb 88 1 []) (.int 2))) none]),.a 19 (.call 94 [.fn 74,.list [.t [.none,.v 9],.t [.str kx,.v 14],.t [.str ky,.v 15],.t [.str tm,.v 18]]]),.ite (.c .ne (.f 9 0) (.str cJ)) [.ite (.c .ne (.bor 19) (.str Ar)) [.bad] []] [.a 16 (.list []),.for [17] true (.bi .len [.v 10]) [.a 20 (.sub (.f 18 1) (.b .mod (.v 17) (.bi .len [.f 18 1]))),.expr (.lm .append 16 [.call 98 [.sub (.v 10) (.v 17),.sub (.sub (.v 12) (.b .mod (.v 17) (.bi .len [.v 12]))) (.int 1),.sub (.sub (.v 13) (.b .mod (.v 17) (.bi .len [.v 13]))) (.int 1),.v 20]])],.ite (.c .ne (.v 19) (.t [.str cJ,.v 16,.v 11])) [.bad] []],.ite (.c .ne (.call 94 [.fn 75,.list [.t [.str [120],.v 9]]]) (.t [.str cJ,.comp (.call 99 [.v 39,.bool true]) [39] false (.v 10) none,.v 11])) [.bad] [],.ite (.c .ne (.call 94 [.fn 76,.list [.t [.none,.v 9]]]) (.t [.str cJ,.comp (.call 99 [.v 40,.bool false]) [40] false (.v 10) none,.v 11])) [.bad] [],.a 21 (.sub (.list [.str jM,.str lr,.str lq,.str qB]) (.b .mod (.cb 88 1 []) (.int 4))),.a 19 (.call 94 [.fn 77,.list [.t [.none,.v 9],.t [.str jK,.new 0 [.str cJ,.list [.v 21]]]]]),.ite (.c .eq (.bor 21) (.str qB)) [.ite (.not (.isi (.v 19) 1)) [.bad] []] [.ite (.c .ne (.v 19) (.t [.str cJ,.comp (.call 100 [.v 41,.v 21]) [41] false (.v 10) none,.v 11])) [.bad] []],.a 22 (.sub (.list [.str [97],.str [46],.str [97,98],.str [],.str [98]]) (.b .mod (.cb 88 1 []) (.int 5))),.a 23 (.sub (.list [.str [120],.str [],.none,.str hH]) (.b .mod (.cb 88 1 []) (.int 4))),.a 24 (.c .eq (.b .mod (.cb 88 1 []) (.int 2)) (.int 1)),.a 6 (.list [.t [.none,.new 0 [.str cJ,.list [.v 22]]],.t [.none,.new 0 [.str cJ,.list [.v 23]]],.t [.str [120],.v 9]]),.expr (.lm .append 6 [.t [.str jt,.new 0 [.str dJ,.list [.i (.v 24) (.int 1) (.int 0)]]]]),.for [25] false (.list [.bool false,.bool true]) [.ite (.or [.not (.call 103 [.v 22,.v 24]),.and [.c .eq (.bor 23) (.str hH),.not (.v 24)]]) [.a 16 (.v 2)] [.ite (.and [.c .eq (.bor 22) (.str []),.c .ne (.bor 10) (.list [])]) [.a 16 (.str zI)] [.a 16 (.t [.str cJ,.comp (.call 101 [.v 42,.v 22,.v 23,.v 25]) [42] false (.v 10) none,.v 11])]],.ite (.c .ne (.call 94 [.i (.v 25) (.fn 83) (.fn 82),.v 6]) (.v 16)) [.bad] []],.a 16 (.v 2),.ite (.call 103 [.v 22,.v 24]) [.a 16 (.t [.str dJ,.comp (.i (.and [.c .isn (.bor 43) .none,.c .inn (.v 22) (.bor 43)]) (.int 1) (.int 0)) [43] false (.v 10) none,.none])] [],.ite (.c .ne (.call 94 [.fn 84,.list [.sub (.v 6) (.int 0),.sub (.v 6) (.int 2),.sub (.v 6) (.int 3)]]) (.v 16)) [.bad] [],.a 19 (.call 94 [.fn 70,.list [.t [.none,.v 9],.t [.str vV,.new 0 [.str cJ,.list [.v 22]]],.sub (.v 6) (.int 3)]]),.ite (.c .ne (.f 9 0) (.str cJ)) [.a 16 (.str zG)] [.ite (.and [.c .ne (.bor 10) (.list []),.not (.call 103 [.v 22,.v 24])]) [.a 16 (.v 2)] [.a 16 (.t [.str eV,.comp (.call 102 [.v 44,.v 22]) [44] false (.v 10) none,.v 11])]],.ite (.c .ne (.v 19) (.v 16)) [.bad] [],.a 19 (.call 94 [.fn 85,.list [.t [.none,.v 9]]]),.ite (.and [.c .eq (.f 9 0) (.str dv),.c .isn (.f 9 2) .none]) [.ite (.c .ne (.bor 19) (.str As)) [.bad] []] [.a 26 (.i (.c .eq (.f 9 0) (.str cJ)) .none (.int 2)),.ite (.c .ne (.v 19) (.t [.str dv,.comp (.i (.c .is (.bor 45) .none) (.v 26) (.bi .len [.v 45])) [45] false (.v 10) none,.v 11])) [.bad] []],.a 27 (.new 0 [.str cJ,.list [.v 22]]),.a 19 (.call 94 [.fn 79,.list [.t [.none,.v 9],.t [.none,.v 27]]]),.ite (.c .ne (.f 9 0) (.str cJ)) [.a 16 (.str zF)] [.a 16 (.t [.str dJ,.comp (.i (.c .is (.bor 46) .none) .none (.i (.c .eq (.slice (.v 46) none (some (.bi .len [.v 22]))) (.v 22)) (.int 1) (.int 0))) [46] false (.v 10) none,.none])],.ite (.c .ne (.v 19) (.v 16)) [.bad] [],.a 28 (.comp (.sub (.list [.int 0,.int 1,.int 2,.none,.neg (.int 1)]) (.b .mod (.cb 88 1 []) (.int 5))) [47] true (.b .add (.int 1) (.b .mod (.cb 88 1 []) (.int 3))) none),.a 19 (.call 94 [.fn 86,.list [.t [.none,.v 9],.t [.none,.new 0 [.str dv,.v 28]]]]),.a 16 (.list []),.for [17] true (.i (.c .ne (.bor 10) (.list [])) (.bi .max [.bi .len [.v 10],.bi .len [.v 28]]) (.int 0)) [.a 29 (.sub (.v 10) (.b .mod (.v 17) (.bi .len [.v 10]))),.a 30 (.sub (.v 28) (.b .mod (.v 17) (.bi .len [.v 28]))),.ite (.and [.c .isn (.bor 29) .none,.c .isn (.bor 30) .none,.c .lt (.bor 30) (.int 0)]) [.ret (.c .eq (.bor 19) (.str zH))] [],.expr (.lm .append 16 [.i (.or [.c .is (.bor 29) .none,.c .is (.bor 30) .none]) .none (.b .mul (.v 29) (.v 30))])],.ite (.and [.c .isn (.bor 11) .none,.c .ne (.bi .len [.v 11]) (.bi .len [.v 16])]) [.a 11 .none] [],.ite (.c .eq (.bor 10) (.list [])) [.a 11 .none] [],.ret (.c .eq (.v 19) (.t [.str cJ,.v 16,.v 11]))]
def TN:List S:=[.ret (.call 59 [.v 0,.v 1])]
def TP:List S:=[.ret (.call 61 [.v 2,.sub (.v 1) (.int 0),.v 0,.v 3])]
def fns:List Fn:=[
 ⟨1,false,[],1,L6⟩,
 ⟨1,false,[],2,LG⟩,
 ⟨2,false,[],4,Kc⟩,
 ⟨1,false,[],4,Lq⟩,
 ⟨1,false,[],4,KQ⟩,
 ⟨1,false,[],1,Kl⟩,
 ⟨3,false,[],4,NB⟩,
 ⟨2,false,[],4,Kx⟩,
 ⟨1,false,[],2,Km⟩,
 ⟨2,false,[],4,KI⟩,
 ⟨2,false,[],7,Ly⟩,
 ⟨2,false,[],11,Ko⟩,
 ⟨2,false,[],3,Nx⟩,
 ⟨2,false,[],6,Kk⟩,
 ⟨2,false,[iY 7],2,Ku⟩,
 ⟨1,true,[],1,Ka⟩,
 ⟨4,true,[ox],4,K5⟩,
 ⟨1,false,[],1,TR⟩,
 ⟨1,false,[],1,Mi⟩,
 ⟨1,false,[],1,Md⟩,
 ⟨1,false,[],1,L4⟩,
 ⟨2,true,[],2,Qa⟩,
 ⟨2,false,[ox],3,Mg⟩,
 ⟨1,false,[],2,Ny⟩,
 ⟨1,false,[],1,L7⟩,
 ⟨1,false,[],1,L5⟩,
 ⟨1,false,[],1,Qb⟩,
 ⟨2,false,[],2,Ls⟩,
 ⟨2,false,[],2,KL⟩,
 ⟨2,false,[],2,Lx⟩,
 ⟨1,false,[],5,Kq⟩,
 ⟨1,false,[],5,Lz⟩,
 ⟨1,false,[],2,Nw⟩,
 ⟨1,false,[],2,KH⟩,
 ⟨2,true,[],2,KJ⟩,
 ⟨3,true,[],3,K2⟩,
 ⟨1,true,[],3,K6⟩,
 ⟨1,true,[],2,K4⟩,
 ⟨2,true,[],4,K0⟩,
 ⟨1,true,[],3,K1⟩,
 ⟨2,true,[],2,K3⟩,
 ⟨1,true,[],2,K9⟩,
 ⟨3,false,[ox],6,Kt⟩,
 ⟨3,false,[ox],7,TU⟩,
 ⟨2,false,[],2,Mj⟩,
 ⟨4,false,[],4,Me⟩,
 ⟨1,false,[],1,K7⟩,
 ⟨2,true,[],2,KR⟩,
 ⟨3,false,[],5,Mb⟩,
 ⟨2,false,[],2,KO⟩,
 ⟨2,false,[],3,Lr⟩,
 ⟨2,false,[],8,xY⟩,
 ⟨3,false,[],4,Ke⟩,
 ⟨2,false,[],3,Ky⟩,
 ⟨3,false,[],4,Le⟩,
 ⟨4,false,[],7,Kf⟩,
 ⟨2,false,[],5,Kj⟩,
 ⟨1,false,[],1,LD⟩,
 ⟨1,false,[],1,LC⟩,
 ⟨2,false,[],2,TV⟩,
 ⟨2,false,[],2,Kz⟩,
 ⟨4,false,[],7,Ld⟩,
 ⟨2,false,[],2,Kw⟩,
 ⟨2,false,[],2,LB⟩,
 ⟨3,false,[],3,LA⟩,
 ⟨3,false,[],5,Nz⟩,
 ⟨3,false,[],7,CQ⟩,
 ⟨3,false,[],3,Mc⟩,
 ⟨3,false,[],6,Lp⟩,
 ⟨2,false,[],3,Kn⟩,
 ⟨3,false,[],12,y1⟩,
 ⟨1,false,[],3,CR⟩,
 ⟨3,false,[],12,CX⟩,
 ⟨3,false,[],12,CO⟩,
 ⟨3,false,[],11,CL⟩,
 ⟨3,false,[],3,L3⟩,
 ⟨3,false,[],3,KZ⟩,
 ⟨3,false,[],7,b_b_trimws⟩,
 ⟨3,false,[],5,NA⟩,
 ⟨3,false,[],5,Kb⟩,
 ⟨4,false,[],5,Kv⟩,
 ⟨3,false,[],12,b_replace_all⟩,
 ⟨3,false,[],3,Q9⟩,
 ⟨3,false,[],3,Nv⟩,
 ⟨3,false,[],12,Db⟩,
 ⟨3,false,[],13,Dc⟩,
 ⟨3,false,[],13,v8⟩,
 ⟨1,false,[],5,b_law_row⟩,
 ⟨1,true,[],1,Lu⟩,
 ⟨1,true,[],1,Lw⟩,
 ⟨2,true,[],5,Lc⟩,
 ⟨1,true,[],7,b_law_value⟩,
 ⟨1,false,[],4,CY⟩,
 ⟨1,false,[],1,L9⟩,
 ⟨2,false,[],5,b_law_asked⟩,
 ⟨3,false,[],12,y2⟩,
 ⟨1,true,[],2,La⟩,
 ⟨3,false,[],5,Lv⟩,
 ⟨4,false,[],7,Mf⟩,
 ⟨2,false,[],6,L8⟩,
 ⟨2,false,[],2,Ks⟩,
 ⟨4,false,[],7,Kr⟩,
 ⟨2,false,[],6,KN⟩,
 ⟨2,false,[],3,Lb⟩,
 ⟨1,false,[],48,b_law⟩,
 ⟨2,false,[],2,TN⟩,
 ⟨4,false,[],4,TP⟩]
abbrev pw:rF:=CG
def attrNames:List String:=["kind","items","attrs","shared","loose","formals","tags","used","places","message"]
def an(a:Nat):a6:=eG (attrNames.getD a "")
def gO(a:Nat):Tx:=((attrNames.getD a "").toList).map Char.toNat
structure LamT where
 params:Arguments
 body:a8
 scope:cD
 caps:List a6
 pos:c8
 qual:a6
structure Cfg where
 w:cQ
 B:bP
 K:Frag
 fa:Nat->b7
 ca:Nat->b7
 xa:b7
 xnm:a6
 lam:Nat->Option LamT
 lcd:Nat->b7
 ltb:Nat->b7
 mg:a6->Option a4
 mb:a6->Option a4
 fnm:Nat->a6
 gnm:Nat->a6
 cnm:Nat->a6
def Cfg.tabs(c:Cfg)(b:b7):Prop:=∃l T,c.lam l=some T/\b=c.ltb l
set_option genCtorIdx true in
inductive Tag where
 | no | gr | z | fr | lo | cl | own (x k:Nat)
abbrev Ow:=b7->Tag
abbrev Oz:Ow:=λU=>.z
inductive FlipD:Data->Data->Prop
 | mk (es es':Array fy) (n n':Nat) (e:fy) (b':Bool) (h:es'.toList=es.toList.set 3 ⟨e.hash,e.key,.bool b'⟩) (l:es.toList.length=5) (k:es.toList[3]? =some e) (k0:∃e0 t0,es.toList[0]? =some e0/\e0.key= .str (an 0) t0):FlipD (.dict es n) (.dict es' n')
inductive TExtD:Data->Data->Prop
 | mk (vs more):TExtD (.fields vs) (.fields (vs++more))
structure Like(c:Cfg)(t:Tag)(b:b7)(o o':cn):Prop where
 cls:o'.cls=o.cls
 dict:o'.dict=o.dict
 sl:t≠ .fr->t≠ .lo->o'.slots=o.slots
 data:o'.data=o.data\/((t= .z\/t= .cl)/\FlipD o.data o'.data)\/(t= .gr/\c.tabs b/\TExtD o.data o'.data)
theorem FlipD.trans{a b d:Data}(x:FlipD a b)(y:FlipD b d):FlipD a d:=by
 cases x with | mk es v n t e z h l k k0=>
 cases y with | mk _ p _ w f u q r k2 k3=>
 rw [h] at q k2;refine .mk es p n w e u ?_ l k k0;rw [q,xy];have:f=⟨e.hash,e.key,.bool z⟩:=by rw [xl (om0 l)] at k2;exact (bv k2).symm
 rw [this]
theorem TExtD.trans{a b d:Data}(x:TExtD a b)(y:TExtD b d):TExtD a d:=by cases x;cases y;rw [Array.append_assoc];exact .mk ..
theorem Like.refl(c:Cfg)(t:Tag)(b:b7)(o:cn):Like c t b o o:=⟨rfl,rfl,λU U=>rfl,.inl rfl⟩
theorem FlipD.dict(x:FlipD a b):∃es n,a= .dict es n:=by cases x;exact (ix _ _ rfl)
theorem TExtD.fields(x:TExtD a b):∃vs,a= .fields vs:=by cases x;exact ⟨_,rfl⟩
theorem Li(x:FlipD a b)(y:TExtD b d):False:=by cases x;cases y
theorem Lh(x:TExtD a b)(y:FlipD b d):False:=by cases x;cases y
theorem Like.trans{t:Tag}{b:b7}(x:Like c t b o k)(y:Like c t b k o₂):Like c t b o o₂:=by
 refine ⟨y.cls.trans x.cls,y.dict.trans x.dict,λq u=>(y.sl q u).trans (x.sl q u),?_⟩;have v:=x.data;have p:=y.data;rcases v with e | ⟨z,f⟩ | ⟨t,m,f⟩
 .rw [e] at p;exact p
 .rcases p with e | ⟨U,g⟩ | ⟨U,U,g⟩
  .rw [e];exact .inr (.inl ⟨z,f⟩)
  .exact .inr (.inl ⟨z,f.trans g⟩)
  exact (Li f g).elim
 rcases p with e | ⟨U,g⟩ | ⟨U,U,g⟩
 .rw [e];exact .inr (.inr ⟨t,m,f⟩)
 .exact (Lh f g).elim
 exact .inr (.inr ⟨t,m,f.trans g⟩)
theorem Like.same(x:Like c t b o y)(k:(t≠ .z/\t≠ .cl)\/∀es n,o.data≠ .dict es n)(p:t≠ .gr\/∀vs,o.data≠ .fields vs):y.data=o.data:=by
 rcases x.data with e | ⟨z,f⟩ | ⟨t,m,f⟩
 .exact e
 .rcases k with h | h
  .exact (z.elim h.1 h.2).elim
  exact fY f.dict λes n q=>absurd q (h _ _)
 rcases p with h | h
 .exact absurd t h
 exact xE f.fields λvs q=>absurd q (h _)
def mv(q:Bool):Tag->Bool
 | .own _ _=>true
 | .lo=>q
 | .cl=>q
 | _=>false
def Tg(t k:Tag):Prop:=k=t\/mv false t=true\/(t= .cl/\k= .z)
def Step(c:Cfg)(q:Bool)(O:Ow)(h:bP)(O':Ow)(h':bP):Prop:=∀b o,h.get? b=some o->∃k,h'.get? b=some k/\Tg (O b) (O' b)/\(mv q (O b)=true\/Like c (O b) b o k)
theorem Step.refl(c:Cfg)(q:Bool)(O:Ow)(h:bP):Step c q O h O h:=λb o e=>(cF o e (.inl rfl) (.inr (.refl ..)))
theorem t8(h:mv false t=true)(q:Bool):mv q t=true:=by induction t using Tag.casesOn<;>first | rfl | injection h
theorem Like.clz(x:Like c .z b o o'):Like c .cl b o o':=⟨x.cls,x.dict,λU U=>x.sl (λh=>by injection h) (λh=>by injection h),x.data.imp id (Or.imp (λy=>⟨.inr rfl,y.2⟩) λy=>by injection y.1)⟩
theorem Step.trans{q:Bool}{O O' u:Ow}{h h' h'':bP}(x:Step c q O h O' h')(y:Step c q O' h' u h''):Step c q O h u h'':=by
 refine λb o e=>ck (x b o e) λj m t l=>ck (y b j m) λw v k p=>(a7 w v ?_);rcases t with t | t | ⟨t,i⟩
 .rw [t] at k p;refine ⟨k,?_⟩;rcases l with l | l
  .exact .inl l
  exact p.imp id l.trans
 .exact ⟨.inr (.inl t),.inl (t8 t q)⟩
 rw [i] at k p;rw [t] at l ⊢;have r:u b= .z:=by
  rcases k with k | k | ⟨k,U⟩
  .exact k
  .injection k
  injection k
 refine ⟨.inr (.inr ⟨rfl,r⟩),?_⟩;rcases l with l | l
 .exact .inl l
 rcases p with p | p
 .injection p
 exact .inr (l.trans p.clz)
theorem Step.up{q:Bool}(x:Step c false O h O' h'):Step c q O h O' h':=λb o e=>ck (x b o e) λp k t l=>(cF p k t (l.imp (λm=>t8 m q) id))
def Kp(h h':bP):Prop:=∀b o,h.get? b=some o->h'.get? b=some o
theorem Kp.refl(h:bP):Kp h h:=λU U e=>e
theorem Kp.trans{h h' h'':bP}(x:Kp h h')(y:Kp h' h''):Kp h h'':=λb o e=>y b o (x b o e)
theorem Kp.push(h:bP)(o:cn):Kp h (h.push o):=λU U e=>cS o e
theorem Kp.step(x:Kp h h')(c:Cfg)(q:Bool)(O O':Ow)(k:∀b o,h.get? b=some o->O' b=O b):Step c q O h O' h':=λb o e=>(cF o (x b o e) (.inl (k b o e)) (.inr (.refl ..)))
abbrev nM(o:cn)(T:String):Prop:=o.cls= .type T/\o.dict=none/\o.slots= #[]
inductive SqA(O:Ow)(h:bP)(t:Tag)(T:String)(v:a4)(vs:Array a4):Prop
 | mk (a:b7) (o:cn) (n:Nat) (v:v= .ref a) (z:O a=t) (e:h.get? a=some o) (b:nM o T) (d:o.data= .seq vs n)
def KRs(c:Cfg):List Tx->List fy->Prop
 | [],es=>es=[]
 | k::ks,es=>∃t v r,es=⟨ib c.w.params (SS k),.str (SS k) t,v⟩::r/\KRs c ks r
inductive DcA(c:Cfg)(O:Ow)(h:bP)(t:Tag)(ks:List Tx)(v:a4)(vs:List a4):Prop
 | mk (a:b7) (o:cn) (es:Array fy) (n:Nat) (v:v= .ref a) (z:O a=t) (e:h.get? a=some o) (b:nM o "dict") (d:o.data= .dict es n) (k:KRs c ks es.toList) (v:es.toList.map (·.val)=vs) (kk:jh ks)
inductive InA(c:Cfg)(O:Ow)(h:bP)(t t':Tag)(cl:Nat)(as:List Nat)(v:a4)(vs:List a4):Prop
 | mk (a d:b7) (o od:cn) (es:Array fy) (n:Nat) (v:v= .ref a) (z:O a=t) (z':O d=t') (e1:h.get? a=some o) (e2:o.cls= .ref (c.ca cl)) (e3:o.dict=some d) (e4:o.data= .plain) (e5:h.get? d=some od) (e6:od.cls= .type "dict") (e7:od.data= .dict es n)
   (k:KRs c (as.map gO) es.toList) (v:es.toList.map (·.val)=vs)
def CRs(O:Ow)(h:bP):List b7->List a4->Prop
 | [],vs=>vs=[]
 | a::as,vs=>∃v r,vs=v::r/\O a= .z/\h.IsCell a (some v)/\CRs O h as r
inductive ClA(c:Cfg)(O:Ow)(h:bP)(l:Nat)(v:a4)(vs:List a4):Prop
 | mk (a:b7) (o:cn) (T:LamT) (fd:lN) (cells:List b7) (k:b7) (v:v= .ref a) (z:O a= .z) (hl:c.lam l=some T) (e:h.get? a=some o) (ec:o.cls= .type "function") (ed:o.data= .func fd)
   (p1:fd.params=T.params) (p2:fd.body= .expr T.body) (p3:fd.scope=T.scope) (p4:fd.globals=gR) (p5:fd.closure=T.caps.zip cells) (p6:fd.defaults= .none) (p7:fd.kwdefaults= .none) (p8:fd.builtins=iB)
   (kc:fd.code= .ref k) (kz:O k= .z) (hc:h.CodeRec fd.code fd.qualname) (r:CRs O h cells vs) (hn:T.caps.length=cells.length) (nd:cells.Nodup)
mutual
def DR(c:Cfg)(O:Ow)(h:bP):D->a4->Prop
 | .none,v=>v= .none
 | .bool b,v=>v= .bool b
 | .int i,v=>∃t,v= .int i t
 | .str l,v=>cI l=true/\∃t,v= .str (SS l) t
 | .t ds,v=>∃vs,SqA O h .z "tuple" v vs/\DRs c O h ds vs.toList
 | .l ds,v=>∃vs,SqA O h .z "list" v vs/\DRs c O h ds vs.toList
 | .dct ks ds,v=>∃vs,DcA c O h .z ks v vs/\DRs c O h ds vs
 | .y k i x,v=>∃q u p b w,InA c O h .z .z 0 [0,1,2,3,4] v [q,u,p,.bool b,.bool w]/\DR c O h k q/\DR c O h i u/\DR c O h x p
 | .nul k x,v=>∃q p,InA c O h .z .z 1 [0,2] v [q,p]/\DR c O h k q/\DR c O h x p
 | .fn f,v=>v= .ref (c.fa f)
 | .clo l r,v=>∃vs,ClA c O h l v vs/\DRs c O h r vs
def DRs(c:Cfg)(O:Ow)(h:bP):List D->List a4->Prop
 | [],vs=>vs=[]
 | d::ds,vs=>∃v r,vs=v::r/\DR c O h d v/\DRs c O h ds r
end
def R1(c:Cfg)(O:Ow)(h:bP)(t k:Nat)(v:V)(r:a4):Prop:=match v with
 | .d x=>DR c O h x r
 | .k x=>DR c O h x r
 | .ol xs=>∃vs,SqA O h (.own t k) "list" r vs/\DRs c O h xs vs.toList
 | .od ks ds=>∃vs,DcA c O h (.own t k) ks r vs/\DRs c O h ds vs
 | _=>False
def RF(c:Cfg)(O:Ow)(h:bP)(t:Nat):Nat->List V->List a4->Prop
 | _,[],us=>us=[]
 | k,v::vs,us=>∃u r,us=u::r/\R1 c O h t k v u/\RF c O h t (k+1) vs r
def VR(c:Cfg)(O:Ow)(h:bP)(t:Nat)(v:V)(r:a4):Prop:=match v with
 | .oi k as vs=>∃us,InA c O h (.own t 0) (.own t 1) k as r us/\RF c O h t 2 vs us
 | v=>R1 c O h t 0 v r
open Mine.Internal.Kp renaming push->gm,refl->rW
theorem wb(a:Nat)(k:a< 10):SS (gO a)=an a:=by revert a;decide +kernel
theorem an0:an 0=SS jr:=by decide +kernel
theorem mf(h:SS a=SS b):a=b:=by
 unfold SS at h;injection h with h
 exact (by simpa using congrArg Array.toList h)
def ZK(c:Cfg)(O:Ow)(h:bP)(O':Ow)(h':bP):Prop:=∀b o,O b= .z->h.get? b=some o->∃k,h'.get? b=some k/\O' b= .z/\Like c .z b o k
def Ex(O:Ow)(h:bP)(t:Nat)(O':Ow)(h':bP)(Y:Nat):Prop:=∀b k o,O b= .own t k->h.get? b=some o->h'.get? b=some o/\O' b= .own Y k
section
variable {c:Cfg}{q:Bool}{O O':Ow}{h h':bP}{t Y:Nat}
theorem Step.zk(st:Step c q O h O' h'):ZK c O h O' h':=λb o z e=>by
 refine ck (st b o e) λp k t l=>?_;rw [z] at t l;refine (cF p k ?_ (l.resolve_left λm=>by injection m));rcases t with t | t | ⟨t,U⟩
 .exact t
 .injection t
 injection t
theorem ZK.tag(k:∀b,O b= .z->O' b= .z):ZK c O h O' h:=λb o z e=>(cF o e (k b z) (.refl ..))
theorem Kp.zk(k:Kp h h')(p:∀b,O b= .z->O' b= .z):ZK c O h O' h':=λb o z e=>(cF o (k b o e) (p b z) (.refl ..))
theorem Like.bare{t:Tag}{b:b7}{o k:cn}(x:Like c t b o k){T:String}(p:t≠ .fr)(y:t≠ .lo)(e:nM o T):nM k T:=⟨x.cls.trans e.1,x.dict.trans e.2.1,(x.sl p y).trans e.2.2⟩
theorem Like.aA(x:Like c .z b o p)(k:∀es n,o.data≠ .dict es n):p.data=o.data:=x.same (.inr k) (.inl λh=>by injection h)
theorem SqA.ext(x:ZK c O h O' h'){T v vs}(s:SqA O h .z T v vs):SqA O' h' .z T v vs:=by obtain ⟨a,o,n,v,z,e,b,d⟩:=s;exact ck (x a o z e) λp k y l=>⟨a,p,n,v,y,k,l.bare (λh=>by injection h) (λh=>by injection h) b,(l.aA λes n q=>by rw [d] at q;injection q).trans d⟩
theorem KRs.len{ks es}(r:KRs c ks es):ks.length=es.length:=by
 induction ks generalizing es with
 | nil=>obtain rfl:=r;rfl
 | cons k ks p=>refine d8 r λt v r y x=>?_;subst y;exact congrArg pK (p x)
theorem KRs.head(x:KRs c ks es)(h:es[0]? =some p)(k:p.key= .str (an 0) u):jr∈ks:=by
 induction ks using bO with
 | nil=>rw [show es=[] from x] at h;injection h
 | cons z ks=>
  refine d8 x λt v r y U=>?_;clear x;subst y;cases h;rw [an0] at k;injection k with k
  rw [mf k];exact .head _
theorem DcA.ext(x:ZK c O h O' h'){ks v vs}(s:DcA c O h .z ks v vs):DcA c O' h' .z ks v vs:=by
 obtain ⟨a,o,es,n,v,z,e,b,d,k,w,p⟩:=s;refine ck (x a o z e) λy u m l=>⟨a,y,es,n,v,m,u,l.bare (λh=>by injection h) (λh=>by injection h) b,?_,k,w,p⟩;rw [<-d];rcases l.data with q | ⟨U,f⟩ | ⟨q,U⟩
 .exact q
 .rw [d] at f;generalize y.data=dd at f;cases f with | mk _ _ _ _ _ _ _ _ _ k0=>exact cU k0 λj i r k0=>absurd (k.head r k0) p.1
 injection q
theorem KRs.bh{b:Bool}{ks es}{i:Nat}(x:KRs c ks es)(h:es[i]? =some e):KRs c ks (es.set i ⟨e.hash,e.key,.bool b⟩):=by
 induction ks generalizing es i with
 | nil=>obtain rfl:=x;injection h
 | cons k ks p=>
  obtain ⟨t,v,r,rfl,x⟩:=x;induction i using gF with
  | zero=>cases h;exact (eM t _ r rfl x)
  | succ i=>exact (eM t v _ rfl (p x h))
theorem InA.ext(x:ZK c O h O' h'){i as v vs}(s:InA c O h .z .z i as v vs):∃p,InA c O' h' .z .z i as v p/\(p=vs\/∃b,p=vs.set 3 (.bool b)):=by
 obtain ⟨a,d,o,od,es,n,v,za,zd,A,Q,M,N,e5,I,G,k,w⟩:=s;refine ck (x a o za A) λH g y l=>ck (x d od zd e5) λr B u m=>?_;have C:=(l.aA λes n q=>by rw [N] at q;injection q).trans N;rcases m.data with q | ⟨U,f⟩ | ⟨q,U⟩
 .exact (a7 vs ⟨a,d,H,r,es,n,v,y,u,g,l.cls.trans Q,l.dict.trans M,C,B,m.cls.trans I,q.trans G,k,w⟩ (.inl rfl))
 .rw [G] at f;generalize hq:r.data=dd at f;cases f with | mk _ j _ n' e b hs l5 h3 _=>
  refine (a7 (vs.set 3 (.bool b)) ⟨a,d,H,r,j,n',v,y,u,g,l.cls.trans Q,l.dict.trans M,C,B,m.cls.trans I,hq,?_,?_⟩ (.inr ⟨b,rfl⟩))
  .rw [hs];exact k.bh h3
  rw [hs,List.map_set,w]
 injection q
theorem NM{t:Tag}{a:b7}{v:Option a4}{o p:cn}(y:h'.get? a=some p)(k:o.data= .cell v)(l:Like c t a o p):h'.IsCell a v:=(a7 p y ((l.same (.inr λes n q=>by rw [k] at q;injection q) (.inr λvs q=>by rw [k] at q;injection q)).trans k))
theorem CRs.ext(x:ZK c O h O' h'){as vs}(r:CRs O h as vs):CRs O' h' as vs:=by
 induction as generalizing vs with
 | nil=>exact r
 | cons a as p=>refine oS r λv r e z u s=>?_;obtain ⟨o,g,d⟩:=u;exact ck (x a o z g) λw k y l=>(lp v r e y (NM k d l) (p s))
theorem ClA.ext(x:ZK c O h O' h'){l v vs}(s:ClA c O h l v vs):ClA c O' h' l v vs:=by
 obtain ⟨a,o,T,fd,p,k,v,z,d,e,f,w,I,G,C,B,H,A,b,p8,y,Q,g,r,hn,nd⟩:=s;refine ck (x a o z e) λM i z' l=>?_;have m:O' k= .z/\h'.CodeRec fd.code fd.qualname:=by refine sG g λk' N vs tt q1 q2 j q4=>?_;rw [y] at q1;obtain rfl:=ez q1;exact ck (x k N Q q2) λu w1 w2 w3=>⟨w2,k,u,vs,tt,y,w1,(w3.aA λes n q=>by rw [j] at q;injection q).trans j,q4⟩
 exact ⟨a,M,T,fd,p,k,v,z',d,i,l.cls.trans f,(l.aA λes n q=>by rw [w] at q;injection q).trans w,I,G,C,B,H,A,b,p8,y,m.1,m.2,r.ext x,hn,nd⟩
theorem SP(x:ZK c O h O' h'){v r u p b y}(s:InA c O h .z .z 0 [0,1,2,3,4] v [r,u,p,.bool b,.bool y]):∃k,InA c O' h' .z .z 0 [0,1,2,3,4] v [r,u,p,.bool k,.bool y]:=by
 obtain ⟨l,s',w | ⟨k,w⟩⟩:=s.ext x
 .exact ⟨b,w▸s'⟩
 rw [w] at s';exact ⟨k,s'⟩
theorem Rr(x:ZK c O h O' h'){v p k}(s:InA c O h .z .z 1 [0,2] v [p,k]):InA c O' h' .z .z 1 [0,2] v [p,k]:=by
 obtain ⟨y,s',w | ⟨u,w⟩⟩:=s.ext x
 .exact w▸s'
 rw [w] at s';exact s'
theorem DR.ext(x:ZK c O h O' h'){d v}(e:DR c O h d v):DR c O' h' d v:=by revert v;exact D.rec (motive_1:=λd=>∀{v},DR c O h d v->DR c O' h' d v) (motive_2:=λds=>∀{vs},DRs c O h ds vs->DRs c O' h' ds vs) (λe=>e) (λU U e=>e) (λU U e=>e) (λU U e=>e) (λds p v r=>a5 r λvs s r=>(a7 vs (s.ext x) (p r))) (λds p v r=>a5 r λvs s r=>(a7 vs (s.ext x) (p r))) (λks ds p v r=>a5 r λvs s r=>(a7 vs (s.ext x) (p r))) (λk i y z u n v r=>gv r λm Q w b N=>jN N λg s j M f=>xE (SP x s) λo s'=>⟨m,Q,w,o,g,s',z j,u M,n f⟩) (λk y z u v r=>c0 r λm w s j f=>(d6 m w (Rr x s) (z j) (u f))) (λU U e=>e) (λl I p v r=>a5 r λvs s r=>(a7 vs (s.ext x) (p r))) (λe=>e) (λd ds z u vs r=>c0 r λv r e a s=>(d6 v r e (z a) (u s))) d
theorem DRs.ext(x:ZK c O h O' h'){ds vs}(r:DRs c O h ds vs):DRs c O' h' ds vs:=by
 induction ds generalizing vs with
 | nil=>exact r
 | cons d ds k=>refine c0 r λv r e a s=>?_;exact (d6 v r e (a.ext x) (k s))
theorem DRs.cons{d ds v vs}(a:DR c O h d v)(r:DRs c O h ds vs):DRs c O h (d::ds) (v::vs):=(d6 v vs rfl a r)
theorem DRs.len{ds vs}(r:DRs c O h ds vs):ds.length=vs.length:=by
 induction ds generalizing vs with
 | nil=>obtain rfl:=r;rfl
 | cons d ds k=>refine c0 r λv r p U s=>?_;subst p;exact congrArg pK (k s)
theorem DRs.get{ds vs}{i:Nat}(r:DRs c O h ds vs)(e:ds[i]? =some d):∃v,vs[i]? =some v/\DR c O h d v:=by
 induction ds generalizing vs i with
 | nil=>injection e
 | cons p ds k=>
  obtain ⟨v,r,rfl,a,s⟩:=r;induction i using gF with
  | zero=>cases e;exact (a7 v rfl a)
  | succ i=>exact k (vs:=r) s e
theorem DRs.aT{ds vs}{i:Nat}(r:DRs c O h ds vs)(e:vs[i]? =some v):∃d,ds[i]? =some d/\DR c O h d v:=by
 induction ds generalizing vs i with
 | nil=>obtain rfl:=r;injection e
 | cons k ds p=>
  obtain ⟨v,r,rfl,a,s⟩:=r;induction i using gF with
  | zero=>cases e;exact (a7 k rfl a)
  | succ i=>exact p s e
theorem DRs.app{ds vs es us}(r:DRs c O h ds vs)(w:DRs c O h es us):DRs c O h (ds++es) (vs++us):=by
 induction ds generalizing vs with
 | nil=>obtain rfl:=r;exact w
 | cons d ds k=>refine c0 r λv r p a s=>?_;subst p;exact .cons a (k s)
theorem DRs.snoc{ds vs d v}(a:DRs c O h ds vs)(b:DR c O h d v):DRs c O h (ds++[d]) (vs++[v]):=a.app (.cons b rfl)
theorem DRs.drop{ds vs}(n:Nat)(r:DRs c O h ds vs):DRs c O h (ds.drop n) (vs.drop n):=by
 induction n generalizing ds vs with
 | zero=>exact r
 | succ n k=>induction ds using bO with
  | nil=>obtain rfl:=(show vs=[] from r);exact r
  | cons d ds=>obtain ⟨v,r,rfl,U,s⟩:=r;exact k s
theorem DRs.take{ds vs}(n:Nat)(r:DRs c O h ds vs):DRs c O h (ds.take n) (vs.take n):=by
 induction n generalizing ds vs with
 | zero=>rfl
 | succ n k=>induction ds using bO with
  | nil=>obtain rfl:=(show vs=[] from r);exact r
  | cons d ds=>obtain ⟨v,r,rfl,a,s⟩:=r;exact DRs.cons a (k s)
theorem DRs.rev{ds vs}(r:DRs c O h ds vs):DRs c O h ds.reverse vs.reverse:=by
 induction ds generalizing vs with
 | nil=>obtain rfl:=(show vs=[] from r);exact r
 | cons d ds k=>refine c0 r λv r p a s=>?_;subst p;rw [C4,C4];exact (k s).snoc a
theorem DRs.set{v:a4}(k:DR c O h d v){ds vs}(i:Nat)(r:DRs c O h ds vs):DRs c O h (ds.set i d) (vs.set i v):=by
 induction ds generalizing vs i with
 | nil=>obtain rfl:=(show vs=[] from r);exact r
 | cons d ds p=>
  refine c0 r λv r y a s=>?_;subst y;induction i using gF with
  | zero=>exact .cons k s
  | succ i=>exact .cons a (p i s)
theorem DRs.mem{ds vs}(r:DRs c O h ds vs)(m:v∈vs):∃d,DR c O h d v:=by
 induction ds generalizing vs with
 | nil=>obtain rfl:=r;cases m
 | cons d ds k=>
  refine c0 r λv r p a s=>?_;subst p;cases m with
  | head=>exact ⟨d,a⟩
  | tail U m=>exact k s m
theorem InA.ex(x:Ex O h t O' h' Y){z as v vs k p}(s:InA c O h (.own t k) (.own t p) z as v vs):InA c O' h' (.own Y k) (.own Y p) z as v vs:=by obtain ⟨a,d,o,y,es,n,v,l,zd,u,m,j,i,r,f,g,e,w⟩:=s;exact ⟨a,d,o,y,es,n,v,(x a k o l u).2,(x d p y zd r).2,(x a k o l u).1,m,j,i,(x d p y zd r).1,f,g,e,w⟩
theorem SqA.mv{T k:Tag}(x:∀b o,O b=T->h.get? b=some o->h'.get? b=some o/\O' b=k){Z v vs}(s:SqA O h T Z v vs):SqA O' h' k Z v vs:=by obtain ⟨a,o,n,v,z,e,b,d⟩:=s;exact ⟨a,o,n,v,(x a o z e).2,(x a o z e).1,b,d⟩
theorem DcA.mv{T k:Tag}(x:∀b o,O b=T->h.get? b=some o->h'.get? b=some o/\O' b=k){ks v vs}(s:DcA c O h T ks v vs):DcA c O' h' k ks v vs:=by obtain ⟨a,o,es,n,v,z,e,b,d,p,w,y⟩:=s;exact ⟨a,o,es,n,v,(x a o z e).2,(x a o z e).1,b,d,p,w,y⟩
theorem R1.move(p:ZK c O h O' h'){k y:Nat}(x:∀b o,O b= .own t k->h.get? b=some o->h'.get? b=some o/\O' b= .own Y y){v r}(e:R1 c O h t k v r):R1 c O' h' Y y v r:=by
 induction v using bS with
 | d U=>exact DR.ext p e
 | k U=>exact DR.ext p e
 | ol U=>refine a5 e λvs s r=>?_;exact (a7 vs (s.mv x) (r.ext p))
 | od U U=>refine a5 e λvs s r=>?_;exact (a7 vs (s.mv x) (r.ext p))
 | _=>exact v5 e
theorem R1.ext(p:ZK c O h O' h')(x:Ex O h t O' h' Y){k:Nat}{v r}(y:R1 c O h t k v r):R1 c O' h' Y k v r:=y.move p λb=>x b k
theorem RF.ext(y:ZK c O h O' h')(x:Ex O h t O' h' Y){k vs us}(r:RF c O h t k vs us):RF c O' h' Y k vs us:=by
 induction vs generalizing k us with
 | nil=>exact r
 | cons v vs p=>refine c0 r λu r e a s=>?_;exact (d6 u r e (a.ext y x) (p s))
theorem VR.ext(p:ZK c O h O' h')(x:Ex O h t O' h' Y){v r}(e:VR c O h t v r):VR c O' h' Y v r:=by
 induction v using bS with
 | oi u as vs=>refine a5 e λus s f=>?_;exact (a7 us (s.ex x) (f.ext p x))
 | d y=>exact R1.ext (k:=0) (v:=.d y) p x e
 | k y=>exact R1.ext (k:=0) (v:=.k y) p x e
 | ol y=>exact R1.ext (v:=.ol y) p x e
 | od y z=>exact R1.ext (v:=.od y z) p x e
 | _=>exact v5 e
theorem SqA.fz{Y:Tag}(k:∀a,O a=Y->O' a= .z){T v vs}(s:SqA O h Y T v vs):SqA O' h .z T v vs:=by obtain ⟨a,o,n,v,z,e,b,d⟩:=s;exact ⟨a,o,n,v,k _ z,e,b,d⟩
theorem DcA.fz{Y:Tag}(k:∀a,O a=Y->O' a= .z){ks v vs}(s:DcA c O h Y ks v vs):DcA c O' h .z ks v vs:=by obtain ⟨a,o,es,n,v,z,e,b,d,p,w,y⟩:=s;exact ⟨a,o,es,n,v,k _ z,e,b,d,p,w,y⟩
theorem InA.fz{Y k:Tag}(g:∀a,O a=Y->O' a= .z)(p:∀a,O a=k->O' a= .z){y as v vs}(s:InA c O h Y k y as v vs):InA c O' h .z .z y as v vs:=by obtain ⟨a,d,o,Q,es,n,v,M,zd,u,r,l,m,j,i,f,e,w⟩:=s;exact ⟨a,d,o,Q,es,n,v,g _ M,p _ zd,u,r,l,m,j,i,f,e,w⟩
theorem R1.ai(p:∀b,O b= .z->O' b= .z){k:Nat}(y:∀b,O b= .own t k->O' b= .z){v r d}(e:R1 c O h t k v r)(q:iS v=some d):DR c O' h d r:=by
 induction v using bS with
 | d U=>cases q;exact DR.ext (.tag p) e
 | k U=>cases q;exact DR.ext (.tag p) e
 | ol U=>cases q;refine a5 e λvs s r=>?_;exact (a7 vs (s.fz y) (r.ext (.tag p)))
 | od U U=>cases q;refine a5 e λvs s r=>?_;exact (a7 vs (s.fz y) (r.ext (.tag p)))
 | _=>exact v5 e
theorem EL(e:Br v=true):∃b,v= .d (.bool b):=by
 induction v using bS with
 | d x=>induction x using c7 with
  | bool b=>exact ⟨b,rfl⟩
  | _=>exact ff e
 | _=>exact ff e
theorem eH{k:Type}{x:k}{P:Prop}(h:none=some x):P:=by injection h
theorem cX{k:Type}{b:Bool}{x:Option k}{y:k}(e:cG b x=some y):b=true/\x=some y:=by
 induction b with
 | true=>exact ⟨rfl,e⟩
 | false=>exact eH e
inductive FzO:Nat->List Nat->List V->D->Prop
 | y {k i x:V} {b b':Bool} {dk di dx:D} (hk:iS k=some dk) (hi:iS i=some di) (hx:iS x=some dx):FzO 0 [0,1,2,3,4] [k,i,x,.d (.bool b),.d (.bool b')] (.y dk di dx)
 | nul {k x:V} {dk dx:D} (hk:iS k=some dk) (hx:iS x=some dx):FzO 1 [0,2] [k,x] (.nul dk dx)
theorem Ot{k:Type}{b:Bool}{x:Option k}{y:k}(e:(if b then x else none)=some y):b=true/\x=some y:=by
 induction b with
 | true=>exact ⟨rfl,e⟩
 | false=>exact eH e
theorem Oc(q:Hk vs=some d):FzO 0 [0,1,2,3,4] vs d:=by
 induction vs using bO with | nil=>exact eH q | cons k vs=>
 induction vs using bO with | nil=>exact eH q | cons i vs=>
 induction vs using bO with | nil=>exact eH q | cons x vs=>
 induction vs using bO with | nil=>exact eH q | cons b vs=>
 induction vs using bO with | nil=>exact eH q | cons v vs=>
 induction vs using bO with | cons=>exact eH q | nil=>
 refine xA (Ot q) λp q=>xA (gY.mp p) λp u=>xE (EL p) λb z=>?_;clear p;subst z;refine xE (EL u) λv z=>?_;clear u;subst z;refine a5 (gZ.mp q) λdk r q=>a5 (gZ.mp q) λm w q=>a5 (gZ.mp q) λj l q=>?_;obtain rfl:=bv q;exact .y r w l
theorem Oa(q:Hj vs=some d):FzO 1 [0,2] vs d:=by
 induction vs using bO with | nil=>exact eH q | cons k vs=>
 induction vs using bO with | nil=>exact eH q | cons x vs=>
 induction vs using bO with | cons=>exact eH q | nil=>
 refine a5 (gZ.mp q) λdk p q=>a5 (gZ.mp q) λz y q=>?_;obtain rfl:=bv q;exact .nul p y
theorem Ge{c:Nat}{as bs:List Nat}{n:Nat}(h:(c==n&&as==bs)=true):c=n/\as=bs:=⟨eq_of_beq (gY.mp h).1,eq_of_beq (gY.mp h).2⟩
theorem Ob{k:Nat}{as:List Nat}(q:kE k as vs=some d):FzO k as vs d:=by
 by_cases h:(k==0&&as==[0,1,2,3,4])=true
 .have q:=(if_pos h).symm.trans q;refine xA (Ge h) λp y=>?_;subst p;clear h;subst y;exact Oc q
 have q:=(if_neg h).symm.trans q;refine xA (cX q) λh q=>xA (Ge h) λp y=>?_;subst p;clear h;subst y;exact Oa q
theorem VR.ai(u:∀b,O b= .z->O' b= .z)(p:∀b k,O b= .own t k->O' b= .z){v r d}(e:VR c O h t v r)(q:frz v=some d):DR c O' h d r:=by
 induction v using bS with
 | oi cl as vs=>
  refine a5 e λus s f=>?_;cases Ob q with
  | y m B j=>refine c0 f λi U o f1 M=>c0 M λg U n l N=>c0 N λH U Q C I=>c0 I λU U w ψ G=>c0 G λU U ω A x=>?_;subst o;subst n;subst Q;subst w;subst ψ;subst ω;subst A;clear G I N M f;subst x;exact ⟨i,g,H,_,_,s.fz (λa=>p a _) (λa=>p a _),f1.ai u (λb=>p b _) m,l.ai u (λb=>p b _) B,C.ai u (λb=>p b _) j⟩
  | nul m j=>refine c0 f λi U o f1 w=>c0 w λg U n l Q=>?_;subst o;subst n;clear w f;subst Q;exact (d6 i g (s.fz (λa=>p a _) (λa=>p a _)) (f1.ai u (λb=>p b _) m) (l.ai u (λb=>p b _) j))
 | d y=>exact R1.ai (v:=.d y) u (λb=>p b 0) e q
 | k y=>exact R1.ai (v:=.k y) u (λb=>p b 0) e q
 | ol y=>exact R1.ai (v:=.ol y) u (λb=>p b 0) e q
 | od y z=>exact R1.ai (v:=.od y z) u (λb=>p b 0) e q
 | _=>exact v5 e
end
set_option genInjectivity true in
set_option genCtorIdx true in
inductive Place where
 | off | loc (L:b7) (nm:a6) | cel (a:b7)
def Has(h:bP):Place->Option a4->Prop
 | .off,_=>False
 | .loc L nm,v=>∃m,h.Ns L m/\m nm=v
 | .cel a,v=>h.IsCell a v
def Place.at:Place->b7->Prop
 | .off,_=>False
 | .loc L _,b=>b=L
 | .cel a,b=>b=a
theorem z4{h:bP}{L:b7}{m z:a6->Option a4}(x:h.Ns L m)(y:h.Ns L z)(n:a6):m n=z n:=by refine gq x λo es r e d U k=>gq y λt v u q p U w=>?_;rw [e] at q;obtain rfl:=bv q;rw [d] at p;cases p;rw [<-k,<-w]
theorem Has.inj{h:bP}{v v':Option a4}{p:Place}(x:Has h p v)(y:Has h p v'):v=v':=by
 induction p with
 | off=>exact x.elim
 | loc L nm=>exact a5 x λm n e=>a5 y λu z k=>by rw [<-e,<-k,z4 n z]
 | cel a=>exact a5 x λo e d=>a5 y λw k q=>Data.cell.inj (d.symm.trans ((congrArg Obj.data (bv (e.symm.trans k))).trans q))
theorem Has.same(x:Has h p v)(k:∀b o,p.at b->h.get? b=some o->∃y,h'.get? b=some y/\y.data=o.data):Has h' p v:=by
 induction p with
 | off=>exact x.elim
 | loc L nm=>exact a5 x λm n q=>kA n λo es w e d r=>a5 (k L o rfl e) λy u z=>a7 m (vP y es w u (z.trans d) r) q
 | cel a=>exact a5 x λo e d=>a5 (k a o rfl e) λy u z=>a7 y u (z.trans d)
def dI:V->Bool
 | .k _=>true
 | _=>false
def Bs(c:Cfg)(b:b7):Prop:=∃o,c.B.get? b=some o
structure GI(c:Cfg)(O:Ow)(h:bP):Prop where
 base:∀b o,c.B.get? b=some o->∃o',h.get? b=some o'/\Like c .gr b o o'
 tab:∀l T,c.lam l=some T->∃ps,h.TableAt (c.lcd l) (c.ltb l) ps/\h.IsCode (c.lcd l) (c.ltb l) ps/\(codeAmong T.pos ps.toList=none\/∃k,codeAmong T.pos ps.toList=some (.ref k)/\O k= .z/\h.CodeRec (.ref k) T.qual)
structure Gh where
 f:Fr
 O:Ow
structure Cx where
 fs:List cz
 pl:List Place
 pin:Option a4
def Bb(h:bP)(O:Ow)(L:b7):Prop:=(O L= .fr\/O L= .lo)/\∃o,h.get? L=some o/\∀vs,o.data≠ .fields vs
def FF(fs:List cz)(h:bP)(O:Ow):Prop:=∀e∈fs,e.scope.kind≠ .module/\∃L,e.frame=some L/\Bb h O L
structure SlotR(c:Cfg)(O:Ow)(h:bP)(x:Nat)(p:Place)(v:V):Prop where
 off:p= .off->v= .u
 loc:∀L nm,p= .loc L nm->O L= .lo/\dI v=false
 cel:∀a,p= .cel a->O a=if dI v then .z else .cl
 val:p≠ .off->∃ov,Has h p ov/\(v= .u\/∃r,ov=some r/\VR c O h (x+1) v r)
structure J(c:Cfg)(X:Cx)(g:Gh)(h:bP):Prop where
 lf:g.f.length=X.pl.length
 slot:∀(x:Nat) (p:Place),X.pl[x]? =some p->SlotR c g.O h x p (rd g.f x)
 gr:∀b,Bs c b->g.O b= .gr
 lv:∀b,g.O b≠ .no->∃o,h.get? b=some o
 ff:FF X.fs h g.O
 inj:∀(x y:Nat) (p:Place),X.pl[x]? =some p->X.pl[y]? =some p->p≠ .off->x=y
 pin:∀r,X.pin=some r->∃p,X.pl[0]? =some p/\Has h p (some r)
 gi:GI c g.O h
theorem zy(f:Fr)(x y:Nat)(v:V):rd (f.set x v) y=if y=x/\x< f.length then v else rd f y:=by
 unfold rd;by_cases h:y=x
 .subst h;by_cases l:y< f.length
  .simp [l,fC,xl l]
  simp [l,fC,List.set_eq_of_length_le (i7 l)]
 simp [h,fC,List.getElem?_set,k8 h]
theorem sQ{f:Fr}{x:Nat}(v:V)(h:x< f.length):rd (f.set x v) x=v:=by rw [zy,if_pos ⟨rfl,h⟩]
theorem oW(v:V)(h:y≠x):rd (f.set x v) y=rd f y:=by rw [zy,if_neg λq=>h q.1]
theorem G0(f:Fr)(x:Nat)(h:f.length<=x):rd f x= .u:=by unfold rd;simp [fC,i6 h]
structure Cls(c:Cfg)(C:b7):Prop where
 get:plainGet c.K C (an 0)=true
 dict:hasDictIn c.K C=true
 own:∀a,a< 10->jo c.K (.ref C) (an a)=some none
 set:jo c.K (.ref C) "__setattr__" =some (some (.builtin "object.__setattr__"))
 over:plainOver c.K C=true
structure Gd(c:Cfg):Prop where
 lam:∀l T,c.lam l=some T->Bs c (c.lcd l)/\Bs c (c.ltb l)
 kin:c.K.In c.B
 ktab:∀b,c.tabs b->c.K.lookup b=none
 mods:Bs c gB
 cls:∀i,Cls c (c.ca i)
 nul:kin_not c.K (c.ca 1) (c.ca 0)=true/\plainGet c.K (c.ca 1) "__class__" =true/\jo c.K (.ref (c.ca 1)) "__class__" =some (some (.builtin "object.__class__")) /\
  specialIn c.K (.builtin "object.__class__") "__get__" =some (some (.builtin "getset_descriptor.__get__"))/\takesIn c.K (.builtin "object.__class__")=some true/\mroIn c.K (c.ca 1) (.type "object")=some true
 isi:c.mg "isinstance" =none/\c.mb "isinstance" =some (.builtin "isinstance")
 cnm:∀i,i< 3->c.mg (c.cnm i)=some (.ref (c.ca i))
 fnm:∀f v,c.mg (c.fnm f)=some v->v= .ref (c.fa f)
 fam:∀f,(c.fa f==gB)=false
 gns:c.B.Ns gR c.mg
 bns:c.B.Ns iB c.mb
theorem sg{h h':bP}{p:a4}{q:a6}(x:h.CodeRec p q)(k:∀b o,p= .ref b->h.get? b=some o->h'.get? b=some o):h'.CodeRec p q:=by refine eK x λa o vs t y z=>xA z λe r=>?_;clear x;subst y;exact ⟨a,o,vs,t,rfl,k a o rfl e,r⟩
theorem GI.bu{c:Cfg}{O O':Ow}{h h':bP}(H:Gd c)(x:GI c O h)(v:∀b,Bs c b->O b= .gr)(k:∀b o,h.get? b=some o->O b= .gr\/(O b= .z/\∃vs,o.data= .fields vs)->h'.get? b=some o/\O' b=O b):GI c O' h':=by
 refine ⟨λb o e=>?_,λl T e=>?_⟩
 .exact a5 (x.base b o e) λi I r=>(a7 i ((k b i I (.inl (v b ⟨o,e⟩))).1) r)
 refine ck (x.tab l T e) λps d q w=>?_;obtain ⟨⟨B,vs,t1,f⟩,t2⟩:=d;have n:=v _ (H.lam l T e).1;have s:=v _ (H.lam l T e).2;refine (cF ps ⟨(dU B vs ((k _ _ t1 (.inl n)).1) f),(k _ _ t2 (.inl s)).1⟩ ?_ (w.imp id ?_))
 .exact gv q λo vs y tf d=>gv d λp tg j u σ=>hB σ λtt A a f r2 r3 υ=>H0 υ λr4 r5 r6 b r=>⟨o,vs,y,tf,p,tg,j,u,tt,A,(k _ _ a (.inl n)).1,f,r2,r3,r4,r5,r6,(k _ _ b (.inl s)).1,r⟩
 rintro ⟨C,G,z,N⟩;have m:=N;refine sG m λa o vs t q1 M Q U=>?_;obtain rfl:=ez q1;exact (cF C G ((k _ _ M (.inr (iT z vs Q))).2.trans z) (sg N λb i q g=>by obtain rfl:=ez q;obtain rfl:=bv (M.symm.trans g);exact (k _ _ g (.inr (iT z vs Q))).1))
theorem GI.kp{O O':Ow}{h h':bP}(H:Gd c)(x:GI c O h)(p:∀b,Bs c b->O b= .gr)(k:∀b o,h.get? b=some o->O b= .gr\/O b= .z->h'.get? b=some o/\O' b=O b):GI c O' h':=x.bu H p λb o e q=>k b o e (q.imp id (·.1))
def mG(x:Nat):Tag->Bool
 | .own y _=>y==x+1||y==0
 | .no=>true
 | _=>false
theorem SlotR.place{x:Nat}(s:SlotR c O h x p v){b:b7}(e:p.at b):O b= .lo\/O b= .cl\/O b= .z:=by
 induction p with
 | off=>exact e.elim
 | loc L nm=>cases e;exact .inl (s.loc _ _ rfl).1
 | cel a=>
  cases e;have:=s.cel _ rfl;split at this
  .exact .inr (.inr this)
  exact .inr (.inl this)
section
variable {c:Cfg}{X:Cx}{g Y:Gh}{h h':bP}
theorem SlotR.ext{O O':Ow}{x u:Nat}{v:V}(s:SlotR c O h x p v)(l:ZK c O h O' h')(ex:Ex O h (x+1) O' h' (u+1))(z:∀b,p.at b->O' b=O b)(y:∀k,Has h p k->Has h' p k):SlotR c O' h' u p v:=by
 refine ⟨s.off,λL nm e=>?_,λa e=>?_,λe=>?_⟩
 .clear y;subst e;rw [z L rfl];exact s.loc L nm rfl
 .clear y;subst e;rw [z a rfl];exact s.cel a rfl
 exact a5 (s.val e) λk q w=>(a7 k (y k q) (w.imp id λ⟨r,e,t⟩=>(a7 r e (t.ext l ex))))
theorem J.re(H:Gd c)(j:J c X g h)(x:Nat)(P:b7->Prop)(G:Y.f.length=g.f.length)(gI:∀y,y≠x->rd Y.f y=rd g.f y) (u:∀b o,h.get? b=some o->mG x (g.O b)=false->¬P b->h'.get? b=some o/\Y.O b=g.O b) (Q:∀b,P b->(g.O b= .lo\/g.O b= .cl)/\Y.O b=g.O b/\∃o,h'.get? b=some o/\∀vs,o.data≠ .fields vs) (v:∀(y:Nat) (q:Place) N,y≠x->X.pl[y]? =some q->Has h q N->Has h' q N) (l:∀r p,x=0->X.pin=some r->X.pl[0]? =some p->Has h p (some r)->Has h' p (some r)) (lv:∀b,Y.O b≠ .no->∃o,h'.get? b=some o) (d:∀p,X.pl[x]? =some p->SlotR c Y.O h' x p (rd Y.f x)):J c X Y h':=by
 have C:∀b,g.O b= .z\/g.O b= .gr\/g.O b= .fr->¬P b:=λb z m=>by rcases (Q b m).1 with q | q<;>rw [q] at z<;>rcases z with z | z | z<;>injection z
 have zk:ZK c g.O h Y.O h':=λb o z e=>by exact xA (u b o e (by rw [z];rfl) (C b (.inl z))) λk1 k2=>(cF o k1 (k2.trans z) (.refl ..))
 refine ⟨G.trans j.lf,λy p e=>?_,λb M=>?_,lv,λe he=>?_,j.inj,λr e=>?_,j.gi.kp H j.gr λb o e n=>?_⟩
 .by_cases q:y=x
  .clear gI u v l;subst q;exact d p e
  rw [gI y q];have s:=j.slot y p e;refine s.ext zk (λb k o z e=>?_) (λb M=>?_) (λN=>v y p N q e)
  .have i:¬P b:=λm=>by rcases (Q b m).1 with q | q<;>rw [q] at z<;>injection z
   have ne:mG x (g.O b)=false:=by rw [z];show (y+1==x+1||y+1==0)=false;simp [q]
   exact xA (u b o e ne i) λk1 k2=>⟨k1,k2.trans z⟩
  by_cases i:P b
  .exact (Q b i).2.1
  have t:=s.place M;have:mG x (g.O b)=false:=by rcases t with t | t | t<;>rw [t]<;>rfl
  exact xE (j.lv b (by rcases t with t | t | t<;>rw [t]<;>exact λh=>by injection h)) λo I=>(u b o I this i).2
 .refine xE (j.lv b (by rw [j.gr b M];exact λh=>by injection h)) λo I=>?_;have:=j.gr b M;exact (u b o I (by rw [this];rfl) (C b (.inr (.inl this)))).2.trans this
 .refine kq (j.ff e he) λk L e1 t o e2 e3=>(tO k L e1 ?_);by_cases i:P L
  .exact dm (Q L i) λa1 A a=>⟨by rw [A];exact t,a⟩
  exact xA (u L o e2 (by rcases t with t | t<;>rw [t]<;>rfl) i) λk1 k2=>(tO (by rw [k2];exact t) o k1 e3)
 .refine a5 (j.pin r e) λp q w=>(a7 p q ?_);by_cases B:x=0
  .exact l r p B e q w
  exact v 0 p _ (λh=>B h.symm) q w
 exact u b o e (by rcases n with n | n<;>rw [n]<;>rfl) (C b (n.elim (λh=>.inr (.inl h)) .inl))
theorem J.aq(j:J c X g h){x:Nat}{p:Place}(k:X.pl[x]? =some p):x< g.f.length:=by rw [j.lf];exact (gS.mp k).1
theorem J.has(j:J c X g h){y:Nat}{q:Place}{ov:Option a4}(e:X.pl[y]? =some q)(t:Has h q ov)(k:∀b o,(g.O b= .lo\/g.O b= .cl\/g.O b= .z)->h.get? b=some o->∃u,h'.get? b=some u/\(u.data=o.data\/∃es n,o.data= .dict es n/\g.O b= .z)):Has h' q ov:=by
 have s:=j.slot y q e;refine t.same λb o p r=>a5 (k b o (s.place p) r) λu l d=>(a7 u l (d.resolve_right λ⟨es,n,d,z⟩=>?_));induction q with
 | off=>exact p
 | loc L nm=>cases p;rw [(s.loc _ _ rfl).1] at z;injection z
 | cel a=>cases p;refine a5 t λm w v=>?_;rw [r] at w;obtain rfl:=bv w;rw [d] at v;injection v
theorem J.at(H:Gd c)(j:J c X g h)(x:Nat)(u:Y.f.length=g.f.length)(gI:∀y,y≠x->rd Y.f y=rd g.f y) (k:∀b o,h.get? b=some o->mG x (g.O b)=false->h'.get? b=some o/\Y.O b=g.O b) (d:∀b,Y.O b≠ .no->∃o,h'.get? b=some o) (z:∀p,X.pl[x]? =some p->SlotR c Y.O h' x p (rd Y.f x)):J c X Y h':=by have hs:∀(y:Nat) (q:Place) ov,X.pl[y]? =some q->Has h q ov->Has h' q ov:=λy q ov e i=>j.has e i λb o t v=>(a7 o ((k b o v (by rcases t with t | t | t<;>rw [t]<;>rfl)).1) (.inl rfl));exact j.re H x (λU=>False) u gI (λb o e l U=>k b o e l) (λb m=>m.elim) (λy q ov U e=>hs y q ov e) (λr p U U e w=>hs 0 p _ e w) d z
theorem J.aF(H:Gd c)(j:J c X g h){O':Ow}(k:∀b o,h.get? b=some o->mG X.pl.length (g.O b)=false->h'.get? b=some o/\O' b=g.O b)(q:∀b,O' b≠ .no->∃o,h'.get? b=some o):J c X ⟨g.f,O'⟩ h':=j.at H X.pl.length rfl (λU U=>rfl) k q λp e=>by rw [i6 (fj _)] at e;injection e
theorem J.kp(H:Gd c)(j:J c X g h)(k:Kp h h'):J c X g h':=j.aF H (λb o e U=>⟨k b o e,rfl⟩) λb p=>xE (j.lv b p) λo e=>⟨o,k b o e⟩
def ji(t:Nat)(O:Ow):Ow:=λb=>match O b with
 | .own x k=>if x=t then .z else .own x k
 | u=>u
theorem zV(z:O b= .z):ji t O b= .z:=by unfold ji;rw [z]
theorem yH(z:O b= .own t k):ji t O b= .z:=by unfold ji;rw [z];exact if_pos rfl
set_option tactic.hygienic true in
theorem DP(z:∀k,O b≠ .own t k):ji t O b=O b:=by
 unfold ji;split
 .rename_i x k e;rw [if_neg (λq=>z k (by rw [e,q])),e]
 rfl
theorem FE(z:ji t O b≠ .no):O b≠ .no:=λq=>z (by unfold ji;rw [q])
theorem ja(h:mG x t=false):(∀k,t≠ .own 0 k)/\(∀k,t≠ .own (x+1) k)/\t≠ .no:=by
 refine ⟨λk q=>?_,λk q=>?_,λq=>?_⟩<;>subst q
 .exact gG h.symm
 .have h:(x+1==x+1||x+1==0)=false:=h;rw [beq_self_eq_true] at h;exact gG h.symm
 exact gG h.symm
theorem J.bE(H:Gd c)(j:J c X g h):J c X ⟨g.f,ji 0 g.O⟩ h:=j.aF H (λb o e p=>⟨e,DP (ja p).1⟩) λb k=>j.lv b (FE k)
theorem Step.tag{q:Bool}{O O':Ow}(k:∀b,mv false (O b)=true\/O' b=O b):Step c q O h O' h:=λb o e=>(cF o e ((k b).elim (λm=>.inr (.inl m)) .inl) (.inr (.refl ..)))
theorem DQ(t:Nat):Step c q O h (ji t O) h:=.tag λb=>by
 induction e:O b with
 | own x k=>exact .inl rfl
 | _=>right;unfold ji;rw [e]
end
@[simp] theorem Out.af{N k:Type}(a:N)(f:N->Out k):(dS a).bind f=f a:=rfl
theorem Out.bx{N:Type}{a b:N}(h:dS a= .ok b):a=b:=by cases h;rfl
theorem Out.bind_assoc{N p y:Type}(x:Out N)(f:N->Out p)(k:p->Out y):(x.bind f).bind k=x.bind λa=>(f a).bind k:=by induction x using ou<;>rfl
theorem Out.ns{N k:Type}{x:Out N}{f:N->Out k}(h:x.bind f≠ .x):x≠ .x:=λe=>h (by rw [e];rfl)
theorem Out.az{N k:Type}{o:Out k}{x:Out N}{f:N->Out k}(ns:o≠ .x)(e:o=x.bind f):x≠ .x:=Out.ns (e▸ns)
theorem Out.aG{N:Type}{x:Option N}(h:cg x≠ .x):∃a,x=some a:=by induction x with | none=>exact absurd rfl h | some a=>exact ⟨a,rfl⟩
theorem Out.aa{N k:Type}{o:Out k}{x:Option N}{f:N->Out k}(ns:o≠ .x)(e:o=(cg x).bind f):∃a,x=some a/\o=f a:=by exact xE (Out.aG (Out.az ns e)) λa h=>(a7 a h (by rw [e,h];rfl))
def SameRest(s s':bM):Prop:=s'.gens=s.gens/\s'.os=s.os
theorem SameRest.refl(s:bM):SameRest s s:=⟨rfl,rfl⟩
theorem SameRest.trans{s s' s'':bM}(x:SameRest s s')(y:SameRest s' s''):SameRest s s'':=⟨y.1.trans x.1,y.2.trans x.2⟩
structure St(c:Cfg)(q:Bool)(g:Gh)(s:bM)(Q:Gh)(s':bM):Prop where
 st:Step c q g.O s.heap Q.O s'.heap
 sr:SameRest s s'
def X0(fs:List cz):Cx:=⟨fs,[],none⟩
def g0(O:Ow):Gh:=⟨[],O⟩
inductive TbA(h₀ h:bP)(O:Ow)(a T:b7):Prop
 | mk (oT:cn) (ts:Array a4) (ne:T≠a) (g:h.get? T=some oT) (d:oT.data= .fields ts) (z:3< ts.size) (n:h₀.get? T=none) (o:O T= .no)
inductive XR(c:Cfg)(h₀ h:bP)(O:Ow)(e:a4)(m:Tx):Prop
 | mk (a:b7) (oe:cn) (d:b7) (od:cn) (vs:Array a4) (n:Nat) (t t':fA) (he:e= .ref a) (ga:h.get? a=some oe) (ec:oe.cls= .ref c.xa) (ed:oe.dict=some d) (ev:oe.data= .fields vs) (sz:1< vs.size)
   (gd:h.get? d=some od) (dc:od.cls= .type "dict") (dd:od.data= .dict #[⟨ib c.w.params (an 9),.str (an 9) t,.str (SS m) t'⟩] n) (na:h₀.get? a=none) (nd:h₀.get? d=none) (oa:O a= .no) (o':O d= .no)
   (tb:vs[1]? =some .none\/∃T,vs[1]? =some (.ref T)/\TbA h₀ h O a T)
inductive Er(c:Cfg)(fs:List cz)(q:Bool)(O:Ow)(s:bM)(m:Tx)(e:a4)(s':bM):Prop
 | mk (O':Ow) (st:Step c q O s.heap O' s'.heap) (sr:SameRest s s') (j:J c (X0 fs) (g0 O') s'.heap) (x:XR c s.heap s'.heap O' e m)
theorem Step.gone{q:Bool}(x:Step c q O h O' h'){b:b7}(e:h'.get? b=none):h.get? b=none:=by
 induction q:h.get? b with
 | none=>rfl
 | some o=>refine a5 (x b o q) λk r U=>?_;rw [e] at r;injection r
theorem XR.old(x:XR c h₁ h O e m)(k:∀b,h₁.get? b=none->p.get? b=none):XR c p h O e m:=by obtain ⟨a,oe,d,od,vs,n,t,t',he,v,y,z,ev,sz,r,dc,dd,na,nd,oa,o',tb⟩:=x;exact ⟨a,oe,d,od,vs,n,t,t',he,v,y,z,ev,sz,r,dc,dd,k _ na,k _ nd,oa,o',tb.imp id λ⟨T,e,w⟩=>(a7 T e (let ⟨oT,ts,l,j,i,f,o,H⟩:=w;⟨oT,ts,l,j,i,f,k _ o,H⟩))⟩
def VX(c:Cfg)(O:Ow)(h:bP)(v:V)(r:a4):Prop:=match v with
 | .w d=>DR c Oz h d r/\∀a,r= .ref a->(a==gB)=false
 | v=>VR c O h 0 v r
inductive Pv(c:Cfg)(X:Cx)(g:Gh)(s:bM)(Y:Out (V×Fr))(r:a4)(s':bM):Prop
 | mk (v:V) (Q:Gh) (e:Y= .ok (v,Q.f)) (j:J c X Q s'.heap) (vr:VX c Q.O s'.heap v r) (st:St c false g s Q s')
def Pe{N:Type}(c:Cfg)(X:Cx)(q:Bool)(g:Gh)(s:bM)(Y:Out N)(e:a4)(s':bM):Prop:=∃m,Y= .err m/\Er c X.fs q g.O s m e s'
inductive Pd(c:Cfg)(X:Cx)(g:Gh)(s:bM)(Y:Out (D×Fr))(r:a4)(s':bM):Prop
 | mk (d:D) (Q:Gh) (e:Y= .ok (d,Q.f)) (j:J c X Q s'.heap) (dr:DR c Q.O s'.heap d r) (st:St c false g s Q s')
inductive Pt(c:Cfg)(X:Cx)(g:Gh)(s:bM)(Y:Out (Bool×Fr))(r:Bool)(s':bM):Prop
 | mk (Q:Gh) (e:Y= .ok (r,Q.f)) (j:J c X Q s'.heap) (st:St c false g s Q s')
section
variable {c:Cfg}{X:Cx}{q:Bool}{g Q u:Gh}{s s' s'':bM}{h h':bP}
theorem St.refl(c:Cfg)(q:Bool)(g:Gh)(s:bM):St c q g s g s:=⟨Step.refl c q g.O s.heap,.refl _⟩
theorem St.trans(x:St c q g s Q s')(y:St c q Q s' u s''):St c q g s u s'':=⟨x.st.trans y.st,x.sr.trans y.sr⟩
theorem St.up(x:St c false g s Q s'):St c q g s Q s':=⟨x.st.up,x.sr⟩
theorem St.dr(x:St c q g s Q s'){d:D}{v:a4}(r:DR c g.O s.heap d v):DR c Q.O s'.heap d v:=r.ext x.st.zk
theorem St.bC(x:St c q g s Q s'){d:List D}{v:List a4}(r:DRs c g.O s.heap d v):DRs c Q.O s'.heap d v:=r.ext x.st.zk
theorem Er.lift(x:St c q g s Q s')(y:Er c X.fs q Q.O s' m e s''):Er c X.fs q g.O s m e s'':=by obtain ⟨O',st,k,j,w⟩:=y;exact ⟨O',x.st.trans st,x.sr.trans k,j,w.old λb=>x.st.gone⟩
theorem Er.up(y:Er c fs false O s m e s'):Er c fs q O s m e s':=let ⟨O',st,k,j,w⟩:=y;⟨O',st.up,k,j,w⟩
theorem Pe.lift{N z:Type}{o:Out N}{p:Out z}{k:N->Out z}(x:St c q g s Q s')(y:Pe c X false Q s' o e s'')(h:p=o.bind k):Pe c X q g s p e s'':=by refine a5 y λm v er=>?_;clear y;subst v;exact (a7 m h (er.up.lift x))
theorem J.base(j:J c X g h):J c (X0 X.fs) (g0 g.O) h:=⟨rfl,λx p e=>by simp [X0] at e,j.gr,j.lv,j.ff,λx y p e=>by simp [X0] at e,λr e=>by simp [X0] at e,j.gi⟩
theorem VX.of{v:V}(x:VR c O h 0 v r):VX c O h v r:=by induction v using bS<;>first | exact x | exact x.elim
theorem VX.vr{v:V}(x:VX c O h v r)(k:∀d,v≠ .w d):VR c O h 0 v r:=by induction v using bS<;>first | exact x | exact absurd rfl (k _)
theorem Wz(h:frz v=some d):∀d,v≠ .w d:=λd e=>by rw [e] at h;injection h
theorem Pv.ai(H:Gd c){Y:Out (V×Fr)}{r:a4}(p:Pv c X g s Y r s')(ns:Y.bind fz≠ .x):Pd c X g s (Y.bind fz) r s':=by
 obtain ⟨v,Q,rfl,j,x,st⟩:=p;rw [Out.af] at ns ⊢;unfold fz at ns ⊢;induction y:frz v with
 | none=>rw [show frz (v,Q.f).1=none from y] at ns;exact absurd rfl ns
 | some d=>exact ⟨d,⟨Q.f,ji 0 Q.O⟩,rfl,j.bE H,(x.vr (Wz y)).ai (λb=>zV) (λb k=>yH) y,⟨st.st.trans (DQ 0),st.sr⟩⟩
inductive OpR(c:Cfg)(O:Ow)(s:bM)(v:V)(r:a4)(s':bM):Prop
 | mk (O':Ow) (kp:Kp s.heap s'.heap) (sr:SameRest s s') (hO:∀b o,s.heap.get? b=some o->O' b=O b) (hN:∀b,O' b=O b\/∃o,s'.heap.get? b=some o) (vr:VR c O' s'.heap 0 v r)
theorem OpR.pv(H:Gd c)(j:J c X Q s'.heap)(st:St c false g s Q s'){v:V}{r:a4}{Y:Out (V×Fr)}(o:OpR c Q.O s' v r s'')(e:Y= .ok (v,Q.f)):Pv c X g s Y r s'':=by obtain ⟨O',k,t,p,y,l⟩:=o;exact ⟨v,⟨Q.f,O'⟩,e,j.aF H (λb o e U=>⟨k b o e,p b o e⟩) λb z=>(y b).elim (λq=>xE (j.lv b (q▸z)) λo w=>⟨o,k b o w⟩) id,.of l,⟨st.st.trans (k.step c false _ _ p),st.sr.trans t⟩⟩
def cO(O:Ow)(a:b7)(t:Tag):Ow:=λb=>if b=a then t else O b
theorem fR:cO O a t a=t:=if_pos rfl
theorem dB(h:b≠a):cO O a t b=O b:=if_neg h
theorem ig(h:bP):h.get? h.objs.size=none:=by
 induction q:h.get? h.objs.size with
 | none=>rfl
 | some o=>exact absurd (gX q) (Cg _)
theorem OpR.d{x:D}{r:a4}(p:Kp s.heap s'.heap)(y:SameRest s s')(k:DR c O s'.heap x r):OpR c O s (.d x) r s':=⟨O,p,y,λU U U=>rfl,λU=>.inl rfl,k⟩
theorem OpR.dd{x:D}(k:DR c O s.heap x r):OpR c O s (.d x) r s:=.d (.refl _) (.refl _) k
theorem OpR.dt{x:D}{k:Nat}(p:DR c O s.heap x r):OpR c O s (.d x) r {s with toks:=k}:=.d (.refl _) ⟨rfl,rfl⟩ p
theorem qp(n:s.heap.get? a=none)(b:b7)(o:cn)(e:s.heap.get? b=some o):cO O a t b=O b:=dB λq=>by rw [q,n] at e;injection e
theorem oR(n:h.get? a=none)(k:Kp h h'):ZK c O h (cO O a t) h':=λb o z e=>(cF o (k b o e) (by rw [dB λq=>by rw [q,n] at e;injection e];exact z) (.refl ..))
theorem OpR.new{t:Tag}(n:s.heap.get? a=none)(k:Kp s.heap s'.heap)(p:SameRest s s')(l:∃o,s'.heap.get? a=some o)(y:VR c (cO O a t) s'.heap 0 v r):OpR c O s v r s':=⟨cO O a t,k,p,qp n,λb=>by
  by_cases q:b=a
  .right;rw [q];exact l
  exact .inl (dB q),y⟩
theorem OpR.list{o:cn}{xs:List D}{vs:Array a4}{k:Nat}(n:s.heap.get? a=none)(p:Kp s.heap s'.heap)(z:SameRest s s')(e:s'.heap.get? a=some o)(b:nM o "list")(d:o.data= .seq vs k)(y:DRs c O s.heap xs vs.toList):OpR c O s (.ol xs) (.ref a) s':=.new n p z ⟨o,e⟩ (a7 vs ⟨a,o,k,rfl,fR,e,b,d⟩ (y.ext (oR n p)))
theorem OpR.dict{ks:List Tx}{ds:List D}{es:Array fy}{k:Nat}(n:s.heap.get? a=none)(p:Kp s.heap s'.heap)(w:SameRest s s')(e:s'.heap.get? a=some o)(b:nM o "dict")(d:o.data= .dict es k)(v:KRs c ks es.toList)(z:jh ks)(y:DRs c O s.heap ds (es.toList.map (·.val))):OpR c O s (.od ks ds) (.ref a) s':=.new n p w ⟨o,e⟩ (a7 _ ⟨a,o,es,k,rfl,fR,e,b,d,v,rfl,z⟩ (y.ext (oR n p)))
theorem OpR.be{T:String}{k:Nat}{x:D}(n:s.heap.get? a=none)(p:Kp s.heap s'.heap)(v:SameRest s s')(e:s'.heap.get? a=some o)(b:nM o T)(d:o.data= .seq vs k)(y:∀O',ZK c O s.heap O' s'.heap->SqA O' s'.heap .z T (.ref a) vs->DR c O' s'.heap x (.ref a)):OpR c O s (.d x) (.ref a) s':=.new n p v ⟨o,e⟩ (y _ (oR n p) ⟨a,o,k,rfl,fR,e,b,d⟩)
theorem wh(H:Gd c)(j:J c X g h)(z:g.O b≠ .gr):(b==gB)=false:=by
 induction q:b==gB with
 | false=>rfl
 | true=>exact absurd (j.gr b (beq_iff_eq.mp q▸H.mods)) z
set_option genInjectivity true in
inductive Kd(c:Cfg)(O:Ow):Bool->a4->Prop
 | none:Kd c O true .none
 | bool (b):Kd c O false (.bool b)
 | int (i t):Kd c O false (.int i t)
 | str (i t):Kd c O false (.str i t)
 | ref {a} (h:O a= .z\/∃f,a=c.fa f):Kd c O false (.ref a)
theorem SqA.kd{T:String}{v:a4}(x:SqA O h .z T v vs):Kd c O false v:=by obtain ⟨U,U,U,rfl,z,U⟩:=x;exact .ref (.inl z)
theorem DcA.kd{v:a4}(x:DcA c O h .z ks v vs):Kd c O false v:=by obtain ⟨U,U,U,U,rfl,z,U⟩:=x;exact .ref (.inl z)
theorem InA.kd{k:Nat}{as:List Nat}{v:a4}(x:InA c O h .z .z k as v vs):Kd c O false v:=by obtain ⟨U,U,U,U,U,U,rfl,z,U⟩:=x;exact .ref (.inl z)
theorem ClA.kd{l:Nat}{v:a4}(x:ClA c O h l v vs):Kd c O false v:=by obtain ⟨U,U,U,U,U,U,rfl,z,U⟩:=x;exact .ref (.inl z)
theorem DR.kd(e:DR c O h d r):Kd c O (isNone d) r:=by
 induction d using c7 with
 | none=>obtain rfl:=show r=iI from e;exact .none
 | bool b=>obtain rfl:=show r=Value.bool b from e;exact .bool b
 | int U=>refine xE e λt k=>?_;clear e;subst k;exact .int ..
 | str U=>refine fx e λU t k=>?_;clear e;subst k;exact .str ..
 | fn f=>obtain rfl:=show r=fP (c.fa f) from e;exact .ref (.inr ⟨f,rfl⟩)
 | y=>refine gv e λU U U U k=>a5 k λU s U=>?_;exact s.kd
 | nul=>refine cU e λU U s U=>?_;exact s.kd
 | _=>refine a5 e λU s U=>?_;exact s.kd
theorem Kd.addr{n:Bool}(x:Kd c O n r):∀a,r= .ref a->O a= .z\/∃f,a=c.fa f:=λa e=>by subst e;cases x;assumption
theorem SqA.adr{T:String}(x:SqA O h t T v vs)(a:b7)(q:v= .ref a):O a=t:=by obtain ⟨U,U,U,rfl,z,U⟩:=x;obtain rfl:=ez q.symm;exact z
theorem DcA.adr(x:DcA c O h t ks v vs)(a:b7)(q:v= .ref a):O a=t:=by obtain ⟨U,U,U,U,rfl,z,U⟩:=x;obtain rfl:=ez q.symm;exact z
theorem InA.adr{k:Nat}{as:List Nat}(x:InA c O h t p k as v vs)(a:b7)(q:v= .ref a):O a=t:=by obtain ⟨U,U,U,U,U,U,rfl,z,U⟩:=x;obtain rfl:=ez q.symm;exact z
theorem VR.addr{t:Nat}(e:VR c O h t v r)(a:b7)(q:r= .ref a):O a= .z\/(∃f,a=c.fa f)\/∃k,O a= .own t k:=by
 induction v using bS with
 | d U=>exact ((DR.kd e).addr a q).imp id .inl
 | k U=>exact ((DR.kd e).addr a q).imp id .inl
 | ol U=>refine a5 e λU s U=>?_;exact .inr (.inr ⟨_,s.adr a q⟩)
 | od U U=>refine a5 e λU s U=>?_;exact .inr (.inr ⟨_,s.adr a q⟩)
 | oi U U U=>refine a5 e λU s U=>?_;exact .inr (.inr ⟨_,s.adr a q⟩)
 | _=>exact v5 e
theorem J.bB(H:Gd c)(j:J c X g h){t:Nat}{v:V}{r:a4}(x:VR c g.O h t v r):∀a,r= .ref a->(a==gB)=false:=λa q=>by
 rcases x.addr a q with z | ⟨f,rfl⟩ | ⟨k,z⟩
 .exact wh H j (by rw [z];exact λh=>by injection h)
 .exact H.fam f
 exact wh H j (by rw [z];exact λh=>by injection h)
theorem J.aC(H:Gd c)(j:J c X g h){d:D}{r:a4}(x:DR c g.O h d r):∀a,r= .ref a->(a==gB)=false:=j.bB (t:=0) (v:=.d d) H x
end
section
variable (c:Cfg)(G:cB)(A:cy)(X:Cx)(C:cz)
def T(B:E)(e:a8):Prop:=∀g s,J c X g s.heap->ev G B g.f≠ .x->b8 (b9 pw c.w) A (eu e C) (Pv c X g s (ev G B g.f)) (Pe c X false g s (ev G B g.f)) s
def TB(B:E)(e:a8):Prop:=∀g s,J c X g s.heap->(ev G B g.f).bind dL≠ .x->b8 (b9 pw c.w) A (rH e C (eu e C)) (Pt c X g s ((ev G B g.f).bind dL)) (Pe c X false g s ((ev G B g.f).bind dL)) s
end
def qI:V->Bool
 | .u | .k _ | .w _=>false
 | _=>true
theorem EJ(h:qI v=true):∀d,v≠ .w d:=λd e=>by rw [e] at h;injection h
theorem yI(h:qI v=true):dI v=false:=by induction v using bS<;>first | rfl | injection h
theorem sd(f:Fr)(h:qI v=true):eh (v,f)= .ok (v,f):=by induction v using bS<;>first | rfl | injection h
theorem se(h:eh (v,f)≠ .x):qI v=true:=by induction v using bS<;>first | rfl | exact absurd rfl h
section
variable {c:Cfg}{G:cB}{A:cy}{X:Cx}{C:cz}{q:Bool}{B:E}{e:a8}{N:Type}{Y:Out N}{M g:Gh}{I s:bM}{K:bZ}
theorem T.d(H:Gd c)(t:T c G A X C B e){k:D×Fr->Out N}(j:J c X g s.heap)(st:St c q M I g s)(v:Y=(ev G B g.f).bind λr=>(fz r).bind k)(ns:Y≠ .x) (h:∀d Q r s',J c X Q s'.heap->DR c Q.O s'.heap d r->St c q M I Q s'->St c false g s Q s'->Y=k (d,Q.f)->K r s'):b8 (b9 pw c.w) A (eu e C) K (Pe c X q M I Y) s:=by have y:=v.trans (Out.bind_assoc _ fz k).symm;have l:=Out.az ns y;refine c6 (t g s j (Out.ns l)) (λr s' p=>?_) λx s' p=>p.lift st v;obtain ⟨d,Q,e,i,m,z⟩:=p.ai H l;exact h d Q r s' i m (st.trans z.up) z (by rw [y,e];rfl)
theorem T.v(t:T c G A X C B e){k:V×Fr->Out N}(j:J c X g s.heap)(st:St c q M I g s)(i:Y=(ev G B g.f).bind λr=>(eh r).bind k)(ns:Y≠ .x) (h:∀v Q r s',qI v=true->J c X Q s'.heap->VR c Q.O s'.heap 0 v r->St c q M I Q s'->Y=k (v,Q.f)->K r s'):b8 (b9 pw c.w) A (eu e C) K (Pe c X q M I Y) s:=by have y:=i.trans (Out.bind_assoc _ eh k).symm;have l:=Out.az ns y;refine c6 (t g s j (Out.ns l)) (λr s' p=>?_) λx s' p=>p.lift st i;obtain ⟨v,Q,e,o,vx,m⟩:=p;have z:=se (by rw [e] at l;exact l);exact h v Q r s' z o (vx.vr (EJ z)) (st.trans m.up) (by rw [y,e,Out.af,sd _ z];rfl)
theorem TB.t(t:TB c G A X C B e){k:Bool×Fr->Out N}{K:Bool->bM->Prop}(j:J c X g s.heap)(st:St c q M I g s)(y:Y=((ev G B g.f).bind dL).bind k)(ns:Y≠ .x) (h:∀b Q s',J c X Q s'.heap->St c q M I Q s'->Y=k (b,Q.f)->K b s'):b8 (b9 pw c.w) A (rH e C (eu e C)) K (Pe c X q M I Y) s:=by refine c6 (t g s j (Out.az ns y)) (λb s' p=>?_) λx s' p=>p.lift st y;obtain ⟨Q,e,v,z⟩:=p;exact h b Q s' v (st.trans z.up) (by rw [y,e];rfl)
theorem UZ{N:Type}(H:Gd c){m:Sem N}{K:N->bM->Prop}{E:bZ}{o:Option V}{f:Fr}{Y:Out (V×Fr)}(ns:Y≠ .x)(y:Y=(cg o).bind λv=>.ok (v,f))(w:∀v,o=some v->b8 (b9 pw c.w) A m (λr s'=>Y= .ok (v,f)->K r s') E s):b8 (b9 pw c.w) A m K E s:=by exact a5 (Out.aa ns y) λv k p=>c6 (w v k) (λr s' h=>h p) λU U h=>h
end
open Mine.Internal.Out renaming ns->oz,az->iZ,af->rV,bind_assoc->dZ,aa->fF
theorem f6(a:Tx):(SS a).length=a.length:=by simp [SS,Str.length]
theorem oF(k:cI a=true)(p:cI b=true):cI (a++b)=true:=by unfold cI at *;rw [List.all_append,k,p];rfl
theorem RC(k:cI a=true)(n:Nat):cI (iF n a).flatten=true:=by
 induction n with
 | zero=>rfl
 | succ n p=>rw [List.replicate_succ,IX];exact oF k p
theorem Fi(a b:Tx):SS (a++b)=SS a++SS b:=by show SS (a++b)=Str.append (SS a) (SS b);simp [SS,Str.append]
theorem fH:o7=16777216:=sizeLine_eq
theorem ee(h:cL n=true):n<=1048576:=by unfold cL df at h;simpa using h
set_option tactic.hygienic true in
theorem y5{a:Int}(h:qy a=true):uY a<=64:=by
 have h':a.natAbs< 2 ^ 64:=by simpa [qy] using h
 unfold uY;split
 .exact dR _
 rename_i k;have p:a.natAbs≠0:=by intro q;apply k;simp;exact Z1 q
 have:=(Nat.log2_lt p).mpr h';exact Z2 this
def qU:Op->mT
 | .add=>.Add | .sub=>.Sub | .mul=>.Mult | .fdiv=>.FloorDiv | .mod=>.Mod | .pow=>.Pow
section
variable {Y:Type}{c:Cfg}{O:Ow}{s:bM}{h:bP}{A:cy}{E:bZ}{W:Prop}
theorem OZ{k:Int->Option Y}{v:Y}(e:em d k=some v):∃i,d= .int i/\k i=some v:=by induction d using c7<;>first | exact ⟨_,rfl,e⟩ | injection e
theorem P1{k:Tx->Option Y}{v:Y}(e:gP d k=some v):∃i,d= .str i/\k i=some v:=by induction d using c7<;>first | exact ⟨_,rfl,e⟩ | injection e
theorem P0{k:List D->Option Y}{v:Y}(e:uh d k=some v):∃i,d= .l i/\k i=some v:=by induction d using c7<;>first | exact ⟨_,rfl,e⟩ | injection e
theorem E4{k:List Tx->List D->Option Y}{v:Y}(e:BA d k=some v):∃i j,d= .dct i j/\k i j=some v:=by induction d using c7<;>first | exact ⟨_,_,rfl,e⟩ | injection e
theorem eI{k:Int->Option Y}{v:Y}(e:em d k=some v)(p:DR c O h d a)(w:∀i t,d= .int i->a= .int i t->k i=some v->W):W:=by refine a5 (OZ e) λi q e=>?_;subst q;exact xE p λt p=>w i t rfl p e
theorem eS{k:Tx->Option Y}{v:Y}(e:gP d k=some v)(p:DR c O h d a)(w:∀i t,d= .str i->a= .str (SS i) t->cI i=true->k i=some v->W):W:=by refine a5 (P1 e) λi q e=>?_;subst q;exact fx p λo t p=>w i t rfl p o e
theorem eL{k:List D->Option Y}{v:Y}(e:uh d k=some v)(p:DR c O h d a)(w:∀xs vs,d= .l xs->SqA O h .z "list" a vs->DRs c O h xs vs.toList->k xs=some v->W):W:=by refine a5 (P0 e) λi q e=>?_;subst q;exact a5 p λvs p r=>w i vs rfl p r e
theorem q9{k:Int->Int->Option V}(q:oZ d e k=some v)(z:DR c O h d a)(r:DR c O h e b)(w:∀i j t u,a= .int i t->b= .int j u->k i j=some v->W):W:=eI q z λi t U p q=>eI q r λj u U y q=>w i j t u p y q
theorem OpR.i{i:Int}{t k:Nat}:OpR c O s (.d (.int i)) (.int i t) {s with toks:=k}:=.dt ⟨_,rfl⟩
theorem OpR.tx{x:Tx}{t k:Nat}(h:cI x=true):OpR c O s (.d (.str x)) (.str (SS x) t) {s with toks:=k}:=.dt (iT h _ rfl)
theorem SqA.is{T:String}(x:SqA O h t T v vs):∃a n,v= .ref a/\O a=t/\h.get? a=some {cls:=.type T,dict:=none,data:=.seq vs n,slots:=#[]}:=by obtain ⟨a,⟨y,u,q,os⟩,n,e,z,g,⟨k,p,b3⟩,d⟩:=x;dsimp only at k p b3 d;subst k p b3 d;exact (d6 a n e z g)
theorem OpR.aE{xs:List D}{vs:Array a4}{k n:Nat}(p:DRs c O s.heap xs vs.toList):OpR c O s (.ol xs) (.ref s.heap.objs.size) {s with heap:=s.heap.push {cls:=.type "list",data:=.seq vs n},toks:=k}:=.list (ig _) (gm _ _) ⟨rfl,rfl⟩ (dY _ rfl) ⟨rfl,rfl,rfl⟩ rfl p
theorem MB(l:List (Array Nat))(b:Array Nat):l.foldl (·++ ·) b=b++(l.map (·.toList)).flatten.toArray:=by
 induction l generalizing b with
 | nil=>simp
 | cons x r k=>rw [n7,k];apply CC;simp
theorem Uw(a:Tx)(n:Int)(q:0<=n):Txt.mul (SS a) n=SS (iF n.toNat a).flatten:=by
 unfold Txt.mul;by_cases p:n< 1
 .rw [if_pos p];have:=(Z3 q p);clear q p;subst this;rfl
 rw [if_neg p];by_cases k:(n==1||(SS a).length==0)=true
 .rw [if_pos k];rw [f6] at k;simp at k;rcases k with rfl | rfl
  .simp
  simp
 rw [if_neg k];unfold SS;rw [MB];simp
theorem NF{xs ys:List D}(j:SqA O s.heap .z "list" a k)(t:DRs c O s.heap xs k.toList)(i:SqA O s.heap .z "list" b p)(m:DRs c O s.heap ys p.toList)(f:xs.length+ys.length<=1048576) : b8 (b9 pw c.w) A (binaryOp .Add a b) (OpR c O s (.ol (xs++ys))) E s:=by
 refine c0 j.is λl g q U y=>?_;clear j;subst q;refine c0 i.is λb o q U u=>?_;clear i;subst q;have v:=t.len;have r:=m.len;have hsz:k.size+p.size<=o7:=by rw [fH];simp at v r;exact Z4 f v r
 exact concat_meets (a7 _ y rfl) (a7 _ u rfl) noFill_list_add seq_list_add PySem.F.slot_list_add PySem.F.entry_list_add (PySem.F.args_list_add_2 _ _) (list_addW l b k p g o none none #[] #[] hsz) ⟨y,u,.aE (by rw [Cz];exact t.app m)⟩
theorem Qf{n:Int}(g:SqA O s.heap .z "list" a q)(f:DRs c O s.heap [x] q.toList)(m:0<=n)(j:n<=64):b8 (b9 pw c.w) A (binaryOp .Mult a (.int n t)) (OpR c O s (.ol (iF n.toNat x))) E s:=by
 refine c0 g.is λl i G Z y=>?_;clear g;subst G;have e:=f.len;have o:q.size=1:=by simpa using e.symm
 have p:q.size*n.toNat<=256:=by rw [o];exact Z5 m j
 have q1:¬(!JS n)=true:=by simp [JS];exact Z6 m j
 have Q:¬q.size*n.toNat> (2 ^ 63 -1) / 8:=by
  have:(2 ^ 63 -1) / 8=1152921504606846975:=∅
  rw [this];exact Z7 p
 have M:¬JT (q.size*n.toNat)=true:=by simp only [JT,fH,decide_eq_true_eq];exact Z8 p
 refine wpAny_binaryOp_repeat_ref ∅ (a7 _ y rfl) (λs'=>typeIs_int s' n t) noFill_list_mul F.fills_int_mul F.slot_int_rmul repeat_list F.slot_int_index.lookup (o6 F.slot_int_rmul (typeIs_int s n t) F.entry_int_rmul (F.args_int_rmul_2 _ _) (lm_int_rmul_list_any n t l q i none #[]) ⟨y,rfl,(a7 _ y rfl),o6 F.slot_list_mul (a7 _ y rfl) F.entry_list_mul (F.args_list_mul_2 _ _) (lm_list_mul_any l q i none #[] n t q1 Q M) ⟨y,?_⟩⟩);rw [listMul_foldl_if];refine OpR.aE (c0 f λv r u I N=>?_);rw [show r=[] from N] at u;rw [u];have:∀k:Nat,DRs c O s.heap (iF k x) (iF k [v]).flatten:=by
  intro k;induction k with
  | zero=>exact rfl
  | succ k d=>exact .cons I d
 simpa using this n.toNat
abbrev BinOp(c:Cfg)(O:Ow)(s:bM)(A:cy)(E:bZ)(k:Op)(o:V)(a b:a4):Prop:=b8 (b9 pw c.w) A (binaryOp (qU k) a b) (OpR c O s o) E s
theorem US(k:DR c O s.heap d a)(p:DR c O s.heap r b)(e:H4 d r=some o):BinOp c O s A E .add o a b:=by
 induction d using c7 with
 | int i=>refine xE k λt w=>?_;clear k;subst w;exact eI e p λj u U v e=>by clear p;subst v;obtain rfl:=bv e;exact wpAny_add_int .i
 | str x=>refine fx k λm t w=>?_;clear k;subst w;refine eS e p λy u U v f e=>?_;clear p;subst v;refine xA (cX e) λq z=>?_;clear e;obtain rfl:=bv z;have:=ee q;refine PyProof.Rows.add_str (λQ tk=>?_) (by rw [f6,f6,fH];exact dh this rfl);rw [<-Fi];exact .tx (oF m f)
 | l xs=>refine a5 k λM g k=>eL e p λys N U n p e=>xA (cX e) λq z=>?_;clear e;obtain rfl:=bv z;exact NF g k n p (ee q)
 | _=>injection e
theorem Sb{n:Int}(u:l*n.toNat<=1048576)(p:0<=n)(k:n<=64)(q:¬n< 1):¬(l:Int)> (2 ^ 63 -1) / n:=by
 have y:(2 ^ 63 -1:Int) / 64<=(2 ^ 63 -1) / n:=by apply Int.le_ediv_of_mul_le (Z9 p k q);have:(2 ^ 63 -1:Int) / 64*n<=(2 ^ 63 -1:Int) / 64*64:=Int.mul_le_mul_of_nonneg_left k ∅;exact eR this ∅
 have z:l<=l*n.toNat:=Nat.le_mul_of_pos_right _ (Za p k q);exact kX.mpr (eR (ni.mpr (cW z u)) (eR ∅ y))
theorem V1(v:DR c O s.heap d a)(w:DR c O s.heap Q b)(e:HA d Q=some o):BinOp c O s A E .mul o a b:=by
 induction d using c7 with
 | int i=>refine xE v λt f=>?_;clear v;subst f;refine eI e w λj u U r e=>?_;clear w;subst r;refine xA (cX e) λp z=>?_;rw [dF] at p;clear e;obtain rfl:=bv z;exact PyProof.Rows.mul_int .i (IntMulOk.of_left (y5 p.1))
 | str x=>
  refine fx v λN t f=>?_;clear v;subst f;refine eI e w λn u U r e=>?_;clear w;subst r;refine xA (cX e) λp z=>?_;simp only [dF,decide_eq_true_eq] at p;clear e;obtain rfl:=bv z;refine dm p λm g M=>?_;have m:=ee m;refine SB.mul ⟨by simp;omega,λq1 I q=>?_,λq1 I=>?_⟩ λC k=>?_
  .rw [f6] at q;exact Sb m g M q1 q
  .rw [f6];unfold uW;simp only [fH,decide_eq_false_iff_not];exact HD m
  rw [Uw _ _ g];exact .tx (RC N _)
 | l xs=>
  refine a5 v λB G v=>eI e w λn u U r e=>?_;clear w;subst r;refine xA (cX e) λp z=>?_;simp only [dF,decide_eq_true_eq] at p;induction xs using bO with
  | nil=>injection z
  | cons y ys=>induction ys using bO with
   | nil=>clear e;obtain rfl:=bv z;exact Qf G v p.1 p.2
   | cons=>injection z
 | _=>injection e
theorem UX(p:DR c O s.heap d a)(v:DR c O s.heap l b)(e:mq r d l=some o):BinOp c O s A E r o a b:=by
 induction r with
 | add=>exact US p v e
 | mul=>exact V1 p v e
 | sub=>exact q9 e p v λi j t u q y e=>by clear p;subst q y;obtain rfl:=bv e;exact P.sub_int .i
 | fdiv=>refine q9 e p v λi j t u q y e=>?_;clear p;subst q y;refine xA (cX e) λk z=>?_;clear e;obtain rfl:=bv z;simp only [dF,bne_iff_ne] at k;refine PyProof.Rows.floordiv_int k.1 .i (.inl (PyProof.noPylong_of_log2 ?_));have w:=y5 k.2;unfold uY at w;rw [if_neg (by simpa using k.1)] at w;exact dh w rfl
 | mod=>refine q9 e p v λi j t u q y e=>?_;clear p;subst q y;refine xA (cX e) λk z=>?_;clear e;obtain rfl:=bv z;exact PyProof.Rows.mod_int' (by simpa using k) .i
 | pow=>
  refine q9 e p v λi j t u q y e=>?_;subst q y;refine xA (cX e) λk z=>?_;obtain rfl:=bv z;simp only [dF,beq_iff_eq,decide_eq_true_eq] at k;refine dm k λf m g=>?_;clear p e z k;subst f;refine PyProof.Rows.pow_int m ?_ .i;have:(uY 10:Int)=4:=by decide +kernel
  rw [this];omega
theorem V2(k:DR c O s.heap d a)(e:AR d=some x):b8 (b9 pw c.w) A (unaryOp .USub a) (OpR c O s (.d x)) E s:=eI e k λi t U p e=>by clear k;subst p;obtain rfl:=bv e;exact P.neg_int .i
theorem UT(k:DR c O s.heap d a)(q:DR c O s.heap l b)(e:wo r d l=some x):b8 (b9 pw c.w) A (inplaceOp (qU r) a b) (OpR c O s (.d x)) E s:=by
 induction r with
 | add=>
  induction d using c7 with
  | int i=>refine xE k λt v=>?_;clear k;subst v;exact eI e q λj u U p e=>by clear q;subst p;obtain rfl:=bv e;exact P.iadd_int .i
  | str y=>refine fx k λo t v=>?_;clear k;subst v;refine eS e q λz u U p n e=>?_;clear q;subst p;refine xA (cX e) λm f=>?_;clear e;obtain rfl:=bv f;have:=ee m;refine PyProof.Rows.iadd_str (λQ tk=>?_) (by rw [f6,f6,fH];exact dh this rfl);rw [<-Fi];exact .tx (oF o n)
  | _=>injection e
 | sub=>exact eI e k λi t U g e=>eI e q λj u U p e=>by clear k;subst g p;obtain rfl:=bv e;exact P.isub_int .i
 | _=>injection e
end
theorem sN(h:cI l=true):∀c∈l,c< 1114112:=by unfold cI at h;intro c k;simpa using dM.mp h c k
theorem Px(h:cI l=true):JK (SS l)=true:=by unfold JK SS;rw [<-Array.all_toList];exact h
theorem SX(a b:Tx):(SS a==SS b)=(a==b):=by
 by_cases h:a=b
 .subst h;simp
 have:=λe=>h (mf e);rw [beq_eq_false_iff_ne.mpr this,beq_eq_false_iff_ne.mpr h]
section
variable {c:Cfg}{h:bP}{O:Ow}
inductive Rd(h:bP)(v:a4)(p:PyData)(n:Nat):Prop
 | mk (as) (r:Reads h v p as) (l:p.canLay0=true) (k:p.depth<=n)
inductive Rds(h:bP)(v:List a4)(p:List PyData)(n:Nat):Prop
 | mk (as) (r:ReadsAll h v p as) (l:PyData.canLayAll0 p=true) (k:PyData.depthAll p<=n)
theorem CZ{xs:List D}(h:xs.all (fS n)=true):∀d∈xs,fS n d=true:=dM.mp h
theorem DRs.ao{n:Nat}(u:∀{d:D} {v:a4},DR c O h d v->fS n d=true->Rd h v (kM d) n){ds:List D}{vs:List a4}(e:DRs c O h ds vs)(y:∀d∈ds,fS n d=true):Rds h vs (toPs ds) n:=by
 induction ds generalizing vs with
 | nil=>obtain rfl:=show vs=[] from e;exact ⟨_,.nil,rfl,dR _⟩
 | cons d ds k=>refine c0 e λv r j a s=>?_;clear e;subst j;obtain ⟨as,q,l,w⟩:=u a (y _ (.head _));obtain ⟨bs,p,t,m⟩:=k s λd z=>y d (.tail _ z);exact ⟨_,.cons q p,gY.mpr ⟨l,t⟩,Nat.max_le.mpr ⟨w,m⟩⟩
theorem DR.ao{n:Nat}{d:D}{v:a4}(y:∀m,n=m+1->∀{d:D} {v:a4},DR c O h d v->fS m d=true->Rd h v (kM d) m)(e:DR c O h d v)(k:fS n d=true):Rd h v (kM d) n:=by
 induction d using c7 with
 | none=>obtain rfl:=show v=iI from e;exact ⟨_,.none,rfl,dR _⟩
 | int i=>refine xE e λt p=>?_;clear e;subst p;exact ⟨_,.int i t,rfl,dR _⟩
 | str l=>refine fx e λhs t p=>?_;clear e;subst p;exact ⟨_,.str (SS l) t,Px hs,dR _⟩
 | t xs=>induction n using gF with
  | zero=>injection k
  | succ n=>refine a5 e λvs p r=>?_;obtain ⟨a,o,m,rfl,z,g,b,d⟩:=p;obtain ⟨as,q,l,w⟩:=DRs.ao (y n rfl) r (CZ k);exact ⟨_,.tuple g b.1 d q,l,k7 w⟩
 | l xs=>induction n using gF with
  | zero=>injection k
  | succ n=>refine a5 e λvs p r=>?_;obtain ⟨a,o,m,rfl,z,g,b,d⟩:=p;obtain ⟨as,q,l,w⟩:=DRs.ao (y n rfl) r (CZ k);exact ⟨_,.list g b.1 d q,l,k7 w⟩
 | _=>induction n using gF<;>injection k
theorem DR.reads(n:Nat):∀{d:D} {v:a4},DR c O h d v->fS n d=true->Rd h v (kM d) n:=by
 induction n with
 | zero=>exact DR.ao λm h=>by injection h
 | succ n k=>exact DR.ao λm h=>by cases h;exact k
end
def ik:Cm->CmpOp
 | .eq=>.Eq | .ne=>.NotEq | .lt=>.Lt | .le=>.LtE | .gt=>.Gt | .ge=>.GtE | .inn=>.In | .nin=>.NotIn | .is=>.Is | .isn=>.IsNot
def CmR(s:bM)(b:Bool)(r:a4)(s':bM):Prop:=r= .bool b/\Kp s.heap s'.heap/\SameRest s s'
theorem CmR.now{b:Bool}:CmR s b (.bool b) s:=⟨rfl,.refl _,⟨rfl,rfl⟩⟩
theorem CmR.tok{b:Bool}{k:Nat}:CmR s b (.bool b) {s with toks:=k}:=⟨rfl,.refl _,⟨rfl,rfl⟩⟩
section
variable {c:Cfg}{O O':Ow}{s:bM}{h:bP}{A:cy}{E:bZ}
inductive StL(vs:List a4)(l:List Tx):Prop
 | mk (are:StrsAre vs (l.map SS)) (ok:∀x∈l,cI x=true)
theorem yB(e:DRs c O h ds vs)(q:mz ds=some l):StL vs l:=by
 induction ds generalizing vs l with
 | nil=>obtain rfl:=show vs=[] from e;cases q;exact ⟨.nil,λx k=>by cases k⟩
 | cons d ds m=>refine c0 e λv r p a s=>?_;subst p;refine eS q a λx t U ev k q=>?_;clear a e;subst ev;refine a5 (iW.mp q) λj q1 p=>?_;clear q;subst p;obtain ⟨u,w⟩:=m s q1;exact ⟨.cons _ _ u,λy z=>(dp.mp z).elim (λe=>e▸k) (w y)⟩
theorem wz{n:Nat}(h:n<=1048576):(n:Int)< 2 ^ 63:=uR (ni.mpr h) ∅
theorem DRs.size{ds:List D}{vs:Array a4}(r:DRs c O h ds vs.toList):ds.length=vs.size:=r.len.trans om
theorem Fo(l:List Tx)(a:Tx):(l.map SS).any (·==SS a)=l.contains a:=by rw [Jq];simp only [List.any_map,jY,JY,SX,C1,beq_iff_eq];exact ⟨λ⟨x,h,e⟩=>e▸h,λh=>(a7 a h rfl)⟩
theorem SqA.aU(x:SqA O h t "list" v vs):∃a,v= .ref a/\h.IsList a vs:=by obtain ⟨a,o,n,e,z,g,b,d⟩:=x;exact ⟨a,e,o,g,b.1,n,d⟩
theorem SqA.aZ(x:SqA O h t "tuple" v vs):∃a,v= .ref a/\h.IsTuple a vs:=by obtain ⟨a,o,n,e,z,g,b,d⟩:=x;exact ⟨a,e,o,g,b.1,n,d⟩
theorem LS{xs:List D}(f:SqA O s.heap .z "list" a w)(i:DRs c O s.heap xs w.toList)(g:SqA O' s.heap .z "list" b t)(n:DRs c O' s.heap [] t.toList)(y:A.units< mX):RcAt A s a b xs.isEmpty/\RcNeAt A s a b (!xs.isEmpty):=by
 refine a5 f.aU λa l u=>?_;clear f;subst l;refine a5 g.aU λb l v=>?_;clear g;subst l;have m:=i.len;have d:=n.len;have r:t.size=0:=by simpa using d.symm
 clear i;induction xs using bO with
 | nil=>
  have k:w.size=0:=by simpa using m.symm
  have q:=RcAt.lists (e:=λU=>true) u v (by rw [k,r]) y (λj o=>by omega);have p:=RcNeAt.lists (e:=λU=>true) u v (by rw [k,r]) y (λj o=>by omega);rw [k] at q p;exact ⟨q,p⟩
 | cons x xs=>
  have k:(w.size !=t.size)=true:=by
   rw [r];have:w.size=xs.length+1:=by simpa using m.symm
   rw [this];rfl
  exact ⟨RcAt.lists_lengths u v k y,RcNeAt.lists_lengths u v k y⟩
theorem KRs.map{ks:List Tx}(e:KRs c ks p):Pairs (strKind pw c.w) p ((ks.map SS).zip (p.map (·.val))):=by
 induction ks generalizing p with
 | nil=>obtain rfl:=show p=[] from e;exact .nil
 | cons k ks q=>refine d8 e λt v r y x=>?_;clear e;subst y;exact .cons (lL _ _ _ _) rfl (q x)
theorem KRs.keys(e:KRs c ks es):∀e∈es,∃x,(strKind pw c.w).is x e.key=true/\e.hash=(strKind pw c.w).hash x:=by
 induction ks generalizing es with
 | nil=>obtain rfl:=show es=[] from e;intro e h;cases h
 | cons k ks p=>
  refine d8 e λt v r q x=>?_;clear e;subst q;intro e h;cases h with
  | head=>exact (a7 _ (lL _ _ _ _) rfl)
  | tail U h=>exact p x e h
theorem Dy{v:a4}{r:List (a6×a4)}:o8 ((k,v)::r) k=some v:=by simp [o8]
theorem Dx{v:a4}{r:List (a6×a4)}(h:¬k=x):o8 ((k,v)::r) x=o8 r x:=by simp [o8,h]
theorem R9:mm (k::ks) (d::ds) k=some d:=if_pos (beq_self_eq_true k)
theorem R7(h:¬k=x):mm (k::ks) (d::ds) x=mm ks ds x:=if_neg λe=>h (eq_of_beq e)
theorem ye{ds:List D}{vs:List a4}(e:DRs c O h ds vs)(q:ks.length=ds.length)(x:Tx) : (o8 ((ks.map SS).zip vs) (SS x)=none/\mm ks ds x=none)\/∃d v,o8 ((ks.map SS).zip vs) (SS x)=some v/\mm ks ds x=some d/\DR c O h d v:=by
 induction ks generalizing ds vs with
 | nil=>exact .inl ⟨rfl,rfl⟩
 | cons k ks y=>induction ds using bO with
  | nil=>injection q
  | cons d ds=>
   refine c0 e λv r z a s=>?_;clear e;subst z;by_cases p:k=x
   .clear y;subst p;exact .inr (d6 d v Dy R9 a)
   rw [R7 p,eZ,iE,Dx λe=>p (mf e)];exact y s (iX q)
theorem DcA.of{v:a4}(x:DcA c O h t ks v vs):∃a,v= .ref a/\O a=t/\h.DictOf (strKind pw c.w) a ((ks.map SS).zip vs)/\ks.length=vs.length:=by
 obtain ⟨a,o,es,n,e,z,g,b,d,k,rfl,u⟩:=x;have y:=k.len;refine (js a e z ⟨o,es,n,g,b,d,λen p=>k.keys en (by simpa using p),k.map,?_⟩ (by rw [y,cR]));have:((ks.map SS).zip (es.toList.map (·.val))).map (·.1)=ks.map SS:=by rw [xu];simp [y]
 rw [this];exact xr.mpr (u.2.imp λq e=>q (mf e))
theorem Ln(ks:List Tx)(vs:List a4)(h:ks.length=vs.length)(x:Tx):(o8 ((ks.map SS).zip vs) (SS x)).isSome=ks.contains x:=by
 induction ks generalizing vs with
 | nil=>rfl
 | cons k ks q=>induction vs using bO with
  | nil=>injection h
  | cons v vs=>
   by_cases p:k=x
   .clear q;subst p;rw [eZ,iE,Dy,C3,beq_self_eq_true];rfl
   rw [eZ,iE,Dx λe=>p (mf e),q vs (iX h),C3,beq_eq_false_iff_ne.mpr (k8 p),Bool.false_or]
theorem NP(y:A.units+64< mX)(m:DR c O s.heap d a)(j:DR c O' s.heap k b)(h:(nJ d&&nJ k)=true) : b8 (b9 pw c.w) A (jD .Eq a b) (CmR s (wQ d k)) E s/\b8 (b9 pw c.w) A (jD .NotEq a b) (CmR s (!wQ d k)) E s:=by
 rw [dF] at h;obtain ⟨as,p,t,v⟩:=m.reads 8 h.1;obtain ⟨bs,q,l,r⟩:=j.reads 8 h.2;have z:shaped (kM d):=by unfold shaped;rw [t];simp;exact dh v rfl
 have u:shaped (kM k):=by unfold shaped;rw [l];simp;exact dh r rfl
 exact ⟨eq_dataH p q z u y CmR.now,ne_dataH p q z u y CmR.now⟩
theorem LP(h:vQ d=true):d= .l []:=by
 induction d using c7 with
 | l xs=>induction xs using bO with
  | nil=>rfl
  | cons=>exact ff h
 | _=>exact ff h
theorem MF(h:zX d=true):∃xs,d= .l xs:=by
 induction d using c7 with
 | l xs=>exact ⟨xs,rfl⟩
 | _=>exact ff h
theorem Ft(y:A.units+64< mX)(k:DR c O s.heap d a)(p:DR c O' s.heap q b)(e:mH d q=some t) : b8 (b9 pw c.w) A (jD .Eq a b) (CmR s t) E s/\b8 (b9 pw c.w) A (jD .NotEq a b) (CmR s (!t)) E s:=by
 by_cases h:(vQ q&&zX d)=true
 .have e:=(if_pos h).symm.trans e;rw [dF] at h;obtain rfl:=LP h.1;refine xE (MF h.2) λxs l=>?_;subst l;refine a5 k λm v k=>a5 p λj r p=>?_;have:t=xs.isEmpty:=by cases e;clear h k e;induction xs using bO<;>rfl
  clear e;subst this;have:=LS v k r p (Zb y);exact ⟨this.1 _ _ _ _ CmR.now,this.2 _ _ _ _ CmR.now⟩
 refine xA (cX ((if_neg h).symm.trans e)) λz u=>?_;clear e;obtain rfl:=bv u;exact NP y k p z
theorem Fu(u:DR c O s.heap d v)(p:∀x,v= .ref x->(x==gB)=false)(e:Bq x d=some t) : b8 (b9 pw c.w) A (jD .In (.str (SS x) k) v) (CmR s t) E s/\b8 (b9 pw c.w) A (jD .NotIn (.str (SS x) k) v) (CmR s (!t)) E s:=by
 induction d using c7 with
 | l xs=>refine a5 (iW.mp e) λl q y=>?_;clear e;subst y;refine a5 u λvs z r=>a5 z.aU λa y m=>?_;clear p u z;subst y;have are:=(yB r q).1;refine ⟨PyProof.Rows.in_list_strs m are ?_,PyProof.Rows.notin_list_strs m are ?_⟩<;>rw [Fo]<;>exact CmR.now
 | t xs=>refine a5 (iW.mp e) λl q y=>?_;clear e;subst y;refine a5 u λvs z r=>a5 z.aZ λa y m=>?_;clear p u z;subst y;have are:=(yB r q).1;refine ⟨PyProof.Rows.in_tuple_strs m are ?_,PyProof.Rows.notin_tuple_strs m are ?_⟩<;>rw [Fo]<;>exact CmR.now
 | dct ks ds=>
  cases e;refine a5 u λvs z r=>jN z.of λa y U j i=>?_;clear u z;subst y;refine ⟨wpAny_in_of (lL _ _ _ _) (p _ rfl) j.mapOf ?_,wpAny_notIn_of (lL _ _ _ _) (p _ rfl) j.mapOf ?_⟩<;>rw [Ln ks vs i x]<;>exact CmR.tok
 | _=>injection e
theorem Kd.is{n:Bool}(x:Kd c O n a):n=(a== .none)/\plainIs a .none=true:=by cases x<;>exact ⟨rfl,rfl⟩
theorem Kd.handed{n:Bool}(x:Kd c O n v):handedIn v=true:=by cases x<;>rfl
theorem Fv(y:DR c O s.heap d a)(z:DR c O' s.heap u b)(p:isNone u=true) : b8 (b9 pw c.w) A (jD .Is a b) (CmR s (isNone d)) E s/\b8 (b9 pw c.w) A (jD .IsNot a b) (CmR s (!isNone d)) E s:=by
 rw [z.kd.is.1] at p;clear z;obtain rfl:=(beq_iff_eq.mp p);refine xA y.kd.is λq k=>?_;rw [q];by_cases hn:a= .none
 .clear y q k;subst hn;exact ⟨wpAny_is_self rfl CmR.now,wpAny_isNot_self rfl CmR.now⟩
 rw [beq_eq_false_iff_ne.mpr hn];exact ⟨wpAny_is_other k hn CmR.now,wpAny_isNot_other k hn CmR.now⟩
theorem vy{k:Int->Int->Bool}{W:Prop}(e:tY d q k=some t)(v:DR c O s.heap d a)(r:DR c O' s.heap q b)(w:∀i j p u,a= .int i p->b= .int j u->t=k i j->W):W:=eI e v λi p U y e=>eI e r λj u U z e=>w i j p u y z (bv e).symm
theorem UY(N:A.units+64< mX)(p:DR c O s.heap d a)(z:DR c O' s.heap M b)(f:∀x,b= .ref x->(x==gB)=false)(e:cZ Y d M=some t) : b8 (b9 pw c.w) A (jD (ik Y) a b) (CmR s t) E s:=by
 induction Y with
 | eq=>exact (Ft N p z e).1
 | ne=>refine a5 (iW.mp e) λl q g=>?_;clear e;subst g;exact (Ft N p z q).2
 | lt=>exact vy e p z λi j Q u v r m=>by clear p;subst v r m;exact PyProof.Rows.lt_int CmR.now
 | le=>exact vy e p z λi j Q u v r m=>by clear p;subst v r m;exact PyProof.Rows.le_int CmR.now
 | gt=>exact vy e p z λi j Q u v r m=>by clear p;subst v r m;exact PyProof.Rows.gt_int CmR.now
 | ge=>exact vy e p z λi j Q u v r m=>by clear p;subst v r m;exact PyProof.Rows.ge_int CmR.now
 | inn=>
  refine eS e p λx k U v I e=>?_;clear p;subst v;induction M using c7 with
  | str y=>
   refine fx z λU G g=>?_;clear f z;subst g;cases e;exact PyProof.Rows.in_str CmR.now
  | _=>exact (Fu z f e).1
 | nin=>refine eS e p λx k U v I e=>?_;clear p;subst v;refine a5 (iW.mp e) λl q g=>?_;clear e;subst g;exact (Fu z f q).2
 | is=>refine xA (cX e) λo n=>?_;clear e;obtain rfl:=bv n;exact (Fv p z o).1
 | isn=>refine xA (cX e) λo n=>?_;clear e;obtain rfl:=bv n;exact (Fv p z o).2
end
open Mine.Internal.CmR renaming now->JZ
def qF:Bi->a4
 | .len=>.builtin "len" | .abs=>.builtin "abs" | .max=>.builtin "max" | .min=>.builtin "min" | .str=>.type "str" | .list=>.type "list" | .dict=>.type "dict" | .chr=>.builtin "chr"
section
variable {c:Cfg}{O:Ow}{s:bM}{h:bP}{A:cy}{E:bZ}
set_option tactic.hygienic true in
theorem DictOf.bH(p:Pairs (strKind pw c.w) l ((ks.map SS).zip vs))(u:∀e∈l,∃k,(strKind pw c.w).is k e.key=true/\e.hash=(strKind pw c.w).hash k)(q:ks.length=vs.length):KRs c ks l/\l.map (·.val)=vs:=by
 induction ks generalizing vs l with
 | nil=>induction vs using bO with
  | nil=>cases p;exact ⟨rfl,rfl⟩
  | cons=>injection q
 | cons k ks f=>induction vs using bO with
  | nil=>injection q
  | cons v vs=>
   cases (show Pairs (strKind pw c.w) l ((SS k,v)::(ks.map SS).zip vs) from p) with
   | cons y z p=>
   rename_i e es _;refine xA (f p (λe he=>u e (.tail _ he)) (iX q)) λj i=>a5 (u e (.head _)) λd q1 m=>?_;obtain rfl:=(strKind pw c.w).inj _ _ _ q1 y;refine xE (Value.isStrOf_shape y) λt r=>?_;obtain ⟨g,o,ev⟩:=e;dsimp only at r m z;subst r m z;exact ⟨(eM t ev es rfl j),congrArg _ i⟩
theorem DcA.mk'{ks:List Tx}{t:Tag}(x:h.DictOf (strKind pw c.w) a ((ks.map SS).zip vs))(u:ks.length=vs.length)(z:O a=t)(y:jh ks):DcA c O h t ks (.ref a) vs:=by exact gq x λo es p v he q l=>dm l λk r hn=>xA (DictOf.bH r (λe he=>k e (by simpa using he)) u) λk1 k2=>⟨a,o,es,p,rfl,z,v,he,q,k1,k2,y⟩
theorem Rz(i:Int):cI (qG i)=true:=by unfold cI qG;rw [List.all_map,dM];intro k _;have:=k.valid;simp only [UInt32.isValidChar,Nat.isValidChar] at this;have e:k.toNat=k.val.toNat:=rfl;simp only [JY,decide_eq_true_eq];exact Zc this e
theorem SY(i:Int):eG (toString i)=SS (qG i):=by rw [Str.ofString_eq_toList];rfl
theorem Oo{l:List Int}(e:DRs c O h ds vs)(q:ms ds=some l):IntsAre vs l:=by
 induction ds generalizing vs l with
 | nil=>obtain rfl:=show vs=[] from e;cases q;exact .nil
 | cons d ds p=>refine c0 e λv r k a s=>?_;subst k;refine eI q a λx t U ev q=>?_;clear a e;subst ev;refine a5 (iW.mp q) λy q1 k=>?_;clear q;subst k;exact .cons _ _ (p s q1)
theorem MC{l:List Int}{M:Int}:∀{a:Int},a<=M->(∀x∈l,x<=M)->(M=a\/M∈l)->l.foldl (λm x=>if m< x then x else m) a=M:=by
 induction l with
 | nil=>intro a _ _ h;exact (h.resolve_right λh=>by cases h).symm
 | cons y l u=>
  intro a p q h;have z:=q y (.head _);have k:=λx v=>q x (.tail _ v);show l.foldl _ (if a< y then y else a)=M;by_cases w:a< y
  .rw [if_pos w];refine u z k ?_;rcases h with rfl | h
   .exact absurd (Cn w z) (Int.lt_irrefl _)
   exact dp.mp h
  rw [if_neg w];exact u p k (h.elim .inl λh=>(dp.mp h).elim (λe=>.inl (Jw (e▸kX.mp w) p)) .inr)
theorem Rn{l:List Int}{m k:Int}(e:wB l=some m)(q:k∈l)(p:∀a∈l,a<=k):k=m:=by
 induction l using bO with
 | nil=>injection e
 | cons a r=>exact (MC (p _ (.head _)) (λx y=>p x (.tail _ y)) (dp.mp q)).symm.trans (bv e)
theorem Dd(x:Tx)(hs:∀c∈x,c< 1114112)(vs:List a4)(w:vs.length=x.length)(z:∀(j:Nat) (v:a4),vs[j]? =some v->∃k u,x[j]? =some k/\v=Value.str (SS [k]) u):DRs c O h (x.map λk=>.str [k]) vs:=by
 induction x generalizing vs with
 | nil=>clear z;induction vs using bO with
  | nil=>rfl
  | cons=>injection w
 | cons k x m=>induction vs using bO with
  | nil=>injection w
  | cons v vs=>refine cU (z 0 v rfl) λi u p q=>?_;cases p;exact .cons (iT (dM.mpr λy l=>by clear w z q;obtain rfl:=fh.mp l;exact decide_eq_true (hs _ (.head _))) u q) (m (λc r=>hs c (.tail _ r)) vs (iX w) λj v t=>z (j+1) v t)
theorem OpR.hk{x:D}{k:Nat}(q:Kp s.heap h')(p:DR c O h' x r):OpR c O s (.d x) r {s with heap:=h',toks:=k}:=.d q ⟨rfl,rfl⟩ p
theorem OpR.hi{i:Int}{t k:Nat}{h':bP}(p:Kp s.heap h'):OpR c O s (.d (.int i)) (.int i t) {s with heap:=h',toks:=k}:=.hk p ⟨_,rfl⟩
theorem OpR.listAt{xs:List D}{k n:Nat}(y:Kp s.heap h')(q:h'.get? s.heap.objs.size=some {cls:=.type "list",dict:=none,data:=.seq vs n,slots:=#[]})(p:DRs c O s.heap xs vs.toList):OpR c O s (.ol xs) (.ref s.heap.objs.size) {s with heap:=h',toks:=k}:=.list (ig _) y ⟨rfl,rfl⟩ q ⟨rfl,rfl,rfl⟩ rfl p
theorem TY(k:DR c O s.heap d a)(e:Hx d=some n):b8 (b9 pw c.w) A (call (.builtin "len") [a]) (OpR c O s (.d (.int n))) E s:=by
 induction d using c7 with
 | str l=>refine fx k λhs t z=>?_;clear k;subst z;refine xA (cX e) λp q=>?_;clear e;obtain rfl:=bv q;refine PyProof.Rows.len_str (by rw [f6];exact uT.mpr (wz (ee p))) ?_;rw [f6];exact .i
 | l xs=>refine a5 k λvs y r=>xA (cX e) λp q=>?_;clear e;obtain rfl:=bv q;refine a5 y.aU λa z u=>?_;clear k y;subst z;refine PyProof.Rows.len_list u (by rw [<-r.size];exact wz (ee p)) ?_;rw [<-r.size];exact .i
 | t xs=>refine a5 k λvs y r=>xA (cX e) λp q=>?_;clear e;obtain rfl:=bv q;refine a5 y.aZ λa z u=>?_;clear k y;subst z;refine PyProof.Rows.len_tuple u (by rw [<-r.size];exact wz (ee p)) ?_;rw [<-r.size];exact .i
 | _=>injection e
theorem TZ{xs:List D}{l:List Int}{m:Int}(C:A.handled=none)(Q:SqA O s.heap .z "list" a Y)(b:DRs c O s.heap xs Y.toList)(q:ms xs=some l)(f:wB l=some m) : b8 (b9 pw c.w) A (call (.builtin "max") [a]) (OpR c O s (.d (.int m))) E s:=by
 refine c0 Q.is λa n p U N=>?_;clear Q;subst p;have g:=Oo b q;refine xE g.allInts.items λxs ex=>?_;have k:l=xs.toList.map (·.1):=by rw [<-g.numsOf,<-nums_intItems,<-ex]
 have r:l≠[]:=by intro x;rw [x] at f;injection f
 have hsz:0< xs.size:=by
  rcases Jh xs.size with y | y
  .exfalso;apply r;rw [k];simp [JI y]
  exact y
 have H:s.heap.IsList a (intItems xs):=(nK _ N rfl n (by show Data.seq Y n=_;congr 1));refine max_intList C H hsz λv h' tk e B=>xE (intItems_at e) λt p=>?_;clear e;subst p;refine xA (argBest_gt (numAt xs) (xs.size -1)) λI G=>?_;have M:numAt xs (argBest (λi j=>decide (numAt xs i> numAt xs j)) (xs.size -1))=m:=by
  refine Rn f ?_ λa u=>?_
  .rw [k,numAt_eq];exact getD_mem (by rw [cR,om];exact Zd hsz I)
  rw [k] at u;refine a5 (mem_getD u) λj o p=>?_;clear u;subst p;rw [cR,om] at o;rw [<-numAt_eq];exact G j (Ze hsz o)
 rw [M];exact .hi B
theorem Qe(B:A.handled=none)(k:DR c O s.heap d a)(e:Bj .list d=some o):b8 (b9 pw c.w) A (call (.type "list") [a]) (OpR c O s o) E s:=by
 induction d using c7 with
 | l l=>
  refine xA (cX e) λy z=>?_;clear e;obtain rfl:=bv z;have:=ee y;refine a5 k λvs Y r=>?_;have b:l.length=vs.size:=by simpa using r.len
  refine c0 Y.is λa n g U I=>?_;clear k Y;subst g;exact call_list_seq _ (.inl rfl) I rfl rfl λh' M f m=>OpR.listAt f m r
 | str x=>refine xA (cX e) λy z=>?_;clear e;obtain rfl:=bv z;have:=ee y;refine fx k λhs t g=>?_;clear k;subst g;exact call_list_str B _ _ (hn:=by rw [fH];show (SS x).length<=_;rw [f6];exact dh this rfl) λh' tk Q M f m i=>OpR.listAt f m (xA i λG C=>Dd x (sN hs) _ (by rw [om,G];exact f6 x) λj v H=>cU (C j v (by simpa using H)) λN u p q=>(dU N u (by simpa [SS] using p) q))
 | _=>injection e
theorem Qd(y:∀x,a= .ref x->(x==gB)=false)(t:DR c O s.heap (.dct ks ds) a)(e:cL ks.length=true):b8 (b9 pw c.w) A (call (.type "dict") [a]) (OpR c O s (.od ks ds)) E s:=by
 refine a5 t λvs v r=>?_;have z:jh ks:=by obtain ⟨U,U,U,U,U,U,U,U,U,U,U,p⟩:=v;exact p
 refine jN v.of λa j U m q=>?_;clear t v;subst j;have:=ee e;refine kt_call_dict (y _ rfl) m (by rw [fH];simp [<-q];exact Zg q this) λh' k u=>?_;have p:=λb o e=>u.extBut b o (jl (gX e)) (cS _ e);have n:=ig s.heap;have l:∃o,h'.get? s.heap.objs.size=some o:=by refine d8 k λo U U e U=>?_;exact ⟨o,e⟩
 exact .new n p ⟨rfl,rfl⟩ l (a7 vs (DcA.mk' k q fR z) (r.ext (oR n p)))
set_option tactic.hygienic true in
theorem UU(Q:A.handled=none)(k:DR c O s.heap d a)(y:∀x,a= .ref x->(x==gB)=false)(e:Bj b d=some o):b8 (b9 pw c.w) A (call (qF b) [a]) (OpR c O s o) E s:=by
 induction b with
 | len=>refine a5 (iW.mp e) λn q j=>?_;clear e;subst j;exact TY k q
 | abs=>
  refine eI e k λi t _ v e=>?_;clear k y;subst v;obtain rfl:=bv e;refine call_abs_int λu tk=>?_;have:(if i< 0 then -i else i)=(i.natAbs:Int):=by split;(next q=>exact (Int.ofNat_natAbs_of_nonpos (xL q)).symm);(next q=>exact (Cj (kX.mp q)).symm)
  rw [this];exact .i
 | max=>refine eL e k λxs vs _ M r e=>a5 (iW.mp e) λm q j=>?_;clear e;subst j;exact a5 (gZ.mp q) λl q1 Y=>TZ Q M r q1 Y
 | str=>
  refine eI e k λi t _ v e=>?_;subst v;refine xA (cX e) λp z=>?_;obtain rfl:=bv z;refine P.str_of_int ?_ (by rw [SY];exact .tx (Rz _));have f:=y5 p;unfold uY at f;split at f
  .rename_i g;simp at g;clear k y p e z;subst g;decide +kernel
  exact dh f rfl
 | list=>exact Qe Q k e
 | dict=>refine cU (E4 e) λks vs j e=>?_;subst j;refine xA (cX e) λp z=>?_;clear e;obtain rfl:=bv z;exact Qd y k p
 | chr=>refine eI e k λi t _ v e=>?_;clear k y;subst v;refine xA (cX e) λp z=>?_;clear e;obtain rfl:=bv z;simp only [dF,decide_eq_true_eq] at p;exact chr_of_range (Zh p) (Zi p) (.tx (by simp [cI];exact Zj p))
 | min=>injection e
theorem OpR.ite{p:Prop}[Decidable p]{i j:Int}{t u k:Nat}{h':bP}(q:Kp s.heap h'):OpR c O s (.d (.int (if p then i else j))) (if p then .int i t else .int j u) {s with heap:=h',toks:=k}:=by
 by_cases h:p
 .rw [if_pos h,if_pos h];exact .hi q
 rw [if_neg h,if_neg h];exact .hi q
theorem UV(v:A.handled=none)(p:DR c O s.heap d a)(k:DR c O s.heap l r)(e:HT b d l=some o):b8 (b9 pw c.w) A (call (qF b) [a,r]) (OpR c O s o) E s:=by
 induction b with
 | max=>refine q9 e p k λi j t u q y e=>?_;clear p;subst q y;obtain rfl:=bv e;exact max_two_ints v λh' tk z=>.ite z
 | min=>refine q9 e p k λi j t u q y e=>?_;clear p;subst q y;obtain rfl:=bv e;exact min_two_ints v λh' tk z=>.ite z
 | _=>exact eH e
theorem UW(Q:A.handled=none)(z:DR c O s.heap d a)(p:DR c O s.heap l v)(q:DR c O s.heap m r)(e:HU b d l m=some o):b8 (b9 pw c.w) A (call (qF b) [a,v,r]) (OpR c O s o) E s:=by
 induction b with
 | max=>
  refine eI e z λi t U f e=>eI e p λj u U g e=>eI e q λk w U n e=>?_;clear z;subst f g n;obtain rfl:=bv e;refine max_three_ints Q λh' tk y=>?_;unfold qQ;by_cases h:j> i
  .rw [if_pos h,if_pos h];exact .ite y
  rw [if_neg h,if_neg h];exact .ite y
 | _=>exact eH e
theorem XK(q:A.handled=none)(rs:DRs c O s.heap ds vals)(k:∀x,fP x∈vals->(x==gB)=false)(e:kJ b ds=some o):b8 (b9 pw c.w) A (call (qF b) vals) (OpR c O s o) E s:=by
 induction ds using bO with | nil=>exact eH e | cons d ds=>
 obtain ⟨a,U,rfl,y,rs⟩:=rs;induction ds using bO with
 | nil=>obtain rfl:=show _=([]:List a4) from rs;exact UU q y (λx u=>k x (u▸ .head _)) e
 | cons t ds=>
 clear k;obtain ⟨v,U,rfl,p,rs⟩:=rs;induction ds using bO with
 | nil=>obtain rfl:=show _=([]:List a4) from rs;exact UV q y p e
 | cons l ds=>
 obtain ⟨r,U,rfl,z,rs⟩:=rs;induction ds using bO with
 | nil=>obtain rfl:=show _=([]:List a4) from rs;exact UW q y p z e
 | cons=>exact eH e
end
def B0:Sm->String
 | .join=>"str.join" | .find=>"str.find" | .upper=>"str.upper" | .lower=>"str.lower" | .lstrip=>"str.lstrip" | .rstrip=>"str.rstrip" | .rjust=>"str.rjust" | .split=>"str.split" | .get=>"dict.get"
theorem Fj(x:a6):SS x.cps.toList=x:=by induction x using Str.casesOn;simp [SS]
theorem StrsAre.values:∀{vs:List a4} {ys:List a6},StrsAre vs ys->∃l:List (a6×fA),vs=strValues l/\l.map (·.1)=ys:=by
 intro vs ys h;induction h with
 | nil=>exact (a7 [] rfl rfl)
 | cons y t U q=>exact a5 q λl k p=>(a7 ((y,t)::l) (by rw [k];rfl) (by rw [eZ,p]))
theorem Oi(sep:Tx):∀(l:List Tx) (a:Array Nat),(l.map SS).foldl (λacc p=>acc++(SS sep).cps++p.cps) a=a++((l.map λx=>sep++x).flatten).toArray:=by
 intro l;induction l with
 | nil=>exact λa=>by simp
 | cons x l k=>intro a;rw [eZ,n7,k];apply CC;simp [SS]
theorem y9(sep x:Tx):∀(l:List Tx),im sep (x::l)=x++(l.map λy=>sep++y).flatten
 | []=>by simp [im]
 | y::l=>by rw [im,y9 sep y l];simp
theorem QZ(sep:Tx)(l:List Tx):Txt.join (SS sep) (l.map SS)=SS (im sep l):=by
 unfold Txt.join Builtin.Str.glued;induction l using bO with
 | nil=>rfl
 | cons x l=>rw [eZ,List.drop_one,List.tail_cons,List.headD_cons,Oi,y9];unfold SS;congr 1;apply CC;simp
theorem MJ(sep:Tx):∀(l:List Tx) (n:Nat),(l.map SS).foldl (λx y=>x+y.length+(SS sep).length) n=l.foldl (λn x=>n+x.length+sep.length) n:=by
 intro l;induction l with
 | nil=>exact λn=>rfl
 | cons x l k=>exact λn=>by rw [eZ,n7,n7,f6,f6,<-f6 sep,k,f6]
theorem OS(sep:Tx)(hs:cI sep=true):∀(l:List Tx),(∀x∈l,cI x=true)->cI ((l.map λy=>sep++y).flatten)=true:=by
 intro l;induction l with
 | nil=>exact λU=>rfl
 | cons x l p=>intro h;rw [eZ,IX];exact oF (oF hs (h _ (.head _))) (p λy k=>h y (.tail _ k))
theorem MR(hs:cI sep=true)(k:∀x∈l,cI x=true):cI (im sep l)=true:=by
 induction l using bO with
 | nil=>rfl
 | cons x l=>rw [y9];exact oF (k _ (.head _)) (OS sep hs l λy p=>k y (.tail _ p))
section
variable {c:Cfg}{O:Ow}{s:bM}{h:bP}{A:cy}{E:bZ}
theorem DR.cps{x:a6}(k:cI x.cps.toList=true):DR c O h (.str x.cps.toList) (.str x t):=(iT k t (by rw [Fj]))
theorem sR(e:pg x=some o):x.length<=1048576/\cI x.cps.toList=true/\o= .d (.str x.cps.toList):=by refine xA (cX e) λk p=>?_;clear e;obtain rfl:=bv p;rw [dF] at k;exact ⟨by have:=k.2;unfold df at this;simpa using this,k.1,rfl⟩
theorem M5:∀{l:List (a6×fA)} {vs:List a6},l.map (·.1)=vs->vs.all (λx=>cI x.cps.toList)=true->DRs c O h (vs.map λx=>iJ x.cps.toList) (strValues l):=by
 intro l;induction l with
 | nil=>exact λe U=>by subst e;rfl
 | cons p l q=>intro vs e k;subst e;rw [eZ,List.all_cons,dF] at k;exact .cons (DR.cps k.1) (q rfl k.2)
theorem Pp(m:(y.length==0)=false)(r:(rU x y).all (λx=>cI x.cps.toList)=true)(hsz:x.length<=o7) (z:(JN x (CE x y 0 x.length (x.length+1)) y.length).length<=o7) : b8 (b9 pw c.w) A (call (.builtin "str.split") [.str x t,.str y u]) (OpR c O s (.ol ((rU x y).map λx=>.str x.cps.toList))) E s:=by
 have p:∀(l:List (a6×fA)) (k:Nat),l.map (·.1)=rU x y->OpR c O s (.ol ((rU x y).map λx=>.str x.cps.toList)) (.ref s.heap.objs.size) {s with heap:=s.heap.push {cls:=.type "list",data:=.seq (strValues l).toArray},toks:=k}:=λl k e=>.aE (M5 e r);induction q:(decide (x.length< y.length)||decide (JO x< JO y)) using dj
 .induction v:(CE x y 0 x.length (x.length+1)).isEmpty using dj
  .refine o6 xP (uy _ _ _) Cv (Cu _ _) (meets_str_split_sep x y t u q m v hsz z) ?_;rw [strsFrom_eq];exact p (numbered s.toks _) _ ((numbered_texts _ _).trans ((if_neg (ne_true_of_eq_false q)).trans (if_neg (ne_true_of_eq_false v))).symm)
  exact o6 xP (uy _ _ _) Cv (Cu _ _) (meets_str_split_not_found x y t u q m v) (p [(x,t)] s.toks ((if_neg (ne_true_of_eq_false q)).trans (if_pos v)).symm)
 exact o6 xP (uy _ _ _) Cv (Cu _ _) (meets_str_split_cannot_occur x y t u q) (p [(x,t)] s.toks (if_pos q).symm)
abbrev qM(c:Cfg)(O:Ow)(s:bM)(A:cy)(E:bZ)(m:Sm)(o:V)(vals:List a4):Prop:=b8 (b9 pw c.w) A (call (.builtin (B0 m)) vals) (OpR c O s o) E s
theorem Sq{xs:List D}(w:cI x=true)(p:SqA O s.heap .z "list" a m)(t:DRs c O s.heap xs m.toList)(q:mz xs=some l)(e:cL (nz x l)=true):qM c O s A E .join (.d (.str (im x l))) [.str (SS x) k,a]:=by
 refine c0 p.is λa n j U y=>?_;clear p;subst j;obtain ⟨are,r⟩:=yB t q;refine a5 (StrsAre.values are) λi u v=>SC.join (nK _ y rfl n (by rw [<-u])) v ?_ λf k=>?_
 .unfold JoinOk uW;rw [List.foldl_toArray,MJ];have:=ee e;unfold nz at this;simp only [fH,jF,decide_eq_false_iff_not];exact HD this
 rw [QZ];exact .tx (MR w r)
theorem Pn{n:Int}(q:cI x=true)(w:cI [p]=true)(z:0<=n)(v:n<=64):qM c O s A E .rjust (.d (.str (iF (n.toNat -x.length) p++x))) [.str (SS x) k,.int n u,.str (SS [p]) t]:=by
 refine rjust_fill ?_ rfl λr k=>?_
 .unfold PadOk fitsSsize uW;simp [fH];exact Zk z v
 have y:Txt.rjustF (SS x) n ((SS [p]).cps.getD 0 0)=SS (iF (n.toNat -x.length) p++x):=by rw [<-Fj (Txt.rjustF _ _ _),rjustF_list,f6];rfl
 rw [y];refine .tx (oF ?_ q);have:=sN w p (.head _);unfold cI;rw [dM];intro x q;rw [List.eq_of_mem_replicate q];simpa using this
theorem Vr(Q:cI x=true)(v:DR c O s.heap d a)(e:Ij m x d=some o):qM c O s A E m o [.str (SS x) k,a]:=by
 induction m with
 | join=>refine eL e v λxs vs U Y r e=>a5 (gZ.mp e) λl q e=>xA (cX e) λp z=>?_;clear e;obtain rfl:=bv z;exact Sq Q Y r q p
 | find=>exact eS e v λy u U w U e=>by clear v;subst w;obtain rfl:=bv e;exact SC.find .i
 | lstrip=>refine eS e v λy u U w U e=>?_;clear v;subst w;refine xA (cX e) λp z=>dm (sR z) λg t j=>?_;clear e z;subst j;have:=ee p;exact SC.lstripChars (λM k=>.dt (DR.cps t)) (by rw [f6,fH];exact dh this rfl)
 | rstrip=>refine eS e v λy u U w U e=>?_;clear v;subst w;refine xA (cX e) λp z=>dm (sR z) λg t j=>?_;clear e z;subst j;have:=ee p;exact SC.rstripChars (λM k=>.dt (DR.cps t)) (by rw [f6,fH];exact dh this rfl)
 | split=>
  refine eS e v λy u U w U e=>?_;subst w;refine xA (cX e) λp z=>?_;obtain rfl:=bv z;unfold Fb at p;simp only [dF] at p;refine xA p λj f=>?_;obtain ⟨⟨g,t⟩,n⟩:=j;have t:=ee t;have f:=ee f;refine Pp ?_ n (by rw [f6,fH];exact dh t rfl) (by rw [fH];exact dh f rfl);rw [f6];clear v e z p n f;induction y using bO with
  | nil=>injection g
  | cons U U=>rfl
 | _=>injection e
theorem Vs(j:cI x=true)(rs:DRs c O s.heap ds vals)(e:Il m x ds=some o):qM c O s A E m o (.str (SS x) k::vals):=by
 induction ds using bO with
 | nil=>
  obtain rfl:=show _=([]:List a4) from rs;have z:∀{y:a6},y.length<=1048576->uW y.length=false:=λh=>by unfold uW;rw [fH];simp;exact dh h rfl
  induction m with
  | upper=>obtain ⟨r,l,rfl⟩:=sR e;exact SC.upper (by have:=z r;simpa using this) (.dt (DR.cps l))
  | lower=>obtain ⟨r,l,rfl⟩:=sR e;exact SC.lower (by have:=z r;simpa using this) (.dt (DR.cps l))
  | _=>injection e
 | cons d ds=>
 obtain ⟨a,U,rfl,v,rs⟩:=rs;induction ds using bO with
 | nil=>obtain rfl:=show _=([]:List a4) from rs;exact Vr j v e
 | cons G ds=>
 obtain ⟨N,U,rfl,q,rs⟩:=rs;induction ds using bO with
 | nil=>
  obtain rfl:=show _=([]:List a4) from rs;induction m with
  | find=>exact eS e v λy u U g U e=>eI e q λi t U Q e=>by clear v;subst g Q;obtain rfl:=bv e;exact SC.find3 .i
  | rjust=>
   refine eI e v λn u U en e=>eS e q λp C U Y M e=>?_;clear v;subst en Y;induction p using bO with
   | nil=>injection e
   | cons I p=>clear q;induction p using bO with
    | nil=>refine xA (cX e) λw f=>?_;clear e;obtain rfl:=bv f;simp only [dF,decide_eq_true_eq] at w;exact Pn j M w.1 w.2
    | cons=>injection e
  | _=>injection e
 | cons=>injection e
theorem Vp(y:∀x,a= .ref x->(x==gB)=false)(i:DR c O s.heap (.dct ks vs) a)(rs:DRs c O s.heap ds vals)(e:Ik ks vs ds=some o):qM c O s A E .get o (a::vals):=by
 refine a5 i λus f r=>?_;obtain ⟨a,rfl,U,z,j⟩:=f.of;have q:=j.trans r.len.symm;induction ds using bO with
 | nil=>injection e
 | cons d ds=>
 obtain ⟨b,U,rfl,v,rs⟩:=rs;induction ds using bO with
 | nil=>
  obtain rfl:=show _=([]:List a4) from rs;refine eS e v λx u U t U e=>?_;clear v;subst t;obtain rfl:=bv e;refine call_meetsIn Cw z.typeIs F.entry_dict_get (F.args_dict_get_2 _ _) (meets_dict_get (strKind pw c.w) _ (lL _ _ _ _) (y _ rfl)) (a7 _ z.mapOf ?_);rcases ye r q x with ⟨k,p⟩ | ⟨d,w,k,p,l⟩
  .rw [k,p];exact .dt rfl
  rw [k,p];exact .dt l
 | cons n ds=>
 obtain ⟨g,U,rfl,m,rs⟩:=rs;induction ds using bO with
 | nil=>
  obtain rfl:=show _=([]:List a4) from rs;refine eS e v λx u U t U e=>?_;clear v;subst t;obtain rfl:=bv e;refine call_meetsIn Cw z.typeIs F.entry_dict_get (F.args_dict_get_3 _ _ _) (meets_dict_get_default (strKind pw c.w) _ (lL _ _ _ _) (y _ rfl) _) (a7 _ z.mapOf ?_);rcases ye r q x with ⟨k,p⟩ | ⟨d,w,k,p,l⟩
  .rw [k,p];exact .dt m
  rw [k,p];exact .dt l
 | cons=>injection e
set_option tactic.hygienic true in
theorem XM(q:DR c O s.heap d a)(rs:DRs c O s.heap ds vals)(p:∀x,a= .ref x->(x==gB)=false)(e:uk m d ds=some o):qM c O s A E m o (a::vals):=by
 unfold uk at e;split at e
 .rename_i z;refine cU (E4 e) λks vs v e=>?_;subst v;induction m using Sm.casesOn<;>first | exact Vp p q rs e | injection z
 exact eS e q λx k _ y u e=>by clear q p;subst y;exact Vs u rs e
end
section
variable {c:Cfg}{O O':Ow}{s:bM}{h:bP}{A:cy}{E:bZ}
def TrR(s:bM)(b:Bool)(r:Bool)(s':bM):Prop:=r=b/\Kp s.heap s'.heap/\SameRest s s'
theorem TrR.tok{b:Bool}{k:Nat}:TrR s b b {s with toks:=k}:=⟨rfl,.refl _,⟨rfl,rfl⟩⟩
theorem TrR.aP{b p:Bool}{k:Nat}(h:p=b):TrR s b p {s with toks:=k}:=⟨h,.refl _,⟨rfl,rfl⟩⟩
@[elab_as_elim] theorem Bn{p:Type}{k:Int->Option p}{v:p}{P:a4->Prop}(e:em d k=some v)(y:DR c O h d a)(w:∀i t,k i=some v->P (.int i t)):P a:=eI e y λi t U q e=>q▸w i t e
@[elab_as_elim] theorem eSp{p:Type}{k:Tx->Option p}{v:p}{P:a4->Prop}(e:gP d k=some v)(y:DR c O h d a)(w:∀i t,cI i=true->k i=some v->P (.str (SS i) t)):P a:=eS e y λi t U q o e=>q▸w i t o e
@[elab_as_elim] theorem SqA.bq{P:a4->Prop}(x:SqA O h t "list" v vs)(w:∀a,h.IsList a vs->P (.ref a)):P v:=let ⟨a,e,i⟩:=x.aU;e▸w a i
@[elab_as_elim] theorem SqA.bD{P:a4->Prop}(x:SqA O h t "tuple" v vs)(w:∀a,IsTup h a vs->P (.ref a)):P v:=let ⟨a,e,i⟩:=x.aZ;e▸w a i
theorem PA(hn:n=vs.size)(l:n<=1048576)(k:s.heap.IsList a vs):b8 (b9 pw c.w) A (truthy (.ref a)) (TrR s (n !=0)) E s:=by
 refine wpAny_truthy_list k (by subst hn;exact wz l) (TrR.aP ?_);clear l;subst hn;induction q:vs.size using gF with
 | zero=>rw [JI q];rfl
 | succ n=>rw [show vs.isEmpty=false by simp [Array.isEmpty,q]];rfl
theorem V3(p:DR c O s.heap d a)(k:∀x,a= .ref x->(x==gB)=false)(e:gp d=some b):b8 (b9 pw c.w) A (truthy a) (TrR s b) E s:=by
 induction d using c7 with
 | none=>cases e;clear k;obtain rfl:=show a= .none from p;exact truthy_none (TrR.tok)
 | bool b=>cases e;clear k;obtain rfl:=show a= .bool b from p;exact ur (TrR.tok)
 | int i=>cases e;refine xE p λt v=>?_;clear k p;subst v;exact P.truthy_int (TrR.tok)
 | str x=>
  refine fx p λU t v=>?_;subst v;refine xA (cX e) λq z=>?_;have:=ee q;obtain rfl:=bv z;refine P.truthy_str (by rw [f6];omega) (TrR.aP ?_);rw [f6];clear k p q this e z;induction x using bO<;>rfl
 | l xs=>refine a5 p λvs m r=>xA (cX e) λq z=>?_;rw [<-bv z];exact m.bq λa g=>PA r.size (ee q) g
 | dct ks ds=>
  refine a5 p λvs m r=>xA (cX e) λq z=>?_;have:=ee q;obtain rfl:=bv z;refine jN m.of λa v U f j=>?_;subst v;refine wpAny_truthy_dict (k _ rfl) f (by simp [<-j];exact Zl this j) (TrR.aP ?_);clear q this e z p;induction ks using bO with
  | nil=>rfl
  | cons y x=>clear r f m;induction vs using bO with
   | nil=>injection j
   | cons u us=>rfl
 | _=>injection e
def su:a8->Bool
 | .Slice .. =>false
 | _=>true
theorem v7(h:su slice=true)(o i:a4):subscripted slice false o i=operate [o,i] (getItem o i):=by induction slice using lX<;>first | rfl | injection h
theorem y8{i:Int}{W:Prop}(h:lh n i=some k)(p:0<=i->i< n->k=i.toNat->W)(m:i< 0->0<=i+n->k=(i+n).toNat->W):W:=by
 unfold lh at h;by_cases q:0<=i
 .rw [if_pos q] at h;split at h
  .exact p q ((Cq q).mp ‹_›) (bv h).symm
  injection h
 rw [if_neg q] at h;split at h
 .exact m (uT.mp q) ‹_› (bv h).symm
 injection h
theorem Uz{i n:Int}(h:i< 0):i+n< n:=by rw [<-Int.sub_lt_sub_right_iff,Int.add_sub_cancel,Int.sub_self];exact h
theorem CU{i:Int}{k:Nat}(h:lh n i=some k):seqIndex? i n=some k:=y8 h (λp q e=>by unfold seqIndex?;rw [if_neg (kX.mpr p),e];show (if (decide (0<=i)&&decide (i< n))=true then some i.toNat else none)=_;rw [decide_eq_true p,decide_eq_true q];rfl) (λp q e=>by unfold seqIndex?;rw [if_pos p,e];show (if (decide (0<=i+n)&&decide (i+n< n))=true then some (i+n).toNat else none)=_;rw [decide_eq_true q,decide_eq_true (Uz p)];rfl)
theorem FR{i n:Int}(h:0<=i+n): -n<=i:=Int.le_of_sub_nonneg (by rw [Int.sub_neg];exact h)
theorem FJ{n:Nat}{i:Int}(h:i< n)(l:n<=1048576):i< 2 ^ 63:=Cn h (eR (ni.mpr l) ∅)
theorem FP{n:Nat}{i:Int}(h:0<=i+n)(l:n<=1048576): -(2 ^ 63)<=i:=eR (eR ∅ (Int.neg_le_neg (ni.mpr l))) (FR h)
theorem y3{n:Nat}{i:Int}{k:Nat}(h:lh n i=some k)(l:n<=1048576): -(2 ^ 63)<=i/\i< 2 ^ 63:=y8 h (λp q U=>⟨eR ∅ p,FJ q l⟩) (λp q U=>⟨FP q l,Int.lt_trans p ∅⟩)
theorem Rg{p:Array a4}{i:Int}{k:Nat}{Q:bZ}(u:s.heap.IsList l p)(q:lh p.size i=some k)(hn:p.size<=1048576)(v:p[k]? =some x)(h:Q x s):b8 (b9 pw c.w) A (getItem (.ref l) (.int i t)) Q E s:=y8 q (λz y e=>wpAny_getItem_list u z (FJ y hn) (e▸v) h) λz y e=>wpAny_getItem_list_neg u z (FR y) (FP y hn) (e▸v) h
theorem OpR.one{i k:Nat}{p:Nat}{t tk:Nat}(y:cI x=true)(q:x[k]? =some p):OpR c O s (.d (.str [p])) (.str (SS [p]) t) {s with toks:=tk}:=.tx (by have:=sN y p (kR q);simp [cI,this])
theorem Vw{i:Int}{k ch:Nat}(p:cI x=true)(q:lh x.length i=some k)(z:x.length<=1048576)(y:x[k]? =some ch):b8 (b9 pw c.w) A (getItem (.str (SS x) t) (.int i v)) (OpR c O s (.d (.str [ch]))) E s:=by
 have e:Txt.charAt (SS x) i=some ch:=by unfold Txt.charAt;rw [f6,CU q];exact (xR ..).symm.trans y
 have u:Txt.item (SS x) i=SS [ch]:=by unfold Txt.item;rw [e];rfl
 refine SB.getItem (by unfold fitsSsize;rw [decide_eq_false (kX.mpr (y3 q z).1),decide_eq_false (uT.mpr (y3 q z).2)];rfl) (by rw [e];rfl) ?_;rw [u];exact .one (i:=0) p y
theorem FU{m slice:a8}(hs:su slice=true)(z:DR c O s.heap d a)(o:DR c O' s.heap C b)(e:kI d C=some x) : b8 (b9 pw c.w) A (xS m slice a b) (OpR c O s (.d x)) E s:=by
 induction d using c7 with
 | l xs=>refine Bn e o λi t e=>xA (cX e) λu p=>a5 (gZ.mp p) λk q p=>a5 z λva j z=>a5 (z.get p) λv Y M=>?_;rw [z.size] at q u;exact j.bq λa f=>nq f.typeIs JG.lookup (Rg f q (ee u) ((xR ..).symm.trans Y) (OpR.dd M)) (v7 hs _ _)
 | t xs=>refine Bn e o λi t e=>xA (cX e) λu p=>a5 (gZ.mp p) λk q p=>a5 z λva j z=>a5 (z.get p) λv Y M=>?_;rw [z.size] at q u;have I:=y3 q (ee u);exact j.bD λa f=>nq f.typeIs F.slot_tuple_getitem.lookup (PyProof.Rows.getItem_tuple f I.1 I.2 (CU q) ((xR ..).symm.trans Y) (OpR.dd M)) (v7 hs _ _)
 | str xs=>refine Bn e o λi t e=>xA (cX e) λu p=>a5 (gZ.mp p) λk q p=>a5 (iW.mp p) λch q5 g=>?_;clear e p;subst g;refine fx z λQ t' g=>?_;clear z;subst g;exact nq (uy _ _ _) F.slot_str_getitem.lookup (Vw Q q (ee u) q5) (v7 hs _ _)
 | dct ks vs=>
  refine eSp e o λy t U e=>a5 z λus j r=>jN j.of λa g U G H=>?_;clear z j;subst g;refine nq G.typeIs F.slot_dict_getitem.lookup ?_ (v7 hs _ _);rcases ye r (H.trans r.len.symm) y with ⟨N,n⟩ | ⟨d,w,N,n,B⟩
  .exact absurd (n.symm.trans e) (λw=>by injection w)
  obtain rfl:=bv (n.symm.trans e);exact wpAny_getItem_of (lL _ _ _ _) G.mapOf N (.dt B)
 | _=>injection e
def DRo(c:Cfg)(O:Ow)(h:bP)(d:Option D)(v:a4):Prop:=match d with | some d=>DR c O h d v | none=>v= .none
theorem Dq{i:Option Int}(r:DRo c O h d v)(e:AX d=some i):IsPart v i:=by
 induction d with
 | none=>cases e;obtain rfl:=show v= .none from r;exact .none
 | some d=>exact eI e r λi t U ev e=>by clear r;subst ev;obtain rfl:=bv e;exact .int _ _
theorem M4{xs:List D}{u:Int}(i:SqA O s.heap .z "list" a k)(j:DRs c O s.heap xs k.toList)(pl:IsPart f none)(Q:IsPart g (some u))(d:0<=u)(e:xs.length<=1048576) : b8 (b9 pw c.w) A (xS t (.Slice v r none p) a (.ref s.heap.objs.size)) (OpR c O s (.ol (xs.take u.toNat))) E {s with heap:=s.heap.push {cls:=.type "slice",data:=.fields #[f,g,.none]}}:=by
 have y:Kp s.heap (s.heap.push {cls:=.type "slice",data:=.fields #[f,g,.none]}):=gm _ _;refine c0 i.is λa n Y U l=>?_;clear i;subst Y;have hsz:xs.length=k.size:=by simpa using j.len
 refine nq (a7 _ (y _ _ l) rfl) JG.lookup (wpAny_getItem_list_slice (nK _ (y _ _ l) rfl _ rfl) (cF _ (dY _ rfl) rfl rfl) pl Q .none (by simp) ?_ (by rw [fH];exact Zf e hsz)) rfl;obtain ⟨m,rfl⟩:∃m:Nat,u=(m:Int):=⟨u.toNat,(Zm d)⟩;rw [slicePick_upto'];simp only [kW];have hn:∀{o:cn},((s.heap.push o).push {cls:=Value.type "list",data:=Data.seq (k.toList.take m).toArray}).get? (s.heap.push o).objs.size=some {cls:=Value.type "list",data:=Data.seq (k.toList.take m).toArray}:=dY _ rfl;refine .list ?_ (y.trans (gm _ _)) ⟨rfl,rfl⟩ hn ⟨rfl,rfl,rfl⟩ rfl (by simpa using j.take m);rw [pL];induction q:s.heap.get? (s.heap.objs.size+1) with
 | none=>rfl
 | some o=>have:=gX q;exact absurd this (nh.mpr (kT _))
theorem N4{l u:Option Int}(pl:IsPart Y l)(Q:IsPart M u)(y:x.length<=1048576)(e:pg (xV (SS x) l u)=some o) : b8 (b9 pw c.w) A (xS i (.Slice m j none p) (.str (SS x) t) (.ref s.heap.objs.size)) (OpR c O s o) E {s with heap:=s.heap.push {cls:=.type "slice",data:=.fields #[Y,M,.none]}}:=by
 obtain ⟨N,g,rfl⟩:=sR e;have q:∀(h':bP) (f k:Nat),Kp s.heap h'->OpR c O s (.d (.str (xV (SS x) l u).cps.toList)) (.str (xV (SS x) l u) f) {s with heap:=h',toks:=k}:=λh' f k n=>.hk n (DR.cps g);have r:KeptH (Kp s.heap):=λh I x=>x.trans (gm _ _);have hsz:(SS x).length<=o7:=by rw [f6,fH];exact dh y rfl
 cases pl<;>cases Q
 .obtain ⟨T,id,y,z,v⟩:=SBH.sliceItem_nn r (rW s.heap) q hsz;exact nq z y v rfl
 .obtain ⟨T,id,y,z,v⟩:=SBH.sliceItem_ns r (rW s.heap) q hsz;exact nq z y v rfl
 .obtain ⟨T,id,y,z,v⟩:=SBH.sliceItem_sn r (rW s.heap) q hsz;exact nq z y v rfl
 obtain ⟨T,id,y,z,v⟩:=SBH.sliceItem_ss r (rW s.heap) q hsz;exact nq z y v rfl
theorem P2{dl f:Option D}(v:DR c O s.heap d a)(n:DRo c O s.heap dl M)(Q:DRo c O s.heap f N)(e:zC d dl f=some x) : b8 (b9 pw c.w) A (xS j (.Slice z m none p) a (.ref s.heap.objs.size)) (OpR c O s x) E {s with heap:=s.heap.push {cls:=.type "slice",data:=.fields #[M,N,.none]}}:=by
 refine a5 (gZ.mp e) λl q1 e=>a5 (gZ.mp e) λu o e=>?_;have pl:=Dq n q1;have g:=Dq Q o;induction d using c7 with
 | l xs=>
  refine a5 v λvs Y r=>?_;clear q1;induction l with
  | some=>injection e
  | none=>refine a5 (gZ.mp e) λu i e=>?_;clear o;subst i;refine xA (cX (show cG (decide (0<=u)&&cL xs.length) (some (k9 (xs.take u.toNat)))=some x from e)) λk q=>?_;clear e;obtain rfl:=bv q;rw [dF,decide_eq_true_eq] at k;exact M4 Y r pl g k.1 (ee k.2)
 | str y=>refine fx v λU t i=>?_;clear v;subst i;exact xA (cX e) λk q=>N4 pl g (ee k) q
 | _=>injection e
end
theorem W9(k:a< 10)(p:b< 10):(an a==an b)=(a==b):=by
 have:∀a< 10,∀b< 10,(an a==an b)=(a==b):=by decide +kernel
 exact this a k b p
theorem qt(p:a< 10):(SS (gO b)==an a)=(b==a):=by
 by_cases k:b< 10
 .rw [wb b k,W9 k p]
 have q:gO b=[]:=by unfold gO;rw [fC,i6 (i7 k)];rfl
 have z:(b==a)=false:=beq_false_of_ne λe=>k (e▸p);rw [q,z];have:∀a< 10,(SS []==an a)=false:=by decide +kernel
 exact this a p
def gu{N:Type}:List Nat->List N->Nat->Option N
 | a::as,v::vs,b=>if a==b then some v else gu as vs b
 | _,_,_=>none
def jP{N:Type}:List Nat->List N->Nat->N->List N
 | a::as,v::vs,b,x=>if a==b then x::vs else v::jP as vs b x
 | _,_,b,x=>[x]
def fU:List Nat->Nat->Nat
 | [],_=>0
 | a::as,b=>if a==b then 0 else fU as b+1
theorem rf{N:Type}{b:Bool}{x y:N}(h:b=false):(if b then x else y)=y:=if_neg (by rw [h];exact gG)
theorem sZ{N:Type}{b:Bool}{x y:N}{r:Option N}(e:(if b then some x else r)=some y):(b=true/\x=y)\/r=some y:=by
 induction b with
 | true=>exact .inl ⟨rfl,bv e⟩
 | false=>exact .inr e
section
variable {N:Type}{as:List Nat}{ws:List N}{vs:List V}{a b:Nat}{v x:N}{w y:V}
theorem vi(h:(a==b)=true):gu (a::as) (v::ws) b=some v:=if_pos h
theorem vh(h:(a==b)=false):gu (a::as) (v::ws) b=gu as ws b:=rf h
theorem zx(h:(a==b)=true):jP (a::as) (v::ws) b x=x::ws:=if_pos h
theorem zw(h:(a==b)=false):jP (a::as) (v::ws) b x=v::jP as ws b x:=rf h
theorem FD(h:(a==b)=true):fU (a::as) b=0:=if_pos h
theorem FC(k:Nat)(h:(a==b)=false):k+fU (a::as) b=k+1+fU as b:=(congrArg (k+ ·) (rf h)).trans (f4 k (fU as b) 1)
theorem D4(h:(a==b)=true):dG (a::as) (w::vs) b y=(a::as,y::vs):=if_pos h
theorem D3(h:(a==b)=false):dG (a::as) (w::vs) b y=(a::(dG as vs b y).1,w::(dG as vs b y).2):=rf h
theorem fieldAt_G:fk as vs a=gu as vs a:=by
 induction as generalizing vs with
 | nil=>induction vs using bO<;>rfl
 | cons b as k=>induction vs using bO with
  | nil=>rfl
  | cons v vs=>show (if b==a then some v else fk as vs a)=if b==a then some v else gu as vs a;rw [k]
end
section
variable {c:Cfg}{O O':Ow}{s:bM}{h h':bP}{A:cy}{E:bZ}
theorem GI.kin(H:Gd c)(g:GI c O h):c.K.In h:=by
 refine λa o e=>a5 (g.base a o (H.kin a o e)) λt r l=>?_;obtain ⟨p,q,u,k⟩:=l;have z:=u (λh=>by injection h) (λh=>by injection h);clear u;rcases k with k | ⟨k,U⟩ | ⟨U,k,U⟩
 .obtain ⟨c1,m,j,i⟩:=o;obtain ⟨f,d,n,Q⟩:=t;dsimp only at p q z k;subst p q z k;exact r
 .rcases k with k | k<;>injection k
 rw [H.ktab a k] at e;injection e
theorem DO:(Value.str k t).isStr n=(k==n):=rfl
theorem FI{i:Int}(h:(k==n)=true):jG n (⟨i,.str k t,w⟩::es)=some (some w):=by unfold jG;rw [List.find?_cons_of_pos (p:=λx:fy=>x.key.isStr n) (a:=⟨i,.str k t,w⟩) h]
theorem FH{i:Int}(h:(k==n)=false):jG n (⟨i,.str k t,w⟩::es)=jG n es:=by unfold jG;rw [List.find?_cons_of_neg (p:=λx:fy=>x.key.isStr n) (a:=⟨i,.str k t,w⟩) (show ¬(k==n)=true by rw [h];exact gG)];rfl
theorem Ve{i p:Int}(h:(k==n)=true):putL n p q v (⟨i,.str k t,w⟩::es)=⟨i,.str k t,v⟩::es:=if_pos h
theorem Vd{i p:Int}(h:(k==n)=false):putL n p q v (⟨i,.str k t,w⟩::es)=⟨i,.str k t,w⟩::putL n p q v es:=rf h
theorem Oh(p:Nat->Bool)(u:∀b,(SS (gO b)==nm)=p b){as:List Nat}{es:List fy}(e:KRs c (as.map gO) es):∃r,jG nm es=some r/\((∀b,p b=false)->r=none):=by
 induction as generalizing es with
 | nil=>obtain rfl:=show es=[] from e;exact (a7 none rfl (λU=>rfl))
 | cons b as z=>
  refine d8 e λt w r m x=>?_;clear e;subst m;refine a5 (z x) λq z l=>?_;induction k:p b with
  | true=>exact (a7 (some w) (FI ((u b).trans k)) (λh=>by rw [h b] at k;injection k))
  | false=>exact (a7 q ((FH ((u b).trans k)).trans z) l)
theorem sK(p:a< 10){es:List fy}(e:KRs c (as.map gO) es):jG (an a) es=some (gu as (es.map (·.val)) a):=by
 induction as generalizing es with
 | nil=>obtain rfl:=show es=[] from e;rfl
 | cons b as q=>
  refine d8 e λt w r z x=>?_;clear e;subst z;rw [eZ];induction k:b==a with
  | true=>exact (FI ((qt p).trans k)).trans (congrArg some (vi k).symm)
  | false=>exact ((FH ((qt p).trans k)).trans (q x)).trans (congrArg some (vh k).symm)
theorem S5(p:a< 10){es:List fy}(e:KRs c (as.map gO) es)(q:as.length=vs.length) : KRs c ((dG as vs a v).1.map gO) (putL (an a) (ib c.w.params (an a)) (.str (an a) t) r es)/\(putL (an a) (ib c.w.params (an a)) (.str (an a) t) r es).map (·.val)=jP as (es.map (·.val)) a r:=by
 induction as generalizing es vs with
 | nil=>
  obtain rfl:=show es=[] from e;refine ⟨?_,rfl⟩;have:(dG [] vs a v).1=[a]:=by clear q;induction vs using bO<;>rfl
  rw [this];refine (eM t r [] ?_ rfl);rw [wb a p];rfl
 | cons b as m=>induction vs using bO with
  | nil=>injection q
  | cons i vs=>
   refine d8 e λz w es j x=>?_;clear e;subst j;rw [eZ];induction k:b==a with
   | true=>rw [D4 k,zx k,Ve ((qt p).trans k)];exact ⟨(eM z r es rfl x),rfl⟩
   | false=>refine xA (m x (iX q)) λu l=>?_;rw [D3 k,zw k,Vd ((qt p).trans k)];exact ⟨(eM z w _ rfl u),congrArg (w:: ·) l⟩
theorem RF.len{t k:Nat}{us:List a4}(r:RF c O h t k vs us):vs.length=us.length:=by
 induction vs generalizing k us with
 | nil=>obtain rfl:=show us=[] from r;rfl
 | cons v vs p=>refine c0 r λu r q U s=>?_;subst q;exact congrArg pK (p s)
theorem RF.get{t a:Nat}{k:Nat}{as:List Nat}{us:List a4}(q:RF c O h t k vs us)(e:gu as vs a=some v):∃r,gu as us a=some r/\R1 c O h t (k+fU as a) v r:=by
 induction as generalizing k vs us with
 | nil=>clear q;induction vs using bO<;>exact eH e
 | cons b as l=>induction vs using bO with
  | nil=>exact eH e
  | cons f vs=>
   refine c0 q λu r i x s=>?_;subst i;induction p:b==a with
   | true=>clear q;obtain rfl:=bv ((vi p).symm.trans e).symm;exact (a7 u (vi p) (by rw [FD p];exact x))
   | false=>exact a5 (l s ((vh p).symm.trans e)) λm z j=>(a7 m ((vh p).trans z) (by rw [FC k p];exact j))
theorem RF.map{t k:Nat}{us:List a4}(p:∀i v u,k<=i->R1 c O h t i v u->R1 c O' h' t i v u)(e:RF c O h t k vs us):RF c O' h' t k vs us:=by
 induction vs generalizing k us with
 | nil=>exact e
 | cons v vs z=>refine c0 e λu r l x s=>?_;clear e;subst l;exact (d6 u r rfl (p _ _ _ (fj _) x) (z (λi v u q=>p i v u (Cc q)) s))
theorem RF.put{t a:Nat}{x:V}{r:a4}{k:Nat}{as:List Nat}{us:List a4}(q:RF c O h t k vs us)(j:as.length=vs.length)(l:∀i v u,k<=i->i≠k+fU as a->R1 c O h t i v u->R1 c O' h' t i v u)(z:R1 c O' h' t (k+fU as a) x r):RF c O' h' t k (dG as vs a x).2 (jP as us a r):=by
 induction as generalizing k vs us with
 | nil=>induction vs using bO with
  | nil=>obtain rfl:=show us=[] from q;exact (d6 r [] rfl z rfl)
  | cons=>injection j
 | cons b as f=>induction vs using bO with
  | nil=>injection j
  | cons o vs=>
   refine c0 q λu us g y s=>?_;clear q;subst g;induction p:b==a with
   | true=>rw [D4 p,zx p];rw [FD p] at l z;exact (d6 r us rfl z (s.map λi v u m=>l i v u (Cc m) (xF m)))
   | false=>rw [D3 p,zw p];rw [FC k p] at l z;exact (d6 u _ rfl (l _ _ _ (fj k) (jl (kS (k+1) _)) y) (f s (iX j) (λi v u m=>l i v u (Cc m)) z))
theorem ny{ex:Bool}{Q:bZ}(H:Gd c)(X:c.K.In s.heap)(p:a< 10)(I:InA c O s.heap t C z as v vs)(g:gu as vs a=some r)(e:handedIn r=true) (q:Q r {s with toks:=s.toks+1}):b8 (b9 pw c.w) A (uD v (an a) ex) Q E s:=by obtain ⟨x,d,o,G,es,n,rfl,U,U,u,l,m,j,i,M,f,k,rfl⟩:=I;have Y:=H.cls z;refine get_value X ⟨u,l,by unfold pP;rw [j],by rw [m];exact i⟩ (plainGet_of Y.get).1 (findObj_own Y.dict (Y.own a p) rfl ?_) e q;unfold lookIn;rw [f];exact (sK p k).trans (by rw [g])
theorem F0{a:Nat}{ex:Bool}(H:Gd c)(X:c.K.In s.heap)(r:DR c O s.heap d v)(e:mj d a=some x):b8 (b9 pw c.w) A (uD v (an a) ex) (OpR c O s (.d x)) E s:=by
 induction d using c7 with
 | y k i y=>
  refine gv r λt j u b l=>jN l λm I p z q=>?_;rcases sZ e with ⟨h,rfl⟩ | e
  .clear e;obtain rfl:=eq_of_beq h;exact ny H X ∅ I rfl p.kd.handed (.dt p)
  rcases sZ e with ⟨h,rfl⟩ | e
  .clear e;obtain rfl:=eq_of_beq h;exact ny H X ∅ I rfl z.kd.handed (.dt z)
  rcases sZ e with ⟨h,rfl⟩ | e
  .clear e;obtain rfl:=eq_of_beq h;exact ny H X ∅ I rfl q.kd.handed (.dt q)
  exact eH e
 | nul k y=>
  refine c0 r λt u I p q=>?_;rcases sZ e with ⟨h,rfl⟩ | e
  .clear e;obtain rfl:=eq_of_beq h;exact ny H X ∅ I rfl p.kd.handed (.dt p)
  rcases sZ e with ⟨h,rfl⟩ | e
  .clear e;obtain rfl:=eq_of_beq h;exact ny H X ∅ I rfl q.kd.handed (.dt q)
  exact eH e
 | _=>exact eH e
theorem S4(n:a6)(p:Int)(k v:a4)(es:List fy):(putL n p k v es).length<=es.length+1:=by
 induction es with
 | nil=>exact fj _
 | cons e r q=>
  by_cases h:e.key.isStr n=true
  .exact (congrArg List.length (if_pos h)).symm▸kT (r.length+1)
  exact (congrArg List.length (if_neg h)).symm▸k7 q
theorem Og(k:jG nm es=some r):(!es.any (·.key.isStr nm)&&es.any (·.refKey))=false:=by
 induction h:es.any (·.key.isStr nm) with
 | true=>rfl
 | false=>
  induction p:es.any (·.refKey) with
  | false=>rfl
  | true=>have z:=List.find?_eq_none.mpr λe he q=>gG (h.symm.trans (jY.mpr (a7 e he q)));unfold jG at k;rw [z] at k;exact eH ((if_pos p).symm.trans k)
set_option tactic.hygienic true in
theorem Ii{es:List fy}{Q:Fin->bM->Prop}(k:s.heap.get? l=some j)(m:j.data= .dict es.toArray n)(o:∃r,jG nm es=some r)(e:es.length< 1000) (h:∀h' Y,h'.get? l=some {j with data:=.dict (putL nm (ib c.w.params nm) (.str nm s.toks) v es).toArray Y}->jm l s.heap h'->Q (.done (.ret .none)) {s with heap:=h',toks:=s.toks+1}) : b8 (b9 pw c.w) A (JV l (.str nm tk) nm v) Q E s:=by
 unfold JV;refine a9 (bX (a9 ?_));unfold nsSet;refine a9 (a9 (wpAny_askSetting (bX (a9 (wpAny_mkText (a9 (BV k ?_)))))));rw [m];dsimp only;have f:(!es.toArray.any (·.key.isStr nm)&&es.toArray.any (·.refKey))=false:=by rw [J4,J4];exact xE o λr d=>Og d
 rw [aRefKeyMayBeTheName_at,f];refine wpAny_updatePart k ?_;obtain ⟨dc,p,g,z⟩:=j;dsimp only at m;subst m;have i:Obj.putName nm (ib c.w.params nm) (.str nm s.toks) v ⟨dc,p,.dict es.toArray n,z⟩=⟨dc,p,.dict (putL nm (ib c.w.params nm) (.str nm s.toks) v es).toArray (putN nm es n),z⟩:=by have:=putName_dict nm (ib c.w.params nm) (.str nm s.toks) v es n;unfold dictOf at this;rw [Obj.putName_eq] at this ⊢;unfold Obj.putNameByArray at this ⊢;dsimp only at this ⊢;split<;>(rename_i q;rw [q] at this;injection this with _ _ M _;rw [M])
 have t:=kU (Obj.putName nm (ib c.w.params nm) (.str nm s.toks) v) k (by rw [i];rfl);rw [i] at t;have u:(putL nm (ib c.w.params nm) (.str nm s.toks) v es).length<=es.length+1:=S4 _ _ _ _ es;exact a9 (wpAny_lookBehind t (pastItsLine_dict (by rw [xq,sizeLine_eq];exact cW u (cW (k7 (xH e)) (show 1001<=16777217 by decide)))) (bX (h _ _ t (lW ..))))
theorem P4{R:rJ->bM->Prop}(X:c.K.In s.heap)(Y:Cls c C)(I:InstAt s.heap x l C (some t))(u:l.dict=some z)(j:a< 10) (m:t.data= .dict es.toArray n) (f:∃r,jG (an a) es=some r) (d:es.length< 1000) (h:∀h' e,h'.get? z=some {t with data:=.dict (putL (an a) (ib c.w.params (an a)) (.str (an a) s.toks) v es).toArray e}->jm z s.heap h'->R (.ok (.ret .none)) {s with heap:=h',toks:=s.toks+1}) : mU (b9 pw c.w) A (.call (.builtin "object.__setattr__") ⟨[.ref x,.str (an a) tk,v],[]⟩) R s:=by
 have g:takerIn c.K C (an a)=some none:=by unfold takerIn;rw [Y.own a j];rfl
 refine osa_open X I Y.over g λb=>a5 (any_some Y.dict) λB i q=>?_;obtain ⟨o,p,hn,k⟩:=I;obtain ⟨H,M,Q,G⟩:=l;dsimp only at p u k;subst p u;dsimp only at k;refine a9 (bX (a9 (a9 (BV o (a9 ((Cs X i).here ?_))))));rw [q];exact bX (Ii k m f d h)
theorem Ec{es:List fy}{Q:Unit->bM->Prop}(X:c.K.In s.heap)(Y:Cls c C)(I:InstAt s.heap x f C (some q))(m:f.dict=some p)(l:a< 10) (z:q.data= .dict es.toArray n) (j:∃r,jG (an a) es=some r) (i:es.length< 1000) (h:∀h' k,h'.get? p=some {q with data:=.dict (putL (an a) (ib c.w.params (an a)) (.str (an a) (s.toks+1)) v es).toArray k}->jm p s.heap h'->Q () {s with heap:=h',toks:=s.toks+2}) : b8 (b9 pw c.w) A (setAttr (.ref x) (an a) v) Q E s:=set_plain X I Y.set (P4 X Y I m l z j i λh' k u t=>h h' k u t)
end
theorem GI.ns{c:Cfg}(g:GI c O h){a:b7}{m:a6->Option a4}(n:c.B.Ns a m):h.Ns a m:=by exact kA n λo es p e d r=>a5 (g.base a o e) λy k l=>(vP y es p k ((l.same (.inl ⟨(λh=>by injection h),(λh=>by injection h)⟩) (.inr λvs q=>by rw [d] at q;injection q)).trans d) r)
def Res(Y:cz)(nm:a6):Place->Prop
 | .off=>False
 | .loc L n=>n=nm/\Y.locals=L/\Y.kindOf nm=some .local
 | .cel a=>(Y.kindOf nm=some .cell\/Y.kindOf nm=some .free)/\Y.cells.lookup nm=some a
structure EO(c:Cfg)(X:Cx)(Y:cz)(sc:cD)(N:List (Nat×a6)):Prop where
 kind:Y.scope.kind= .function
 scope:Y.scope=sc
 glob:Y.globals=gR
 blt:Y.builtins=iB
 res:∀p∈N,∃q,X.pl[p.1]? =some q/\Res Y p.2 q
structure CA(A:cy)(X:Cx):Prop where
 hh:A.handled=none
 un:A.units+100< mX
 fr:A.frames=some X.fs
def eE(nm:a6):Bool:=!(nm==("__debug__" :a6))&&!(nm==("__classdict__" :a6))
section
variable {c:Cfg}{G:cB}{A:cy}{X:Cx}{Y:cz}{sc:cD}{N:List (Nat×a6)}{g:Gh}{h:bP}{s:bM}{M:fg}{x:Nat}{nm:a6}{pos:c8}
theorem Dj{Q:bZ}{E:bZ}(y:EO c X Y sc N)(l:(x,nm)∈N)(hn:eE nm=true)(w:X.pl[x]? =some p)(u:Has s.heap p (some r))(h:Q r s):b8 M A (loadName Y nm) Q E s:=by
 unfold eE at hn;rw [dF,jF,jF] at hn;refine a5 (y.res _ l) λq t z=>?_;obtain rfl:=bv (w.symm.trans t);induction p with
 | off=>exact z.elim
 | loc L n=>refine dm z λi f k=>?_;clear l hn;subst i;clear w t z;subst f;exact a5 u λm j e=>wpAny_loadName_local y.kind k j e h
 | cel a=>
  obtain ⟨k | k,v⟩:=z
  .exact wpAny_loadName_cell y.kind k v u h
  exact wpAny_loadName_free y.kind k v u h hn.2
theorem h9{Q:bZ}{E:bZ}(k:EO c X Y sc N)(z:(x,nm)∈N)(hn:eE nm=true)(y:X.pl[x]? =some p)(q:Has s.heap p (some r))(h:Q r s):b8 M A (eu (.Name nm pos) Y) Q E s:=by refine wpAny_Name (Dj k z hn y q h) ?_;unfold eE at hn;rw [dF,jF] at hn;exact hn.1
inductive Sv(c:Cfg)(X:Cx)(g:Gh)(h:bP)(x:Nat):Prop
 | mk (p:Place) (r:a4) (hp:X.pl[x]? =some p) (hh:Has h p (some r)) (vr:VR c g.O h (x+1) (rd g.f x) r) (hx:x< g.f.length)
theorem J.val(j:J c X g h)(k:rd g.f x≠ .u):Sv c X g h x:=by
 have y:x< g.f.length:=by
  rcases Nat.lt_or_ge x g.f.length with q | q
  .exact q
  exact absurd (G0 _ _ q) k
 obtain ⟨p,z⟩:∃p,X.pl[x]? =some p:=⟨_,fD (by rw [<-j.lf];exact y)⟩;have s:=j.slot x p z;refine a5 (s.val λe=>k (s.off e)) λm v w=>a5 (w.resolve_left k) λr l t=>?_;clear w;subst l;exact ⟨p,r,z,v,t,y⟩
theorem J.aH(H:Gd c)(j:J c X g h){v:V}{O':Ow}(Q:x< g.f.length)(l:∀b,mG x (g.O b)=false->O' b=g.O b)(hn:∀b,O' b≠ .no->g.O b≠ .no)(m:dI v=dI (rd g.f x))(k:v= .u\/rd g.f x≠ .u/\∀r,VR c g.O h (x+1) (rd g.f x) r->VR c O' h (x+1) v r):J c X ⟨g.f.set x v,O'⟩ h:=by
 refine j.at H x (by simp) (λy I=>oW v I) (λb o e i=>⟨e,l b i⟩) (λb q=>j.lv b (hn b q)) λp z=>?_;have s:=j.slot x p z;have q:∀b,p.at b->O' b=g.O b:=λb q=>l b (by rcases s.place q with t | t | t<;>rw [t]<;>rfl);show SlotR c O' h x p (rd (g.f.set x v) x);rw [sQ v Q];refine ⟨λe=>?_,λL nm e=>?_,λa e=>?_,λe=>?_⟩
 .rcases k with k | ⟨k,U⟩
  .exact k
  exact absurd (s.off e) k
 .clear z;subst e;rw [q L rfl,m];exact s.loc L nm rfl
 .clear z;subst e;rw [q a rfl,m];exact s.cel a rfl
 refine a5 (s.val e) λC d w=>(a7 C d ?_);rcases k with k | ⟨n,k⟩
 .exact .inl k
 exact a5 (w.resolve_left n) λr e B=>.inr (a7 r e (k r B))
def i4(t p:Nat)(O:Ow):Ow:=λb=>match O b with
 | .own x k=>if x=t then .own p k else if x=p then .no else .own x k
 | u=>u
theorem EV(z:O b= .own t k):i4 t p O b= .own p k:=by unfold i4;rw [z];exact if_pos rfl
set_option tactic.hygienic true in
theorem yr(z:∀k,O b≠ .own t k)(y:∀k,O b≠ .own p k):i4 t p O b=O b:=by
 unfold i4;split
 .rename_i x k e;rw [if_neg (λq=>z k (by rw [e,q])),if_neg (λq=>y k (by rw [e,q])),e]
 rfl
theorem FQ(z:i4 t k O b≠ .no):O b≠ .no:=λq=>z (by unfold i4;rw [q])
theorem OJ(t p:Nat):Step c q O h (i4 t p O) h:=.tag λb=>by
 induction e:O b with
 | own x k=>exact .inl rfl
 | _=>right;unfold i4;rw [e]
theorem Ux(x:VR c O h t v r):VR c (i4 t p O) h p v r:=x.ext (.tag λb z=>by rw [yr (by rw [z];exact λk h=>by injection h) (by rw [z];exact λk h=>by injection h)];exact z) λb k o z e=>⟨e,EV z⟩
theorem GK(h:own v=true):dI v=false:=by induction v using bS<;>first | rfl | injection h
theorem sW(h:frz v=some d):v≠ .u:=λe=>by rw [e] at h;injection h
theorem VR.ak{t:Nat}{v:V}(x:VR c O h t v r)(q:own v=false)(p:frz v=some d):DR c O h d r:=by
 induction v using bS with
 | d=>cases p;exact x
 | k=>cases p;exact x
 | u=>injection p
 | w=>injection p
 | _=>injection q
theorem J.bF(H:Gd c)(j:J c X g h){d:D}(z:x< g.f.length)(y:own (rd g.f x)=true)(p:frz (rd g.f x)=some d):J c X ⟨g.f.set x (.d d),ji (x+1) g.O⟩ h:=j.aH H z (λb q=>DP (ja q).2.1) (λb=>FE) (by rw [GK y];rfl) (.inr ⟨sW p,λr u=>u.ai (λb=>zV) (λb k=>yH) p⟩)
theorem Fa(H:Gd c)(j:J c X g s.heap){d:D}{r:a4}{p:Out (V×Fr)}(u:x< g.f.length)(z:VR c g.O s.heap (x+1) (rd g.f x) r)(y:frz (rd g.f x)=some d)(e:p= .ok (.d d,if own (rd g.f x) then g.f.set x (.d d) else g.f)):Pv c X g s p r s:=by
 by_cases q:own (rd g.f x)=true
 .rw [if_pos q] at e;exact ⟨.d d,⟨g.f.set x (.d d),ji (x+1) g.O⟩,e,j.bF H u q y,.of (z.ai (λb=>zV) (λb k=>yH) y),⟨DQ _,.refl _⟩⟩
 rw [if_neg q] at e;exact ⟨.d d,g,e,j,.of (z.ak (by simpa using q) y),.refl ..⟩
theorem qn{d:D->Out (V×Fr)}{k:Out (V×Fr)}(e:k=match frz v with | some x=>d x | none=>.x)(ns:k≠ .x):∃x,frz v=some x/\k=d x:=by
 induction h:frz v with
 | none=>rw [h] at e;exact absurd e ns
 | some x=>rw [h] at e;exact (a7 x rfl e)
theorem W7(H:Gd c)(q:EO c X Y sc N)(u:(x,nm)∈N)(hn:eE nm=true):T c G A X Y (.v x) (.Name nm pos):=by refine λg s j ns=>a5 (qn rfl ns) λd k e=>?_;obtain ⟨p,r,z,y,t,w⟩:=j.val (sW k);exact h9 q u hn z y (Fa H j w t k e)
theorem W0(H:Gd c)(t:EO c X Y sc N)(o:(x+1,nm)∈N)(hn:eE nm=true):T c G A X Y (.mov (x+1)) (.Name nm pos):=by
 intro g s j ns;have k:ev G (.mov (x+1)) g.f=match own (rd g.f (x+1)),frz (rd g.f (x+1)) with
  | true,_=>.ok (rd g.f (x+1),g.f.set (x+1) .u)
  | false,some d=>.ok (.d d,g.f)
  | false,none=>.x:=rfl
 have i:rd g.f (x+1)≠ .u:=λq=>by rw [k,q] at ns;exact ns rfl
 obtain ⟨p,r,m,l,w,e⟩:=j.val i;refine h9 t o hn m l ?_;induction y:own (rd g.f (x+1)) with
 | true=>have jn:=j.aH H e (λb v=>yr (ja v).2.1 (ja v).1) (λb=>FQ) (by rw [GK y];rfl) (.inl rfl);exact ⟨_,_,by rw [k,y],jn,.of (Ux w),⟨OJ _ _,.refl _⟩⟩
 | false=>
  rw [y] at k;induction z:frz (rd g.f (x+1)) with
  | none=>rw [z] at k;exact absurd k ns
  | some d=>rw [z] at k;exact ⟨.d d,g,k,j,.of (w.ak y z),.refl ..⟩
theorem VR.view{t:Nat}(p:VR c O h t v r)(k:frz v=some d):DR c Oz h d r:=p.ai (λU U=>rfl) (λU U U=>rfl) k
theorem VT(H:Gd c)(y:EO c X Y sc N)(v:(x,nm)∈N)(hn:eE nm=true):∀g s,J c X g s.heap->ev G (.bor x) g.f≠ .x -> b8 (b9 pw c.w) A (eu (.Name nm pos) Y) (λr s'=>s'=s/\Pv c X g s (ev G (.bor x) g.f) r s') (λx s'=>False) s:=by refine λg s j ns=>a5 (qn rfl ns) λd k e=>?_;obtain ⟨p,r,u,z,q,t⟩:=j.val (sW k);exact h9 y v hn u z ⟨rfl,.w d,g,e,j,⟨q.view k,j.bB H q⟩,.refl ..⟩
theorem VS(H:Gd c){q:Op}(m:T c G A X Y a l)(tb:T c G A X Y b r):T c G A X Y (.b q a b) (.BinOp l (qU q) r pos):=λg s j ns=>wpAny_BinOp (m.d H j (.refl ..) rfl ns λn I C s1 w i k U y=>tb.d H w k y ns λQ O B s2 t f p sx z=>UZ H ns z λv u=>c6 (UX (sx.dr i) f u) (λU U o e=>o.pv H t p e) λU U h=>h)
theorem W1(H:Gd c)(u:T c G A X Y a e):T c G A X Y (.neg a) (.UnaryOp .USub e pos):=λg s j ns=>UnaryOp_ (u.d H j (.refl ..) rfl ns λw r t l z v k U p=>by exact a5 (fF ns p) λd y q=>c6 (V2 v y) (λU U o=>o.pv H z k q) λU U h=>h)
inductive TL(c:Cfg)(G:cB)(A:cy)(X:Cx)(Y:cz):List E->List a8->Prop
 | nil:TL c G A X Y [] []
 | cons {ce e ces es}:(∀a p,e≠ .Starred a p)->T c G A X Y ce e->TL c G A X Y ces es->TL c G A X Y (ce::ces) (e::es)
theorem iK(h:∀a p,e≠ .Starred a p)(pos:c8):mW pos (mS (e::es) Y)=(false,eu e Y)::mW pos (mS es Y):=by induction e using lX<;>first | rfl | exact absurd rfl (h _ _)
theorem pW(H:Gd c){q:Bool}{o:Type}{u:Out o}{y:Gh}{z:bM}{K:List a4->bM->Prop}{v:List E}{es:List a8}(t:TL c G A X Y v es):∀{g s} {k:List D×Fr->Out o},J c X g s.heap->St c q y z g s->u=(evs G v g.f).bind k->u≠ .x -> (∀ds r vs s',J c X r s'.heap->DRs c r.O s'.heap ds vs->ds.length=es.length->St c q y z r s'->St c false g s r s'->u=k (ds,r.f)->K vs s')->b8 (b9 pw c.w) A (spliced (mW pos (mS es Y))) K (Pe c X q y z u) s:=by
 induction t generalizing K with
 | nil=>exact λj st l ns h=>pS (h [] _ [] _ j rfl rfl st (.refl ..) l)
 | cons hs ta U b=>intro g s k j st l ns h;rw [iK hs];refine oq (ta.d H (k:=λp=>(evs G _ p.2).bind λq=>k (p.1::q.1,q.2)) j st (l.trans ?_) ns λe g1 r1 s1 a v1 m sy Q=>b a m Q ns λds C vs s2 j2 n B i sx I=>h (e::ds) C (r1::vs) s2 j2 (.cons (sx.dr v1) n) (by simp [B]) i (sy.trans sx) I);show bt (bt _ _) _=_;simp only [dZ];rfl
theorem W6(H:Gd c){p:List E}{es:List a8}{k:Nat}(w:es.length<=1000)(t:TL c G A X Y p es):T c G A X Y (.t p) (.Tuple es k pos):=λg s j ns=>wpAny_Tuple_spliced (pW H t j (.refl ..) rfl ns λds i vs u r y z q U v=>⟨by rw [<-y.len,z,fH];exact HE w z,(OpR.be (s':={u with heap:=u.heap.push {cls:=.type "tuple",data:=.seq vs.toArray}}) (x:=.t ds) (ig _) (gm _ _) ⟨rfl,rfl⟩ (dY _ rfl) ⟨rfl,rfl,rfl⟩ rfl λO' m l=>(a7 _ l (by simpa using y.ext m))).pv H r q v⟩)
theorem Tz(H:Gd c){k:List E}{es:List a8}(u:es.length<=1000)(t:TL c G A X Y k es):T c G A X Y (.list k) (.List es pos):=λg s j ns=>wpAny_List_spliced (pW H t j (.refl ..) rfl ns λds w vs r v q y p U z=>⟨by rw [<-q.len,y,fH];exact HE u y,(OpR.aE (by simpa using q)).pv H v p z⟩)
def t9:a8->Bool
 | .Name .. =>true
 | .Attribute .. =>true
 | .Subscript .. =>true
 | .Constant .. =>true
 | .Call _ (_::_) _ _=>true
 | _=>false
theorem ve{w:Sem a4}(h:t9 o=true):attributeBase o a Y w=w:=by
 induction o using lX with
 | Name=>rfl
 | Attribute=>rfl
 | Subscript=>rfl
 | Constant=>rfl
 | Call f es ks p=>induction es using bO with
  | nil=>injection h
  | cons=>clear h;induction f using lX<;>rfl
 | _=>injection h
theorem Tr(H:Gd c)(v:t9 k=true)(t:T c G A X Y y k):T c G A X Y (.attr y a) (.Attribute k (an a) pos):=λg s j ns=>rS (he:=by rw [show eu (.Attribute k (an a) pos) Y=(do let o <-attributeBase k (an a) Y (eu k Y);standAt pos.atName;let r <-holding [o] (uD o (an a) true);letTemporaryGo k o r;pure r) from rfl,ve v]) (t.d H j (.refl ..) rfl ns λm i f e q l p U z=>by exact a5 (fF ns z) λd w u=>c6 (F0 H (q.gi.kin H) l w) (λU U o=>o.pv H q p u) λU U h=>h)
theorem TC(H:Gd c):T c G A X Y .none (.Constant .none k pos):=λg s j ns=>IH ((OpR.dd (x:=.none) rfl).pv H j (.refl ..) rfl)
theorem Ts(H:Gd c):T c G A X Y (.bool b) (.Constant (.bool b) k pos):=λg s j ns=>wpAny_Constant_bool ((OpR.dd (x:=.bool b) rfl).pv H j (.refl ..) rfl)
theorem VY(H:Gd c){i:Int}:T c G A X Y (.int i) (.Constant (.int i) k pos):=λg s j ns=>BP (OpR.i.pv H j (.refl ..) rfl)
theorem W4(H:Gd c){x:a6}(q:x=SS l)(p:cI l=true):T c G A X Y (.str l) (.Constant (.str x) k pos):=λg s j ns=>by subst q;exact xc ((OpR.tx p).pv H j (.refl ..) rfl)
end
theorem wm(h:eN B=false):vz B=fz:=by funext r;unfold vz;rw [h];rfl
theorem Out.ag{n:Type}(x:Out n):x.bind .ok=x:=by induction x using ou<;>rfl
section
variable {c:Cfg}{X:Cx}{g C M:Gh}{s s' I:bM}{q:Bool}
theorem St.kp(x:St c q M I g s)(k:Kp s.heap s'.heap)(p:SameRest s s'):St c q M I g s':=⟨x.st.trans (k.step c q _ _ λU U U=>rfl),x.sr.trans p⟩
theorem DR.bA(x:DR c O h d r):DR c Oz h d r:=x.ext (.tag λU U=>rfl)
inductive Pq(c:Cfg)(X:Cx)(g:Gh)(s:bM)(N:Out (D×Fr))(r:a4)(s':bM):Prop
 | mk (d:D) (C:Gh) (e:N= .ok (d,C.f)) (j:J c X C s'.heap) (dr:DR c Oz s'.heap d r) (nb:∀a,r= .ref a->(a==gB)=false) (st:St c false g s C s') (kp:Kp s.heap s'.heap)
end
def TQ(c:Cfg)(G:cB)(A:cy)(X:Cx)(Y:cz)(B:E)(e:a8):Prop:=∀g s,J c X g s.heap->(ev G B g.f).bind (vz B)≠ .x->b8 (b9 pw c.w) A (eu e Y) (Pq c X g s ((ev G B g.f).bind (vz B))) (λU U=>False) s
section
variable {c:Cfg}{G:cB}{A:cy}{X:Cx}{Y:cz}{sc:cD}{y:List (Nat×a6)}{g M:Gh}{h:bP}{s I:bM}{x:Nat}{nm:a6}{pos:c8}{q:Bool}{n:Type}{N:Out n}{K:bZ}{B:E}{e:a8}
theorem TQ.go(t:TQ c G A X Y B e){E:bZ}{k:D×Fr->Out n}(j:J c X g s.heap)(st:St c q M I g s)(l:N=(ev G B g.f).bind λr=>(vz B r).bind k)(ns:N≠ .x) (h:∀d C r s',J c X C s'.heap->DR c Oz s'.heap d r->(∀a,r= .ref a->(a==gB)=false)->St c q M I C s'->St c false g s C s'->Kp s.heap s'.heap->N=k (d,C.f)->K r s'):b8 (b9 pw c.w) A (eu e Y) K E s:=by have z:=l.trans (dZ _ (vz B) k).symm;refine c6 (t g s j (iZ ns z)) (λr s' p=>?_) λx s' p=>p.elim;obtain ⟨d,C,e,m,v,o,u,i⟩:=p;exact h d C r s' m v o (st.trans u.up) u i (by rw [z,e];rfl)
theorem T.dz(H:Gd c)(t:T c G A X Y B e)(z:eN B=false){k:D×Fr->Out n}(j:J c X g s.heap)(st:St c q M I g s)(p:N=(ev G B g.f).bind λr=>(vz B r).bind k)(ns:N≠ .x) (h:∀d C r s',J c X C s'.heap->DR c C.O s'.heap d r->St c q M I C s'->St c false g s C s'->N=k (d,C.f)->K r s'):b8 (b9 pw c.w) A (eu e Y) K (Pe c X q M I N) s:=t.d H j st (by rw [wm z] at p;exact p) ns h
theorem Tf(H:Gd c)(u:EO c X Y sc y)(w:(x,nm)∈y)(hn:eE nm=true):TQ c G A X Y (.bor x) (.Name nm pos):=by refine λg s j ns=>c6 (VT H u w hn g s j (oz ns)) (λr s' p=>xA p λl m=>?_) λU U h=>h.elim;clear j p;subst l;obtain ⟨v,C,e,t,vx,st⟩:=m;refine a5 (qn rfl (oz ns)) λd f k=>xA (pU (Out.bx (e.symm.trans k))) λz i=>?_;subst z;exact ⟨d,C,by rw [e];rfl,t,vx.1,vx.2,st,.refl _⟩
theorem wa(H:Gd c)(u:eN B=false)(he:∀f,ev G B f= .ok (.d d,f))(h:∀{s:bM} {Q:bZ} {E:bZ},(∀r k,(∀O h,DR c O h d r)->Q r {s with toks:=k})->b8 (b9 pw c.w) A (eu e Y) Q E s):TQ c G A X Y B e:=by
 intro g s j ns;have z:(ev G B g.f).bind (vz B)= .ok (d,g.f):=by rw [wm u,he];rfl
 exact h λr k p=>⟨d,g,z,j,p _ _,j.aC H (p _ _),⟨Step.refl c false g.O s.heap,rfl,rfl⟩,.refl _⟩
theorem PT(H:Gd c):TQ c G A X Y .none (.Constant .none k pos):=wa H rfl (λf=>rfl) λ{s Q E} h=>IH (h .none s.toks λU U=>rfl)
theorem Th(H:Gd c){i:Int}:TQ c G A X Y (.int i) (.Constant (.int i) k pos):=wa H rfl (λf=>rfl) λ{s Q E} h=>BP (h _ _ λU U=>⟨_,rfl⟩)
theorem Tj(H:Gd c){x:a6}(z:x=SS l)(p:cI l=true):TQ c G A X Y (.str l) (.Constant (.str x) k pos):=wa H rfl (λf=>rfl) λ{s Q E} h=>by subst z;exact xc (h _ _ λU U=>(iT p _ rfl))
theorem Ti(H:Gd c){i:Int}:TQ c G A X Y (.neg (.int i)) (.UnaryOp .USub (.Constant (.int i) k p) pos):=wa H rfl (λf=>rfl) λ{s Q E} h=>UnaryOp_ (BP (P.neg_int (h _ _ λU U=>⟨_,rfl⟩)))
theorem Pv.quiet(H:Gd c){N:Out (V×Fr)}{r:a4}(p:Pv c X g s N r s)(ns:N.bind fz≠ .x):Pq c X g s (N.bind fz) r s:=by obtain ⟨d,C,e,j,k,st⟩:=p.ai H ns;exact ⟨d,C,e,j,k.bA,j.aC H k,st,.refl _⟩
theorem Tk(H:Gd c)(z:EO c X Y sc y)(t:(x,nm)∈y)(hn:eE nm=true):TQ c G A X Y (.v x) (.Name nm pos):=by refine λg s j ns=>a5 (qn rfl (oz ns)) λd k e=>?_;obtain ⟨p,r,w,u,m,l⟩:=j.val (sW k);exact h9 z t hn w u ((Fa H j l m k e).quiet H ns)
theorem PR(H:Gd c):TQ c G A X Y (.list []) (.List [] pos):=by refine λg s j ns=>wpAny_List_spliced (pS ⟨dR _,?_⟩);have p:Pv c X g s (ev G (.list []) g.f) (.ref s.heap.objs.size) {s with heap:=s.heap.push {cls:=.type "list",data:=.seq #[]}}:=(OpR.aE (xs:=[]) rfl).pv H j (.refl ..) rfl;obtain ⟨d,C,e,j,k,st⟩:=p.ai H ns;exact ⟨d,C,e,j,k.bA,j.aC H k,st,gm _ _⟩
inductive CmpT(c:Cfg)(G:cB)(A:cy)(X:Cx)(Y:cz)(a b:E)(l r:a8):Prop
 | pq (h:eN a=false) (ta:T c G A X Y a l) (tb:TQ c G A X Y b r)
 | qq (ta:TQ c G A X Y a l) (tb:TQ c G A X Y b r)
 | pp (h:eN a=false) (h':eN b=false) (ta:T c G A X Y a l) (tb:T c G A X Y b r)
theorem sH(H:Gd c)(r:CA A X){z:Cm}{k:Bool->Out n}{E:bZ}(j:J c X g s.heap)(st:St c q M I g s)(a:DR c O s.heap d v)(rb:DR c O' s.heap l u)(b:∀x,u= .ref x->(x==gB)=false)(ns:N≠ .x)(i:N=(cg (cZ z d l)).bind k) (f:∀t s',J c X g s'.heap->St c q M I g s'->Kp s.heap s'.heap->N=k t->K (.bool t) s'):b8 (b9 pw c.w) A (jD (ik z) v u) K E s:=by refine a5 (fF ns i) λt Q m=>c6 (UY (E:=λU U=>False) (by have:=r.un;exact Zu this) a rb b Q) (λw s3 o=>dm o λρ p sr=>?_) λU U h=>h.elim;clear o;subst ρ;exact f t s3 (j.kp H p) (st.kp p sr) p m
theorem DG(H:Gd c)(ca:CA A X){cm:Cm}(t:CmpT c G A X Y a b l r){kk:V×Fr->Out n}(j:J c X g s.heap)(st:St c q M I g s)(eq:N=(ev G (.c cm a b) g.f).bind kk)(ns:N≠ .x) (hK:∀t C s',J c X C s'.heap->St c q M I C s'->N=kk (.d (.bool t),C.f)->K (.bool t) s') : b8 (b9 pw c.w) A (eu l Y) (λv s₁=>b8 (b9 pw c.w) A (eu r Y) (λu s₂=>b8 (b9 pw c.w) A (jD (ik cm) v u) K (Pe c X q M I N) s₂) (Pe c X q M I N) s₁) (Pe c X q M I N) s:=by
 have e0:N=(ev G a g.f).bind λr=>(vz a r).bind λp=>(ev G b p.2).bind λr=>(vz b r).bind λq=>(cg (cZ cm p.1 q.1)).bind λt=>kk (.d (.bool t),q.2):=by rw [eq];show bt (bt _ _) _=_;simp only [dZ];rfl
 cases t with
 | pq h ta tb=>exact ta.dz H h j st e0 ns λd1 g1 r1 s1 j1 v1 k U Q=>tb.go j1 k Q ns λd2 g2 r2 s2 i o nb z sx U O=>sH H ca i z (sx.dr v1) o nb ns O λt s' j3 m U e3=>hK t g2 s' j3 m e3
 | qq ta tb=>exact ta.go j st e0 ns λd1 g1 r1 s1 j1 v1 U k U U Q=>tb.go j1 k Q ns λd2 g2 r2 s2 i o nb z U kp O=>sH H ca i z (v1.ext (kp.zk λU U=>rfl)) o nb ns O λt s' j3 m U e3=>hK t g2 s' j3 m e3
 | pp h h' ta tb=>exact ta.dz H h j st e0 ns λd1 g1 r1 s1 j1 v1 k U Q=>tb.dz H h' j1 k Q ns λd2 g2 r2 s2 i o z sx O=>sH H ca i z (sx.dr v1) o (i.aC H o) ns O λt s' j3 m U e3=>hK t g2 s' j3 m e3
theorem VU(H:Gd c)(p:CA A X){k:Cm}(z:BX (ik k) r=false)(t:CmpT c G A X Y a b l r):T c G A X Y (.c k a b) (.Compare l [ik k] [r] pos):=λg s j ns=>wpAny_Compare1 (DG H p t j (.refl ..) (Out.ag _).symm ns λt C s' u st e=>⟨.d (.bool t),C,e,u,.of rfl,st⟩) z
theorem Tc(H:Gd c)(p:CA A X){k:Cm}(z:BX (ik k) r=false)(t:CmpT c G A X Y a b l r):TB c G A X Y (.c k a b) (.Compare l [ik k] [r] pos):=λg s j ns=>wpAny_isTrue_Compare1 (DG H p t j (.refl ..) rfl ns λt C s' u st e=>ur ⟨C,e,u,st⟩) z
def yh:a8->Bool
 | .UnaryOp .Not _ _ | .BoolOp .. | .IfExp .. | .Compare .. =>false
 | _=>true
set_option tactic.hygienic true in
theorem K8(h:yh e=true)(k:Sem a4):rH e Y k=(do let v <-k;standAt e.pos;holding [v] (truthy v)):=by
 induction e using lX<;>first | rfl | (cases h;done) | skip
 rename_i p _ _;induction p using UnaryOp.casesOn<;>first | rfl | injection h
theorem vd(H:Gd c){k:Bool->Out n}{K:Bool->bM->Prop}{E:bZ}(j:J c X g s.heap)(p:DR c g.O s.heap d v)(st:St c q M I g s)(ns:N≠ .x)(m:N=(cg (gp d)).bind k) (i:∀t s',J c X g s'.heap->St c q M I g s'->DR c g.O s'.heap d v->N=k t->K t s'):b8 (b9 pw c.w) A (truthy v) K E s:=by refine a5 (fF ns m) λt l e=>c6 (V3 (E:=λU U=>False) p (j.aC H p) l) (λr s' o=>dm o λQ u f=>?_) λU U h=>h.elim;clear l o;subst Q;exact i r s' (j.kp H u) (st.kp u f) (p.ext (u.zk λU z=>z)) e
theorem VO(H:Gd c)(he:yh e=true)(t:T c G A X Y B e):TB c G A X Y B e:=λg s j ns=>isTrue_plain (t.d H j (.refl ..) rfl ns λd v m i w l k U z=>vd H w l k ns z λt s' r p U u=>⟨v,u,r,p⟩) (K8 he _)
theorem Te{x:a8}(v:TB c G A X Y a x):TB c G A X Y (.not a) (.UnaryOp .Not x pos):=λg s j ns=>isTrue_not (v.t j (.refl ..) (dZ ((ev G a g.f).bind dL) _ dL) ns λb z w u k p=>⟨z,p,u,k⟩)
theorem W3(H:Gd c){x:a8}(m:T c G A X Y a x):T c G A X Y (.not a) (.UnaryOp .Not x pos):=λg s j ns=>UnaryOp_ (m.d H j (.refl ..) (by show bt (bt _ dL) _=_;rw [dZ];congr 1;funext r;unfold dL;simp only [dZ];rfl) ns λd v f o w i k U z=>not_of (vd H w i k ns z λt s' l p U u=>⟨.d (.bool (!t)),v,u,l,.of rfl,p⟩))
theorem Pv.lift{r:a4}{o N:Out (V×Fr)}{s':bM}(st:St c false M I g s)(z:N=o.bind eh)(ns:N≠ .x)(p:Pv c X g s o r s'):Pv c X M I N r s':=by obtain ⟨v,C,rfl,j,w,k⟩:=p;have u:=se (by rw [z] at ns;exact ns);exact ⟨v,C,by rw [z,rV,sd _ u],j,w,st.trans k⟩
theorem T.last(t:T c G A X Y B e){N:Out (V×Fr)}(j:J c X g s.heap)(st:St c false M I g s)(k:N=(ev G B g.f).bind eh)(ns:N≠ .x):b8 (b9 pw c.w) A (eu e Y) (Pv c X M I N) (Pe c X false M I N) s:=c6 (t g s j (iZ ns k)) (λr s' p=>p.lift st k ns) λx s' p=>p.lift st k
theorem VW(m:TB c G A X Y t w)(l:T c G A X Y a u)(tb:T c G A X Y b v):T c G A X Y (.i t a b) (.IfExp w u v pos):=λg s j ns=>wpAny_IfExp (m.t j (.refl ..) rfl ns λr f o z k p=>by
  induction r with
  | true=>exact l.last z k p ns
  | false=>exact tb.last z k p ns)
theorem vk(x:Out (V×Fr))(ns:(x.bind eh).bind dL≠ .x):(x.bind eh).bind dL=x.bind dL:=by
 induction x with
 | ok p=>have:=se (λe=>ns (by rw [rV];rw [e];rfl));rw [rV,rV];rw [sd _ this];rfl
 | _=>rfl
theorem TB.last(t:TB c G A X Y B e){N:Out (Bool×Fr)}(j:J c X g s.heap)(st:St c false M I g s)(k:N=((ev G B g.f).bind eh).bind dL)(ns:N≠ .x):b8 (b9 pw c.w) A (rH e Y (eu e Y)) (Pt c X M I N) (Pe c X false M I N) s:=by rw [k] at ns;have k:=k.trans (vk _ ns);refine c6 (t g s j (by rw [vk _ ns] at ns;exact ns)) (λr s' p=>?_) λx s' p=>p.lift st (k.trans (Out.ag _).symm);obtain ⟨C,e,u,z⟩:=p;exact ⟨C,k.trans e,u,st.trans z⟩
theorem Td(m:TB c G A X Y t w)(l:TB c G A X Y a u)(tb:TB c G A X Y b v):TB c G A X Y (.i t a b) (.IfExp w u v pos):=λg s j ns=>isTrue_IfExp (m.t j (.refl ..) (dZ ..) ns λr f o z k p=>by
  induction r with
  | true=>exact l.last z k p ns
  | false=>exact tb.last z k p ns)
inductive All2(P:E->a8->Prop):List E->List a8->Prop
 | nil:All2 P [] []
 | cons {B e ces es}:P B e->All2 P ces es->All2 P (B::ces) (e::es)
theorem Q6(e k:E)(es:List E)(f:Fr):(evAnd G (e::k::es) f).bind dL=((ev G e f).bind dL).bind λr=>match r.1 with
   | false=>.ok (false,r.2)
   | true=>(evAnd G (k::es) r.2).bind dL:=by
 show bt (bt _ _) _=_;rw [dZ,dZ];congr 1;funext r;unfold dL;rw [dZ,dZ];congr 1;funext p;induction h:gp p.1 with
 | none=>rfl
 | some b=>induction b with
  | true=>rfl
  | false=>show (cg (gp p.1)).bind _=_;rw [h];rfl
theorem V5(e k:E)(es:List E)(f:Fr):(evOr G (e::k::es) f).bind dL=((ev G e f).bind dL).bind λr=>match r.1 with
   | true=>.ok (true,r.2)
   | false=>(evOr G (k::es) r.2).bind dL:=by
 show bt (bt _ _) _=_;rw [dZ,dZ];congr 1;funext r;unfold dL;rw [dZ,dZ];congr 1;funext p;induction h:gp p.1 with
 | none=>rfl
 | some b=>induction b with
  | false=>rfl
  | true=>show (cg (gp p.1)).bind _=_;rw [h];rfl
theorem TH(t:All2 (TB c G A X Y) r es):∀{g s} {N:Out (Bool×Fr)},J c X g s.heap->St c false M I g s->N=(evAnd G r g.f).bind dL->N≠ .x->b8 (b9 pw c.w) A (allTrue .And es Y) (Pt c X M I N) (Pe c X false M I N) s:=by
 induction t with
 | nil=>exact λU U z ns=>absurd z ns
 | cons l m i=>
  intro g s N j st z ns;cases m with
  | nil=>
   refine Ix (l.t j st ((z.trans (vk _ (by rw [z] at ns;exact ns))).trans (Out.ag _).symm) ns λb v o u k p=>?_);induction b with
   | true=>exact wpAny_allTrue_And_nil ⟨v,p,u,k⟩
   | false=>exact ⟨v,p,u,k⟩
  | cons tb m=>
   refine Ix (l.t j st (z.trans (Q6 ..)) ns λb v o u k p=>?_);induction b with
   | true=>exact i u k p ns
   | false=>exact ⟨v,p,u,k⟩
theorem Ta(t:All2 (TB c G A X Y) k es):TB c G A X Y (.and k) (.BoolOp .And es pos):=λg s j ns=>IF (TH t j (.refl ..) rfl ns)
theorem W8(t:All2 (TB c G A X Y) r es):∀{g s} {N:Out (Bool×Fr)},J c X g s.heap->St c false M I g s->N=(evOr G r g.f).bind dL->N≠ .x->b8 (b9 pw c.w) A (allTrue .Or es Y) (Pt c X M I N) (Pe c X false M I N) s:=by
 induction t with
 | nil=>exact λU U z ns=>absurd z ns
 | cons l m i=>
  intro g s N j st z ns;cases m with
  | nil=>
   refine IB (l.t j st ((z.trans (vk _ (by rw [z] at ns;exact ns))).trans (Out.ag _).symm) ns λb v o u k p=>?_);induction b with
   | false=>exact wpAny_allTrue_Or_nil ⟨v,p,u,k⟩
   | true=>exact ⟨v,p,u,k⟩
  | cons tb m=>
   refine IB (l.t j st (z.trans (V5 ..)) ns λb v o u k p=>?_);induction b with
   | false=>exact i u k p ns
   | true=>exact ⟨v,p,u,k⟩
theorem VP(t:All2 (TB c G A X Y) k es):TB c G A X Y (.or k) (.BoolOp .Or es pos):=λg s j ns=>IF (W8 t j (.refl ..) rfl ns)
theorem Yr(H:Gd c)(t:All2 (T c G A X Y) z es):∀{g s} {N:Out (V×Fr)},J c X g s.heap->St c false M I g s->N=evAnd G z g.f->N≠ .x->b8 (b9 pw c.w) A (boolOp pos .And (evalEach es Y)) (Pv c X M I N) (Pe c X false M I N) s:=by
 induction t with
 | nil=>exact λU U p ns=>absurd p ns
 | cons m i O=>
  intro g s N j st p ns;cases i with
  | nil=>exact m.last j st p ns
  | cons tb i=>
   refine a9 (m.d H j st p ns λd Q r1 s1 b a v U o=>a9 (o3 (a9 (gQ (vd H b a v ns o λt s' l k u r=>?_)))));induction t with
   | false=>exact bX ⟨.d d,Q,r,l,.of u,k⟩
   | true=>exact O l k r ns
theorem VQ(H:Gd c)(t:All2 (T c G A X Y) k es):T c G A X Y (.and k) (.BoolOp .And es pos):=λg s j ns=>Yr H t j (.refl ..) rfl ns
theorem orV(H:Gd c)(t:All2 (T c G A X Y) z es):∀{g s} {N:Out (V×Fr)},J c X g s.heap->St c false M I g s->N=evOr G z g.f->N≠ .x->b8 (b9 pw c.w) A (boolOp pos .Or (evalEach es Y)) (Pv c X M I N) (Pe c X false M I N) s:=by
 induction t with
 | nil=>exact λU U p ns=>absurd p ns
 | cons m i O=>
  intro g s N j st p ns;cases i with
  | nil=>exact m.last j st p ns
  | cons tb i=>
   refine a9 (m.d H j st p ns λd Q r1 s1 b a v U o=>a9 (o3 (a9 (gQ (vd H b a v ns o λt s' l k u r=>?_)))));induction t with
   | true=>exact bX ⟨.d d,Q,r,l,.of u,k⟩
   | false=>exact O l k r ns
theorem Yp(H:Gd c)(t:All2 (T c G A X Y) k es):T c G A X Y (.or k) (.BoolOp .Or es pos):=λg s j ns=>orV H t j (.refl ..) rfl ns
theorem DR.imm{O O':Ow}{h h':bP}{x:D}{r:a4}(k:DR c O h x r)(p:imm x=true):DR c O' h' x r:=by
 induction x using c7 with
 | none=>exact k
 | bool=>exact k
 | int=>exact k
 | str=>exact k
 | _=>injection p
theorem W5(H:Gd c){e i:E}{w k:a8}(hs:su k=true)(v:eN e=false)(Q:T c G A X Y e w)(O:T c G A X Y i k):T c G A X Y (.sub e i) (.Subscript w k pos):=λg s j ns=>Subscript_ (Q.dz H v j (.refl ..) rfl ns λd1 g1 r1 s1 m b p U r=>O.d H m p r ns λd2 g2 r2 s2 f a z sx t=>by refine a5 (fF ns t) λx l u=>?_;rw [v] at u;exact c6 (FU hs (sx.dr b) a l) (λU U o=>o.pv H f z u) λU U h=>h)
theorem TE(H:Gd c){e i:E}{t u:a8}(hs:su u=true)(f:eN e=true)(Q:eN i=false)(te:TQ c G A X Y e t)(ti:TQ c G A X Y i u):T c G A X Y (.sub e i) (.Subscript t u pos):=λg s j ns=>Subscript_ (te.go j (.refl ..) rfl ns λd1 g1 r1 s1 b v1 U v U U l=>ti.go b v (by rw [wm Q];exact l) ns λd2 g2 r2 s2 a v2 U w U kp m=>by
  refine a5 (fF ns m) λx O z=>?_;rw [f] at z;induction p:imm x with
  | false=>rw [p] at z;exact absurd z ns
  | true=>rw [p] at z;exact c6 (FU hs (v1.ext (kp.zk λU U=>rfl)) v2 O) (λr s' o=>by obtain ⟨O',k,sr,U,U,vr⟩:=o;exact (OpR.d k sr (DR.imm vr p)).pv H a w z) λU U h=>h)
theorem Mu(H:Gd c)(ca:CA A X){O m:Cm}{l r r':a8}(ta:T c G A X Y a l)(tb:T c G A X Y b r)(tb':T c G A X Y b' r'){N:Out (Bool×Fr)}(j:J c X g s.heap)(st:St c false M I g s)(eq:N=(ev G (.cmp2 O m a b b') g.f).bind dL)(ns:N≠ .x) (hK:∀t C s',J c X C s'.heap->St c false M I C s'->N= .ok (t,C.f)->K (.bool t) s') : b8 (b9 pw c.w) A (eu l Y) (λv s₁=>b8 (b9 pw c.w) A (eu r Y) (λu o=>b8 (b9 pw c.w) A (jD (ik O) v u) (λw k=>(w= .bool false/\K (.bool false) k)\/(w= .bool true/\b8 (b9 pw c.w) A (eu r' Y) (λu' Q=>b8 (b9 pw c.w) A (jD (ik m) u u') K (Pe c X false M I N) Q) (Pe c X false M I N) k)) (Pe c X false M I N) o) (Pe c X false M I N) s₁) (Pe c X false M I N) s:=by
 have e0:N=(ev G a g.f).bind λr=>(fz r).bind λp=>(ev G b p.2).bind λr=>(fz r).bind λq=>(cg (cZ O p.1 q.1)).bind λt=>match t with
   | false=>.ok (false,q.2)
   | true=>(ev G b' q.2).bind λr=>(fz r).bind λs=>(cg (cZ m q.1 s.1)).bind λt=>.ok (t,s.2):=by
  rw [eq];show bt (bt _ _) _=_;simp only [dZ];congr 1;funext r;congr 1;funext p;congr 1;funext r;congr 1;funext q;congr 1;funext t;induction t with
  | false=>rfl
  | true=>simp only [dZ];rfl
 refine ta.d H j st e0 ns λd1 g1 v s1 j1 v1 st1 U e1=>tb.d H j1 st1 e1 ns λd2 g2 u s2 j2 v2 st2 sx e2=>sH H ca j2 st2 (sx.dr v1) v2 (j2.aC H v2) ns e2 λt s3 j3 i kp e3=>?_;induction t with
 | false=>exact .inl ⟨rfl,hK false g2 s3 j3 i e3⟩
 | true=>exact .inr ⟨rfl,tb'.d H j3 i e3 ns λd4 g4 u' s4 j4 v4 st4 sy e4=>sH H ca j4 st4 (sy.dr (v2.ext (kp.zk λU z=>z))) v4 (j4.aC H v4) ns e4 λt s5 j5 st5 U e5=>hK t g4 s5 j5 st5 e5⟩
theorem PP(H:Gd c)(d:CA A X){z k:Cm}{a b m:E}{l r i:a8}(Q:lastMarks [ik z,ik k] [r,i]=false)(ta:T c G A X Y a l)(tb:T c G A X Y b r)(o:T c G A X Y m i):TB c G A X Y (.cmp2 z k a b m) (.Compare l [ik z,ik k] [r,i] pos):=by
 refine λg s j ns=>isTrue_chain (c6 (Mu (K:=λv s'=>∃t,v= .bool t/\Pt c X g s ((ev G (.cmp2 z k a b m) g.f).bind dL) t s') H d ta tb o j (.refl ..) rfl ns λt C s' O st e=>(a7 t rfl ⟨C,e,O,st⟩)) (λv s1 h=>test_link (c6 h (λu s2 h=>c6 h (λw s3 h=>?_) λU U p=>p) λU U p=>p)) λU U p=>p) Q;rcases h with ⟨rfl,t,e,h⟩ | ⟨rfl,h⟩
 .obtain rfl:=Value.bool.inj e;exact ur h
 refine ur ?_;refine test_last (c6 h (λu' s4 h=>c6 h (λw s5 h=>?_) λU U p=>p) λU U p=>p);obtain ⟨t,rfl,h⟩:=h;exact ur h
end
def sS:Bi->a6
 | .len=>"len" | .abs=>"abs" | .max=>"max" | .min=>"min" | .str=>"str" | .list=>"list" | .dict=>"dict" | .chr=>"chr"
def zE:Sm->a6
 | .join=>"join" | .find=>"find" | .upper=>"upper" | .lower=>"lower" | .lstrip=>"lstrip" | .rstrip=>"rstrip" | .rjust=>"rjust" | .split=>"split" | .get=>"get"
def zt:Lm->a6
 | .append=>"append" | .pop=>"pop" | .reverse=>"reverse"
def wy:Lm->String
 | .append=>"list.append" | .pop=>"list.pop" | .reverse=>"list.reverse"
def f7(sc:cD)(n:a6):Bool:=sc.names.lookup n==some .globalImplicit&&eE n
def Keeps(M:fg)(h:bP)(f:a4):Prop:=∃k,(k=Keeper.frame\/k=Keeper.machine\/k=Keeper.boundFrame)/\Looks M h (keeperOf f) k
theorem Keeps.blt{i:String}:Keeps M h (.builtin i):=(a7 .machine (.inr (.inl rfl)) (Looks.of_pure rfl))
theorem Keeps.typ{i:String}:Keeps M h (.type i):=(a7 .machine (.inr (.inl rfl)) (Looks.of_pure rfl))
structure Blt(c:Cfg):Prop where
 bi:∀b,c.mg (sS b)=none/\c.mb (sS b)=some (qF b)
 zip:c.mg "zip" =none/\c.mb "zip" =some (.type "zip")
structure Gls(c:Cfg):Prop where
 gl:∀(i:Nat) d,gls[i]? =some d->∃v,c.mg (c.gnm i)=some v/\∀O h,DR c O h d v
section
variable {c:Cfg}{G:cB}{A:cy}{X:Cx}{Y:cz}{sc:cD}{a1:List (Nat×a6)}{g N:Gh}{h h':bP}{s C:bM}{x:Nat}{nm:a6}{pos p:c8}{q:Bool}{M:fg}{ce:E}{e:a8}{a0:List E}{es:List a8}
theorem oC{Q:bZ}{E:bZ}(H:Gd c)(y:GI c O s.heap)(k:EO c X Y sc a1)(hn:f7 sc n=true)(z:c.mg n=some v)(h:Q v s) : b8 M A (eu (.Name n pos) Y) Q E s:=by unfold f7 eE at hn;simp only [dF,jF,beq_iff_eq] at hn;refine JL k.kind (by unfold jp;rw [k.scope];exact hn.1) (loadGlobal_global ?_ z h) hn.2.1;rw [k.glob];exact y.ns H.gns
theorem qb{Q:bZ}{E:bZ}(H:Gd c)(y:GI c O s.heap)(k:EO c X Y sc a1)(hn:f7 sc n=true)(z:c.mg n=none/\c.mb n=some v)(h:Q v s) : b8 M A (eu (.Name n pos) Y) Q E s:=by
 unfold f7 eE at hn;simp only [dF,jF,beq_iff_eq] at hn;refine JL k.kind (by unfold jp;rw [k.scope];exact hn.1) (loadGlobal_builtin ?_ z.1 ?_ z.2 h) hn.2.1
 .rw [k.glob];exact y.ns H.gns
 rw [k.blt];exact y.ns H.bns
theorem TL.plain(t:TL c G A X Y a0 es):(mW pos (mS es Y)).any (·.1)=false:=by
 induction t with
 | nil=>rfl
 | cons hs U U k=>rw [iK hs];simpa using k
theorem oU(H:Gd c){m:Type}{y:Out m}{f:a4}{first:List a4}{K:bZ}{k:List D×Fr->Out m}(t:TL c G A X Y a0 es)(j:J c X g s.heap)(st:St c q N C g s)(r:y=(evs G a0 g.f).bind k)(ns:y≠ .x) (l:∀ds z vs s',J c X z s'.heap->DRs c z.O s'.heap ds vs->St c q N C z s'->St c false g s z s'->y=k (ds,z.f)->Keeps (b9 pw c.w) s'.heap f/\b8 (b9 pw c.w) A (call f (first++vs)) K (Pe c X q N C y) s') : b8 (b9 pw c.w) A (callWith pos f first (mW pos (mS es Y)) []) K (Pe c X q N C y) s:=by
 refine og (by rw [t.plain];rfl) (λh x=>x) ?_;have u:=pW (pos:=pos) H t j st r ns λds z vs s' d i U v sx o=>l ds z vs s' d i v sx o;cases t with
 | nil=>exact evalArgs_nil3 (l [] g [] s j rfl st (.refl ..) r)
 | cons hs U U=>rw [iK hs] at u ⊢;exact on u
theorem TX(b:Bi):Keeps M h (qF b):=by induction b using Bi.casesOn<;>first | exact .blt | exact .typ
theorem Yl(H:Gd c)(B:Blt c)(u:CA A X)(m:EO c X Y sc a1){b:Bi}(hn:f7 sc (sS b)=true)(t:TL c G A X Y a0 es):T c G A X Y (.bi b a0) (.Call (.Name (sS b) p) es [] pos):=λg s j ns=>l0 rfl (qb H j.gi m hn (B.bi b) (oU H t j (.refl ..) rfl ns λds n vs Q z y k U r=>⟨TX b,by exact a5 (fF ns r) λv i l=>c6 (XK (E:=λU U=>False) u.hh y (λx f=>xE (y.mem f) λd w=>z.aC H w x rfl) i) (λU U o=>o.pv H z k l) λU U h=>h.elim⟩))
def wJ:Sm->String
 | .get=>"dict"
 | _=>"str"
theorem Sp(m:Sm):∃T,PlainAttrs T/\Slot T (zE m) (B0 m)/\typeOf (.builtin (B0 m))=pure (.type "method_descriptor")/\T=wJ m:=by
 induction m using Sm.casesOn
 .exact (js ("str") oh F.slot_str_join F.type_str_join rfl)
 .exact (js ("str") oh F.slot_str_find F.type_str_find rfl)
 .exact (js ("str") oh F.slot_str_upper F.type_str_upper rfl)
 .exact (js ("str") oh F.slot_str_lower F.type_str_lower rfl)
 .exact (js ("str") oh F.slot_str_lstrip F.type_str_lstrip rfl)
 .exact (js ("str") oh F.slot_str_rstrip F.type_str_rstrip rfl)
 .exact (js ("str") oh F.slot_str_rjust F.type_str_rjust rfl)
 .exact (js ("str") oh xP F.type_str_split rfl)
 exact (js ("dict") F.plainAttrs_dict Cw F.type_dict_get rfl)
theorem DcA.ty(x:DcA c O s.heap t ks v vs):s.TypeIs v "dict" /\∀a,v= .ref a->∃k,s.heap.get? a=some k/\k.dict=none:=by obtain ⟨a,o,es,n,rfl,z,g,b,U⟩:=x;exact ⟨(a7 o g b.1),λa q=>by obtain rfl:=ez q;exact (a7 o g b.2.1)⟩
set_option tactic.hygienic true in
theorem N3(h:td m d=true)(r:DR c O s.heap d v):s.TypeIs v (wJ m)/\∀a,v= .ref a->∃y,s.heap.get? a=some y/\y.dict=none:=by
 unfold td at h;split at h
 .rename_i k;have:wJ m= "dict" :=by induction m using Sm.casesOn<;>first | rfl | injection k
  rw [this];induction d using c7 with
  | dct=>refine a5 r λ_ s _=>?_;exact s.ty
  | _=>injection h
 rename_i k;have:wJ m= "str" :=by induction m using Sm.casesOn<;>first | rfl | exact absurd rfl k
 rw [this];induction d using c7 with
 | str=>refine fx r λ_ t z=>?_;clear r;subst z;exact ⟨uy _ _ _,λa e=>nomatch e⟩
 | _=>injection h
theorem z9(t:TL c G A X Y a0 es)(k:es.length< 30):((mW pos (mS es Y)).all (λx=>!x.1)&&(backToKw pos (keywordEach [] Y)).all (λx=>x.1.isSome) &&decide (es.length+([]:List pD).length+(if ([]:List pD).isEmpty then 0 else 1)< 30))=true:=by have:=t.plain (pos:=pos);rw [dF,dF];refine ⟨⟨?_,rfl⟩,by simpa using k⟩;rw [dM];intro x y;rw [List.any_eq_false] at this;simpa using this x y
theorem Yq(H:Gd c)(ca:CA A X){m:Sm}{k:c8}(a:t9 e=true)(y:(k.endLine==pos.line)=true)(z:es.length< 30)(te:T c G A X Y ce e)(t:TL c G A X Y a0 es):T c G A X Y (.sm m ce a0) (.Call (.Attribute e (zE m) k) es [] pos):=λg s j ns=>Iy (ve a) (z9 t z) y rfl (te.d H j (.refl ..) rfl ns λd g1 v s1 j1 i r U u=>by
  induction hs:td m d with
  | false=>rw [hs] at u;exact absurd u ns
  | true=>rw [hs] at u;refine jN (Sp m) λT O B b ρ=>?_;subst ρ;refine xA (N3 hs i) λk1 k2=>?_;refine (vm _ _ O B b k1 k2 (oU H t j1 r u ns λds g2 vs s2 f n l sx Q=>⟨.blt,?_⟩));refine a5 (fF ns Q) λw hw I=>?_;exact c6 (XM (E:=λU U=>False) (sx.dr i) n (f.aC H (sx.dr i)) hw) (λU U o=>o.pv H f l I) λU U h=>h.elim)
theorem V0{E:bZ}(H:Gd c)(X:c.K.In s.heap)(r:DR c O s.heap d v)(e:AE d i=some b) : b8 (b9 pw c.w) A (call (.builtin "isinstance") [v,if i=0 then .ref (c.ca 0) else .type "str"]) (OpR c O s (.d (.bool b))) E s:=by
 induction d using c7 with
 | y=>refine xA (cX e) λk z=>?_;obtain rfl:=beq_iff_eq.mp k;clear e;obtain rfl:=bv z;refine gv r λU U U U σ=>a5 σ λU u U=>?_;obtain ⟨a,d,o,Q,es,n,rfl,U,U,q1,l,m,j,f,U⟩:=u;have I:InstAt s.heap a o (c.ca 0) (some Q):=⟨q1,l,by unfold pP;rw [j],by rw [m];exact f⟩;exact isi_call X (λM=>I.type) (by unfold isIn;rw [beq_self_eq_true];rfl) (λh=>by injection h) (OpR.dd rfl)
 | nul=>refine xA (cX e) λk z=>?_;obtain rfl:=beq_iff_eq.mp k;clear e;obtain rfl:=bv z;refine cU r λU U u U=>?_;obtain ⟨a,d,o,Q,es,n,rfl,U,U,q1,l,m,j,f,U⟩:=u;exact qE H.nul λB n2 n3 n4 n5 n6=>kin_callC X ⟨q1,l,by unfold pP;rw [j],by rw [m];exact f⟩ B n2 (H.cls 1).dict n3 n4 n5 n6 (.dt rfl)
 | str=>refine xA (cX e) λk z=>?_;obtain rfl:=beq_iff_eq.mp k;clear e;obtain rfl:=bv z;refine fx r λU t u=>?_;clear r;subst u;exact IsiPair.str_str (OpR.dd rfl)
 | _=>injection e
theorem Gj(H:Gd c)(B:Blt c)(u:EO c X Y sc a1)(I:f7 sc "isinstance" =true)(l:f7 sc z=true)(hn:(i=0/\z=c.cnm 0)\/(i=1/\z= "str"))(hs:∀a p,e≠ .Starred a p) (t:T c G A X Y ce e):T c G A X Y (.isi ce i) (.Call (.Name "isinstance" p) [e,.Name z p'] [] pos):=by
 refine λg s j ns=>l0 rfl (qb H j.gi u I H.isi (og (P:=λh=>Keeps (b9 pw c.w) h (.builtin "isinstance")) ?_ (λh x=>x) ?_))
 .rw [iK hs,iK (λU U h=>by injection h)];rfl
 rw [iK hs,iK (λU U h=>by injection h)];refine on (oq (t.d H j (.refl ..) rfl ns λd g1 v s1 y O r U m=>a5 (fF ns m) λb Q n=>?_));have k:b8 (b9 pw c.w) A (call (.builtin "isinstance") [v,if i=0 then .ref (c.ca 0) else .type "str"]) (Pv c X g s (ev G (.isi ce i) g.f)) (Pe c X false g s (ev G (.isi ce i) g.f)) s1:=c6 (V0 H (y.gi.kin H) O Q) (λU U o=>o.pv H y r n) λU U h=>h;refine oq ?_;rcases hn with ⟨rfl,rfl⟩ | ⟨rfl,rfl⟩
 .exact oC H y.gi u l (H.cnm 0 ∅) (pS ⟨.blt,k⟩)
 exact qb H y.gi u l (B.bi .str) (pS ⟨.blt,k⟩)
theorem Ym(H:Gd c)(y:EO c X Y sc a1)(hn:f7 sc (c.fnm f)=true)(z:(c.mg (c.fnm f)).isSome=true):T c G A X Y (.fn f) (.Name (c.fnm f) pos):=by refine λg s j ns=>xE (lS.mp z) λv k=>?_;obtain rfl:=H.fnm f v k;exact oC H j.gi y hn k ((OpR.dd (x:=.fn f) rfl).pv H j (.refl ..) rfl)
theorem Yn(H:Gd c)(L:Gls c)(y:EO c X Y sc a1)(hn:f7 sc (c.gnm i)=true):T c G A X Y (.gl i) (.Name (c.gnm i) pos):=by exact λg s j ns=>a5 (fF ns rfl) λd z e=>a5 (L.gl i d z) λv u k=>oC H j.gi y hn u ((OpR.dd (k _ _)).pv H j (.refl ..) e)
inductive TO(c:Cfg)(G:cB)(A:cy)(X:Cx)(Y:cz):Option E->Option a8->Prop
 | none:TO c G A X Y none none
 | some {a b}:T c G A X Y a b->TO c G A X Y (some a) (some b)
theorem DRo.st{v:a4}{k:Gh}{s':bM}(st:St c q g s k s')(x:DRo c g.O s.heap d v):DRo c k.O s'.heap d v:=by
 induction d with
 | none=>exact x
 | some d=>exact st.dr x
theorem H3(H:Gd c){i:Type}{y:Out i}{l:Option E}{m:Option a8}{K:bZ}(t:TO c G A X Y l m){k:Option D×Fr->Out i}(j:J c X g s.heap)(st:St c q N C g s)(v:y=(evo G l g.f).bind k)(ns:y≠ .x) (h:∀d z r s',J c X z s'.heap->DRo c z.O s'.heap d r->St c q N C z s'->St c false g s z s'->y=k (d,z.f)->K r s'):b8 (b9 pw c.w) A (evalPart m Y) K (Pe c X q N C y) s:=by
 cases t with
 | none=>rw [evalPart_none];exact bX (h none g iI s j rfl st (.refl ..) v)
 | some t=>rw [evalPart_some];exact t.d H j st (by rw [v];show bt (bt _ _) _=_;simp only [dZ];rfl) ns λd z r s' n o u sx e=>h (some d) z r s' n o u sx e
theorem Q4(H:Gd c){l u:Option E}{w m:Option a8}{p:c8}(t:T c G A X Y ce e)(tl:TO c G A X Y l w)(tu:TO c G A X Y u m):T c G A X Y (.slice ce l u) (.Subscript e (.Slice w m none p) pos):=λg s j ns=>Subscript_ (t.d H j (.refl ..) rfl ns λd g1 v s1 b v1 k U n=>wpAny_Slice (H3 H tl b k n ns λdl g2 vl s2 a i y sx Q=>H3 H tu a y Q ns λdu g3 vu s3 j3 f z r I=>by rw [evalPart_none];exact bX (a5 (fF ns I) λx B O=>c6 (P2 (E:=λU U=>False) (r.dr (sx.dr v1)) (i.st r) f B) (λU U o=>o.pv H j3 z O) λU U h=>h.elim)))
end
section
variable {c:Cfg}{G:cB}{A:cy}{X:Cx}{Y:cz}{sc:cD}{Q:List (Nat×a6)}{g N:Gh}{h h':bP}{s s' C:bM}{x:Nat}{nm:a6}{pos:c8}{q:Bool}{M:fg}{ce:E}{e:a8}{B:List E}{es:List a8}
theorem J.bw(H:Gd c)(j:J c X g h){v:V}{O':Ow}(hx:x< g.f.length)(z:∀b o,h.get? b=some o->(∀k,g.O b≠ .own 0 k)->(∀k,g.O b≠ .own (x+1) k)->h'.get? b=some o/\O' b=g.O b)(l:∀b o,h.get? b=some o->∃d,h'.get? b=some d)(lv:∀b,O' b≠ .no->∃o,h'.get? b=some o) (m:dI v=false) (hk0:dI (rd g.f x)=false) (hu:rd g.f x≠ .u) (hv:∀p r,X.pl[x]? =some p->Has h p (some r)->VR c g.O h (x+1) (rd g.f x) r->VR c O' h' (x+1) v r):J c X ⟨g.f.set x v,O'⟩ h'/\Step c false g.O h O' h':=by
 have kp:∀b o,h.get? b=some o->mG x (g.O b)=false->h'.get? b=some o/\O' b=g.O b:=λb o e hc=>z b o e (ja hc).1 (ja hc).2.1;refine ⟨j.at H x (by simp) (λy hy=>oW v hy) kp lv λp i=>?_,λb o e=>?_⟩
 .have s:=j.slot x p i;have n:∀b,p.at b->O' b=g.O b:=λb n=>by
   have t:=s.place n;exact xE (j.lv b (by rcases t with t | t | t<;>rw [t]<;>exact λh=>by injection h)) λo eo=>(kp b o eo (by rcases t with t | t | t<;>rw [t]<;>rfl)).2
  show SlotR c O' h' x p (rd (g.f.set x v) x);rw [sQ v hx];refine ⟨λe=>absurd (s.off e) hu,λL nm e=>?_,λa e=>?_,λe=>?_⟩
  .clear i;subst e;rw [n L rfl];exact ⟨(s.loc L nm rfl).1,m⟩
  .clear i;subst e;rw [n a rfl,m,<-hk0];exact s.cel a rfl
  refine a5 (s.val e) λov hh w=>a5 (w.resolve_left hu) λr ρ vr=>?_;clear w;subst ρ;exact (a7 _ (j.has i hh λb o t eo=>(a7 o ((kp b o eo (by rcases t with t | t | t<;>rw [t]<;>rfl)).1) (.inl rfl))) (.inr ⟨r,rfl,hv p r i hh vr⟩))
 by_cases h0:∀k,g.O b≠ .own 0 k
 .by_cases h1:∀k,g.O b≠ .own (x+1) k
  .exact xA (z b o e h0 h1) λk1 k2=>(cF o k1 (.inl k2) (.inr (.refl ..)))
  refine xE (JP.mp h1) λk m=>xE (l b o e) λd I=>?_;have:mv false (g.O b)=true:=by rw [JQ.mp m];rfl
  exact (cF d I (.inr (.inl this)) (.inl this))
 refine xE (JP.mp h0) λk m=>xE (l b o e) λd I=>?_;have:mv false (g.O b)=true:=by rw [JQ.mp m];rfl
 exact (cF d I (.inr (.inl this)) (.inl this))
theorem Step.has(j:J c X g h)(st:Step c false g.O h O' h'){y:Nat}{p:Place}{ov:Option a4}(e:X.pl[y]? =some p)(v:Has h p ov):Has h' p ov:=v.same λb o k u=>by
 refine ck (st b o u) λi m d l=>?_;have w:=j.slot y p e;have t:=w.place k;refine (a7 i m ((l.resolve_left (by rcases t with t | t | t<;>rw [t]<;>exact λh=>by injection h)).same ?_ (.inl (by rcases t with t | t | t<;>rw [t]<;>exact λh=>by injection h))));induction p with
 | off=>exact k.elim
 | loc L nm=>cases k;left;rw [(w.loc _ _ rfl).1];exact ⟨(λh=>by injection h),(λh=>by injection h)⟩
 | cel a=>cases k;refine a5 v λf z r=>?_;rw [u] at z;obtain rfl:=bv z;exact .inr λes n q=>by rw [r] at q;injection q
theorem St.has(j:J c X g s.heap)(st:St c false g s z s'){y:Nat}{p:Place}{ov:Option a4}(e:X.pl[y]? =some p)(k:Has s.heap p ov):Has s'.heap p ov:=st.st.has j e k
theorem J.aX(H:Gd c)(j:J c X g s.heap)(st:St c q N C g s){v:V}{a:b7}{k:Nat}(hx:x< g.f.length)(m:g.O a= .own (x+1) k)(t:jm a s.heap s'.heap)(l:∃o,s'.heap.get? a=some o)(sr:SameRest s s')(i:dI v=false)(d:dI (rd g.f x)=false)(hu:rd g.f x≠ .u) (hv:ZK c g.O s.heap g.O s'.heap->(∀b n,g.O b= .own (x+1) n->n≠k->s'.heap.get? b=s.heap.get? b)->∀p r,X.pl[x]? =some p->Has s.heap p (some r)->VR c g.O s.heap (x+1) (rd g.f x) r->VR c g.O s'.heap (x+1) v r):J c X ⟨g.f.set x v,g.O⟩ s'.heap/\St c q N C ⟨g.f.set x v,g.O⟩ s'/\ZK c g.O s.heap g.O s'.heap:=by
 have y:∀b o,s.heap.get? b=some o->∃o',s'.heap.get? b=some o':=λb o e=>by
  by_cases w:b=a
  .rw [w];exact l
  exact ⟨o,(t.2 b w).trans e⟩
 have zk:ZK c g.O s.heap g.O s'.heap:=λb o z e=>(cF o ((t.2 b λh=>by rw [h,m] at z;injection z).trans e) z (.refl ..));exact xA (j.bw H hx (λb o e U h1=>⟨(t.2 b λh=>h1 k (h▸m)).trans e,rfl⟩) y (λb w=>xE (j.lv b w) λo e=>y b o e) i d hu (hv zk λb n z i=>t.2 b λh=>by rw [h,m] at z;cases z;exact i rfl)) λj' I=>⟨j',⟨st.st.trans I.up,st.sr.trans sr⟩,zk⟩
theorem Rh(m:Lm):Slot "list" (zt m) (wy m)/\typeOf (.builtin (wy m))=pure (.type "method_descriptor"):=by
 cases m
 .exact ⟨F.slot_list_append,F.type_list_append⟩
 .exact ⟨JE,F.type_list_pop⟩
 exact ⟨JC,F.type_list_reverse⟩
inductive LmR(c:Cfg)(O:Ow)(s:bM)(a:b7)(d:D)(xs:List D)(r:a4)(s':bM):Prop
 | mk (vs:Array a4) (n:Nat) (g:s'.heap.get? a=some {cls:=.type "list",dict:=none,data:=.seq vs n,slots:=#[]}) (l:DRs c O s.heap xs vs.toList) (r:DR c O s.heap d r) (sb:jm a s.heap s'.heap) (sr:SameRest s s')
theorem MV:∀{ys:List D} {l:List a4},DRs c O h (ys++[y]) l->∃p w,l=p++[w]/\DRs c O h ys p/\DR c O h y w:=by
 intro ys;induction ys with
 | nil=>intro _ e;refine c0 e λv r k a u=>?_;subst k;clear e;obtain rfl:=show r=[] from u;exact (d6 [] v rfl rfl a)
 | cons z ys m=>intro _ e;refine c0 e λv r k a s=>?_;subst k;refine c0 (m s) λp w k u t=>?_;clear s e;subst k;exact (d6 (v::p) w rfl (.cons a u) t)
theorem GJ{xs ds xs':List D}{m:Lm}{E:bZ}(u:s.heap.get? a=some {cls:=.type "list",dict:=none,data:=.seq vs n,slots:=#[]})(r:DRs c O s.heap xs vs.toList)(rs:DRs c O s.heap ds vals) (e:hZ m ds xs=some (d,xs')):b8 (b9 pw c.w) A (call (.builtin (wy m)) (.ref a::vals)) (LmR c O s a d xs') E s:=by
 have k:xs.length=vs.size:=by simpa using r.len
 cases m with
 | append=>
  induction ds using bO with
  | nil=>injection e
  | cons dd ds=>induction ds using bO with
   | cons=>injection e
   | nil=>
    refine c0 rs λw U j b r2=>?_;subst j;clear rs;obtain rfl:=show _=([]:List a4) from r2;refine xA (cX e) λz v=>?_;cases v;have h0:xs.length< 1048576:=by unfold df at z;simpa using z
    refine lK slot_list_append (a7 _ u rfl) entry_list_append ?_ (args_list_append _ _);show b8 _ _ (updateSeq a (·.push _) >>=λU=>ret .none) _ _ s;exact a9 (wpAny_updateSeq u rfl (bX (a7 .none rfl ⟨vs.push w,n+1,(IsL.update u (·.push w)).trans (by simp),by simpa using r.snoc b,rfl,lW ..,rfl,rfl⟩)))
 | pop=>
  refine xA (cX e) λz v=>?_;rw [dF] at z;have l:=ee z.2;induction ds using bO with
  | cons=>injection z.1
  | nil=>
   obtain rfl:=show _=([]:List a4) from rs;rcases IN xs with rfl | ⟨ys,y,rfl⟩
   .injection v
   rw [IP] at r;simp at v;refine xA v λj σ=>?_;subst j;clear e v;subst σ;refine c0 (MV r) λp w i o I=>?_;have t:vs=(p++[w]).toArray:=by rw [<-i]
   clear r i;subst t;have f:(p++[w]).toArray.size -1=p.length:=by rw [xq,ey];rfl
   have H:(p++[w]).toArray[(p++[w]).toArray.size -1]? =some w:=by rw [f];simp
   refine o6 JE (a7 _ u rfl) PySem.F.entry_list_pop (PySem.F.args_list_pop_1 _) (PySem.MeetsSeq.list_pop_last a _ n w H (by rw [fH,<-k];exact Zv l k)) ⟨u,⟨p.toArray,n+1,(IsL.update u _).trans ?_,by simpa using o,I,lW ..,rfl,rfl⟩⟩;rw [f,kl_erase,n9];simp
 | reverse=>
  refine xA (cX e) λz v=>?_;rw [dF] at z;have l:=ee z.2;cases v;clear e;induction ds using bO with
  | cons=>injection z.1
  | nil=>obtain rfl:=show _=([]:List a4) from rs;exact o6 JC (a7 _ u rfl) PySem.F.entry_list_reverse (PySem.F.args_list_reverse_1 _) (AutoSeq1.list_reverse_list_0 a vs n (by rw [fH];exact Zw k l)) ⟨u,vs.toList.reverse.toArray,n,(kU _ u (by rw [mapSeq_reverse];rfl)).trans (by rw [mapSeq_reverse]),by simpa using r.rev,rfl,lW ..,rfl,rfl⟩
theorem FX{v:V}{k:List D->Out (V×Fr)}{p:Out (V×Fr)}(e:p=match v with | .ol xs=>k xs | _=>.x)(ns:p≠ .x):∃xs,v= .ol xs/\p=k xs:=by
 induction v using bS with
 | ol xs=>exact (a7 xs rfl e)
 | _=>exact absurd e ns
theorem Yo(H:Gd c)(eo:EO c X Y sc Q){m:Lm}{np k:c8}(hv:(x,nm)∈Q)(hn:eE nm=true)(y:(k.endLine==pos.line)=true)(i:es.length< 30)(t:TL c G A X Y B es):T c G A X Y (.lm m x B) (.Call (.Attribute (.Name nm np) (zt m) k) es [] pos):=by
 refine λg s j ns=>a5 (FX rfl ns) λxs0 n e0=>?_;obtain ⟨p,r,O,hh,vr,hx⟩:=j.val (λq=>by rw [n] at q;injection q);rw [n] at vr;refine a5 vr λvs0 sa U=>c0 sa.is λa n0 ρ ha ea=>?_;clear vr sa;subst ρ;refine xA (Rh m) λf1 f2=>Iy (ve rfl) (z9 t i) y rfl (h9 eo hv hn O hh (vm ("list") (wy m) F.plainAttrs_list f1 f2 (a7 _ ea rfl) (λb e=>by obtain rfl:=ez e;exact (a7 _ ea rfl)) (oU H t j (.refl ..) e0 ns λds g1 vals s1 j1 d1 st1 sx e1=>⟨.blt,a5 (FX e1 ns) λxs z e2=>a5 (fF ns e2) λρ hd e3=>?_⟩)));obtain ⟨d,xs'⟩:=ρ;have hu:rd g1.f x≠ .u:=λq=>by rw [show rd g1.f x=_ from z] at q;injection q
 obtain ⟨p1,r1,hp1,l,I,hx'⟩:=j1.val hu;obtain rfl:=bv (O.symm.trans hp1);obtain rfl:=bv (l.inj (sx.has j O hh)).symm;rw [z] at I;refine a5 I λvs1 sa1 dr1=>c0 sa1.is λa' n1 q w ea1=>?_;obtain rfl:=ez q;refine c6 (GJ (E:=λU U=>False) ea1 dr1 d1 hd) (λr s2 o=>?_) λU U h=>h.elim;obtain ⟨vs',n',q1,q2,q3,q4,q5⟩:=o;obtain ⟨j2,st2,zk⟩:=j1.aX (v:=.ol xs') H st1 hx' w q4 ⟨_,q1⟩ q5 rfl (by rw [z];rfl) hu λzk U p' r' hp' hh' U=>by obtain rfl:=bv (O.symm.trans hp');obtain rfl:=bv (l.inj hh');exact (a7 vs' ⟨a,_,n',rfl,w,q1,⟨rfl,rfl,rfl⟩,rfl⟩ (q2.ext zk))
 exact ⟨.d d,_,e3,j2,.of (q3.ext zk),st2⟩
theorem InA.tags{p:Nat}{as:List Nat}(f:∀b,O b=t->O' b=u)(I:∀b,O b=t'->O' b=u')(s:InA c O h t t' p as v vs):InA c O' h u u' p as v vs:=by obtain ⟨a,d,o,H,es,n,v,za,zd,y,z,r,l,m,j,i,k,w⟩:=s;exact ⟨a,d,o,H,es,n,v,f _ za,I _ zd,y,z,r,l,m,j,i,k,w⟩
theorem Du{us:List a4}(e:gu as us a=some r):jP as us a r=us:=by
 induction as generalizing us with
 | nil=>exact eH e
 | cons b as p=>induction us using bO with
  | nil=>exact eH e
  | cons u us=>
   induction k:b==a with
   | true=>obtain rfl:=bv ((vi k).symm.trans e).symm;exact zx k
   | false=>exact (zw k).trans (congrArg (u:: ·) (p ((vh k).symm.trans e)))
theorem InA.len{t y:Tag}{p:Nat}{as:List Nat}{v:a4}(s:InA c O h t y p as v vs):as.length=vs.length:=by obtain ⟨a,d,o,i,es,n,v,f,zd,z,u,w,r,l,m,j,k,rfl⟩:=s;simpa using k.len
def kK(t k:Nat)(O:Ow):Ow:=λb=>match O b with
 | .own y i=>if y=t/\i=k then .z else .own y i
 | u=>u
theorem EI(z:O b= .own t k):kK t k O b= .z:=by unfold kK;rw [z];exact if_pos ⟨rfl,rfl⟩
theorem vj(z:O b≠ .own t k):kK t k O b=O b:=by
 induction e:O b with
 | own y i=>exact (show kK t k O b=if y=t/\i=k then .z else .own y i by unfold kK;rw [e]).trans (if_neg λq=>z (by rw [e,q.1,q.2]))
 | _=>unfold kK;rw [e]
theorem Uc(z:kK t k O b≠ .no):O b≠ .no:=λq=>z (by unfold kK;rw [q])
theorem R1.oi{t k:Nat}{v:V}(x:R1 c O h t k v r)(p:frz v=some d):iS v=some d:=by
 induction v using bS with
 | oi=>exact x.elim
 | _=>exact p
theorem R1.ak{t k:Nat}{v:V}(x:R1 c O h t k v r)(y:own v=false)(p:iS v=some d):DR c O h d r:=by
 induction v using bS with
 | d=>cases p;exact x
 | k=>cases p;exact x
 | ol=>injection y
 | od=>injection y
 | _=>exact x.elim
inductive FldI(f:Fr)(x a:Nat)(out:Out (V×Fr)):Prop
 | oi (cl:Nat) (as:List Nat) (vs:List V) (v:V) (d:D) (h:rd f x= .oi cl as vs) (e1:gu as vs a=some v) (e2:frz v=some d) (e3:out= .ok (.d d,if own v then f.set x (.oi cl as (dG as vs a (.d d)).2) else f))
 | dd (d y:D) (h:own (rd f x)=false) (e1:frz (rd f x)=some d) (e2:mj d a=some y) (e3:out= .ok (.d y,f))
theorem YE{a:Nat}(ns:ev G (.f x a) f≠ .x):FldI f x a (ev G (.f x a) f):=by
 have p:ev G (.f x a) f=match rd f x with
  | .oi c as vs=>match fk as vs a with
   | some v=>match frz v with
    | some d=>.ok (.d d,if own v then f.set x (.oi c as (dG as vs a (.d d)).2) else f)
    | none=>.x
   | none=>.x
  | v=>match frz v with
   | some d=>(cg (mj d a)).bind λd=>.ok (.d d,f)
   | none=>.x:=rfl
 generalize u:rd f x=v at p;induction v using bS with
 | oi r as vs=>
  induction w:fk as vs a with
  | none=>rw [p] at ns;dsimp only at ns;rw [w] at ns;exact absurd rfl ns
  | some v=>dsimp only at p;rw [w] at p;exact a5 (qn p ns) λd t e=>.oi r as vs v d u (fieldAt_G.symm.trans w) t e
 | d y=>refine a5 (fF ns p) λz h e=>?_;exact .dd y z (by rw [u];rfl) (by rw [u];rfl) h e
 | k y=>refine a5 (fF ns p) λz h e=>?_;exact .dd y z (by rw [u];rfl) (by rw [u];rfl) h e
 | _=>exact absurd p ns
theorem VV(H:Gd c)(eo:EO c X Y sc Q){a:Nat}{np:c8}(hv:(x,nm)∈Q)(hn:eE nm=true)(ha:a< 10):T c G A X Y (.f x a) (.Attribute (.Name nm np) (an a) pos):=by
 intro g s j ns;cases YE ns with
 | dd d y ho n e2 t=>obtain ⟨p,r,hp,hh,m,hx⟩:=j.val (sW n);exact rS (h9 eo hv hn hp hh (c6 (F0 H (j.gi.kin H) (m.ak ho n) e2) (λU U o=>o.pv H j (.refl ..) t) λU U h=>h))
 | oi cl as vs v d h n e2 t=>
  have hu:rd g.f x≠ .u:=λq=>by rw [h] at q;injection q
  obtain ⟨p,r,hp,hh,m,hx⟩:=j.val hu;have vr':=m;rw [h] at vr';refine a5 vr' λus I F=>a5 (F.get n) λr' q1 l=>?_;have k:=l.oi e2;refine rS (h9 eo hv hn hp hh (ny H (j.gi.kin H) ha I q1 ?_ ?_))
  .have:=l.ai (λU U=>rfl) (λU U=>rfl) k;exact this.kd.handed
  by_cases ho:own v=true
  .rw [if_pos ho] at t;have hz:∀b,g.O b= .z->kK (x+1) (2+fU as a) g.O b= .z:=λb z=>(vj (by rw [z];exact λh=>by injection h)).trans z;have w:∀i b,i≠2+fU as a->g.O b= .own (x+1) i->kK (x+1) (2+fU as a) g.O b= .own (x+1) i:=λi b hi z=>(vj (by rw [z];intro q;injection q with _ q;exact hi q)).trans z;have dr:=l.ai hz (λb=>EI) k;have jn:J c X ⟨g.f.set x (.oi cl as (dG as vs a (.d d)).2),kK (x+1) (2+fU as a) g.O⟩ s.heap:=j.aH H hx (λb hc=>vj ((ja hc).2.1 _)) (λb=>Uc) (by rw [h];rfl) (.inr ⟨hu,λr m=>by
    rw [h] at m;refine a5 m λus I F=>a5 (F.get n) λr'' q1 l=>?_;have:=F.put (x:=.d d) (I.len.trans F.len.symm) (λi v u U hi=>R1.move (.tag hz) λb o z e=>⟨e,w i b hi z⟩) (l.ai hz (λb=>EI) k);rw [Du q1] at this;exact (a7 us (I.tags (λb=>w 0 b (Zx)) (λb=>w 1 b (Zy))) this)⟩)
   exact ⟨.d d,_,t,jn,.of dr,⟨.tag λb=>by
    by_cases q:g.O b= .own (x+1) (2+fU as a)
    .left;rw [q];rfl
    exact .inr (vj q),⟨rfl,rfl⟩⟩⟩
  rw [if_neg ho] at t;exact (OpR.dt (l.ak (by simpa using ho) k)).pv H j (.refl ..) t
theorem PQ(H:Gd c)(eo:EO c X Y sc Q){a:Nat}{np:c8}(hv:(x,nm)∈Q)(hn:eE nm=true)(ha:a< 10):TQ c G A X Y (.bf x a) (.Attribute (.Name nm np) (an a) pos):=by
 intro g s j ns;have u:ev G (.bf x a) g.f=match rd g.f x with
  | .oi _ as vs=>match fk as vs a with
   | some v=>match frz v with
    | some d=>.ok (.w d,g.f)
    | none=>.x
   | none=>.x
  | _=>.x:=rfl
 have t:=oz ns;generalize l:rd g.f x=v at u;induction v using bS with
 | oi cl as vs=>
  induction m:fk as vs a with
  | none=>rw [u] at t;dsimp only at t;rw [m] at t;exact absurd rfl t
  | some v=>
   dsimp only at u;rw [m] at u;refine a5 (qn u t) λd hf e=>?_;obtain ⟨p,r,hp,hh,vr,hx⟩:=j.val (λq=>by rw [l] at q;injection q);rw [l] at vr;refine a5 vr λus I F=>a5 (F.get (fieldAt_G.symm.trans m)) λr' q1 y=>?_;have i:=y.oi hf;have n:=y.ai (λU U=>rfl) (λU U=>rfl) i;refine rS (h9 eo hv hn hp hh (ny H (j.gi.kin H) ha I q1 n.kd.handed ⟨d,g,by rw [e];rfl,j,n,λb eb=>?_,⟨Step.refl c false g.O s.heap,rfl,rfl⟩,.refl _⟩));subst eb;induction v using bS with
   | d=>exact j.aC H y b rfl
   | k=>exact j.aC H y b rfl
   | ol=>refine a5 y λU o U=>?_;obtain ⟨U,U,U,q,z,U⟩:=o;obtain rfl:=ez q;exact wh H j (by rw [z];exact λh=>by injection h)
   | od=>refine a5 y λU o U=>?_;obtain ⟨U,U,U,U,q,z,U⟩:=o;obtain rfl:=ez q;exact wh H j (by rw [z];exact λh=>by injection h)
   | _=>exact y.elim
 | _=>exact absurd u t
end
theorem Qq(f:Array a4->Array a4)(o:cn):(oj f o).dict=o.dict:=by obtain ⟨U,U,d,U⟩:=o;induction d using Data.casesOn<;>rfl
abbrev Fs(fs:List cz)(b:b7):Prop:=b∈fs.filterMap (·.frame)
inductive HasTb(h:bP)(e:a4):Prop
 | mk (a:b7) (oe:cn) (vs:Array a4) (T:b7) (oT:cn) (ts:Array a4) (he:e= .ref a) (ga:h.get? a=some oe) (ev:oe.data= .fields vs) (h1:vs[1]? =some (.ref T)) (gT:h.get? T=some oT) (dT:oT.data= .fields ts) (z:3< ts.size)
section
variable {c:Cfg}{A:cy}{M:fg}{fs:List cz}{q:Bool}{O:Ow}{s s':bM}{m:Tx}{e:a4}
theorem FF.of(ff:FF fs h O){b:b7}(y:Fs fs b):Bb h O b:=by refine a5 (uH.mp y) λen he p=>Ba (ff en he) λU L k w=>?_;rw [k] at p;clear k;obtain rfl:=bv p.symm;exact w
theorem Er.turn(H:Gd c){O':Ow}{u:bP}{a d:b7}{G B:cn}{vs g:Array a4}{n:Nat}{t t':fA}(st:Step c q O s.heap O' s'.heap)(sr:SameRest s s')(j:J c (X0 fs) (g0 O') s'.heap) (ga:s'.heap.get? a=some G) (ec:G.cls= .ref c.xa) (ed:G.dict=some d) (ev:G.data= .fields vs) (gd:s'.heap.get? d=some B) (dc:B.cls= .type "dict") (dd:B.data= .dict #[⟨ib c.w.params (an 9),.str (an 9) t,.str (SS m) t'⟩] n) (na:s.heap.get? a=none) (nd:s.heap.get? d=none) (oa:O' a= .no) (o':O' d= .no) (tb:∀T,vs[1]? =some (.ref T)->s.heap.get? T=none/\O' T= .no/\∃oT ts,s'.heap.get? T=some oT/\oT.data= .fields ts) (f:∀b o,s'.heap.get? b=some o->b≠a->vs[1]? ≠some (.ref b)->¬Fs fs b->u.get? b=some o) (fr:∀b o,Fs fs b->s'.heap.get? b=some o->∃sl,u.get? b=some {o with slots:=sl}) (ae:∃i,u.get? a=some i/\i.cls=G.cls/\i.dict=G.dict/\i.data= .fields g/\1< g.size) (ht:g[1]? =some .none\/∃T,g[1]? =some (.ref T)/\TbA s.heap u O' a T):Er c fs q O s m (.ref a) {s' with heap:=u}:=by
 have nF:∀b,O' b= .no->¬Fs fs b:=λb z v=>by rcases (j.ff.of v).1 with w | w<;>rw [show (g0 O').O b=O' b from rfl,z] at w<;>injection w
 have nda:d≠a:=λw=>by rw [w,ga] at gd;clear dc;obtain rfl:=bv gd;rw [ev] at dd;injection dd
 have ndT:vs[1]? ≠some (.ref d):=λw=>by refine dm (tb d w) λU U ρ=>cU ρ λoT ts C N=>?_;rw [gd] at C;obtain rfl:=bv C;rw [N] at dd;injection dd
 have tag:∀b o,s'.heap.get? b=some o->O' b≠ .no->¬Fs fs b->u.get? b=some o:=λb o e z v=>f b o e (λw=>z (w▸oa)) (λw=>z (tb b w).2.1) v;have fld:∀b,Fs fs b->Bb u O' b:=λb v=>by exact Ba (j.ff.of v) λw o I hd=>xE (fr b o v I) λsl N=>(tO w _ N hd)
 refine ⟨O',λb o e=>?_,⟨sr.1,sr.2⟩,⟨rfl,λx p e=>by simp [X0] at e,j.gr,λb v=>?_,λe he=>?_,λx y p e=>by simp [X0] at e,λr e=>by simp [X0] at e,?_⟩,?_⟩
 .refine ck (st b o e) λo1 C Y l=>?_;by_cases v:Fs fs b
  .refine xE (fr b o1 v C) λsl N=>(cF _ N Y ?_);have w:=(j.ff.of v).1;rcases Y with Y | Y | ⟨Y,tz⟩
   .have tg':(g0 O').O b=O b:=Y;rw [tg'] at w;refine l.imp id λl=>⟨l.cls,l.dict,λh1 h2=>?_,l.data⟩;rcases w with w | w
    .exact absurd w h1
    exact absurd w h2
   .exact .inl (t8 Y q)
   rw [show (g0 O').O b=O' b from rfl,tz] at w;rcases w with w | w<;>injection w
  exact (cF o1 (f b o1 C (λw=>by rw [w,na] at e;injection e) (λw=>by rw [(tb b w).1] at e;injection e) v) Y l)
 .refine xE (j.lv b v) λo I=>?_;by_cases hf:Fs fs b
  .exact xE (fr b o hf I) λsl N=>⟨_,N⟩
  exact ⟨o,tag b o I v hf⟩
 .exact Ba (j.ff e he) λk L hL U=>(tO k L hL (fld L (uH.mpr (a7 e he hL))))
 .refine j.gi.kp H j.gr λb o I Q=>⟨tag b o I ?_ λv=>?_,rfl⟩
  .rcases Q with Q | Q<;>rw [show O' b=_ from Q]<;>exact λh=>by injection h
  rcases (j.ff.of v).1 with w | w<;>rw [w] at Q<;>rcases Q with Q | Q<;>injection Q
 exact jN ae λi w1 w2 w3 ρ=>xA ρ λw4 w5=>⟨a,i,d,B,g,n,t,t',rfl,w1,w2.trans ec,w3.trans ed,w4,w5,f d B gd nda ndT (nF d o'),dc,dd,na,nd,oa,o',ht⟩
theorem v9(H:Gd c){E:bZ}(hfr:A.frames=some fs)(hfs:fs=u::outer)(hf:env.frame=u.frame)(er:Er c fs q O s m e s') : b8 M A (noteFrame e env) (λU s''=>Er c fs q O s m e s''/\HasTb s''.heap e) E s':=by
 obtain ⟨O',st,sr,j,a,oe,d,od,vs,n,t,t',rfl,ga,ec,ed,ev,sz,gd,dc,dd,na,nd,oa,o',tb⟩:=er;refine kq (j.ff u (by rw [show (X0 fs).fs=fs from rfl,hfs];exact .head _)) λk L hL wL oL hoL hdL=>?_;have hfL:=hf.trans hL;have nF:∀b,O' b= .no->¬Fs fs b:=λb z i=>by rcases (j.ff.of i).1 with w | w<;>rw [show (g0 O').O b=O' b from rfl,z] at w<;>injection w
 have tbn:∀T,vs[1]? =some (.ref T)->s.heap.get? T=none/\O' T= .no/\T≠a/\∃oT ts,s'.heap.get? T=some oT/\oT.data= .fields ts:=λT I=>by
  rcases tb with h | ⟨T',h,oT,ts,n1,n2,n3,n4,n5,n6⟩
  .rw [h] at I;cases I
  rw [h] at I;clear h;obtain rfl:=ez (bv I.symm);exact ⟨n5,n6,n1,oT,ts,n2,n3⟩
 have nTF:∀b,Fs fs b->vs[1]? ≠some (.ref b):=λb i w=>nF b (tbn b w).2.1 i;have FFr:∀{h:bP} {l:List cz},(∀e∈l,e∈fs)->(∀b o,Fs fs b->s'.heap.get? b=some o->h.get? b=some o)->h.FunFrames {} l:=by
  intro h l hl hk;induction l with
  | nil=>trivial
  | cons e l ih=>exact kq (j.ff e (hl e (.head _))) λk L hL U o ho hd=>⟨k,(lp L o hL rfl (hk L o (uH.mpr (a7 e (hl e (.head _)) hL)) ho) hd),ih λe he=>hl e (.tail _ he)⟩
 have Y:∀(head:a4) (r:Bool) y,y.get? a=some oe->(∀b o,s'.heap.get? b=some o->vs[1]? ≠some (.ref b)->y.get? b=some o)->(∀b o,s'.heap.get? b=some o->∃o',y.get? b=some o') -> b8 M A (do let fr <-BS env;let pl <-entryPlaceOf L r;let b <-EntryCells.newEntry head fr .none (i5 L) .none pl;setField (.ref a) 1 b) (λU s''=>Er c fs q O s m (.ref a) s''/\HasTb s''.heap (.ref a)) E {s' with heap:=y}:=by
  intro head r y ha hk hl;have kF:∀b o,Fs fs b->s'.heap.get? b=some o->y.get? b=some o:=λb o i e=>hk b o e (nTF b i);have fo:∀{Q:bZ},(∀h',Heap.SlotsOnly (fs.filterMap (·.frame)) y h'->Q (.ref L) {s' with heap:=h'})->b8 M A (BS env) Q E {s' with heap:=y}:=by
   intro Q hQ;unfold BS;refine a9 (wpAny_frameEnvs hfr ?_);have hdw:(fs.dropWhile λx=>x.frame !=env.frame)=u::outer:=by rw [hfs];simp [List.dropWhile,hf]
   rw [hdw];unfold frameObject;refine a9 (a9 (wpAny_readyFrames_fun (FFr (λe he=>by rw [hfs];exact he) kF) λh₁ p=>bX ?_));rw [hL];exact bX (hQ h₁ (by rw [hfs];exact p))
  refine a9 (fo λh₁ p=>a9 (wpAny_entryPlaceOf λpl hpl=>?_));unfold EntryCells.newEntry newFields;refine a9 (jV ?_ (hpl.sizeOk5 _ _ _ _ _));generalize hw:([head,.ref L,.none,i5 L,.none]++(if pl.isEmpty then iF 6 iI else pl)).toArray=ws;have h3:3< ws.size:=by rw [<-hw];simp only [xq,ey,jE,J7];exact Zt
  have C:=(p.2.1 a (nF a oa)).trans ha;have B:=cS {cls:=.type "traceback",dict:=none,data:=.fields ws} C;refine pA B ev sz ?_;have g:=xF (gX C);have v:=pR ev (·.setIfInBounds 1 (fP h₁.objs.size));have ha₃:=kU (oj (·.setIfInBounds 1 (fP h₁.objs.size))) B (pQ v);have f:∀b,b≠a->((h₁.push {cls:=.type "traceback",dict:=none,data:=.fields ws}).update a (oj (·.setIfInBounds 1 (fP h₁.objs.size)))).get? b=(h₁.push {cls:=.type "traceback",dict:=none,data:=.fields ws}).get? b:=λb i=>Ci _ _ (k8 i);have G:=(f _ g).trans (dY h₁ rfl);have other:∀b o,b≠a->h₁.get? b=some o->((h₁.push {cls:=.type "traceback",dict:=none,data:=.fields ws}).update a (oj (·.setIfInBounds 1 (fP h₁.objs.size)))).get? b=some o:=λb o i e=>(f b i).trans (cS _ e);have nn:∀o,¬s'.heap.get? h₁.objs.size=some o:=λo e=>by exact xE (hl _ _ e) λo' e'=>xE (p.2.2 _ _ e') λsl e''=>absurd (gX e'') (Cg _)
  have new1:s.heap.get? h₁.objs.size=none:=by
   induction w:s.heap.get? h₁.objs.size with
   | none=>rfl
   | some o=>refine a5 (st _ _ w) λo' e' U=>?_;exact absurd e' (nn o')
  have new2:O' h₁.objs.size= .no:=xT λz=>by refine xE (j.lv _ z) λo e=>?_;exact nn o e
  have N:(vs.setIfInBounds 1 (fP h₁.objs.size))[1]? =some (.ref h₁.objs.size):=by rw [Array.getElem?_setIfInBounds_self_of_lt sz]
  generalize hvs:vs.setIfInBounds 1 (fP h₁.objs.size)=vs' at N;rw [hvs] at v;exact ⟨Er.turn (s':=s') H st sr j ga ec ed ev gd dc dd na nd oa o' (λT hq=>⟨(tbn T hq).1,(tbn T hq).2.1,(tbn T hq).2.2.2⟩) (λb o e n1 n2 n3=>other b o n1 ((p.2.1 b n3).trans (hk b o e n2))) (λb o i e=>xE (p.2.2 b o (kF b o i e)) λsl w=>⟨sl,other b _ (λw=>nF a oa (w▸i)) w⟩) ⟨_,ha₃,Obj.cls_mapFields _ _,Qq _ _,v,by rw [<-hvs];simpa using sz⟩ (.inr (a7 _ N ⟨_,ws,g,G,rfl,h3,new1,new2⟩)),a,_,vs',_,_,ws,rfl,ha₃,v,N,G,rfl,h3⟩
 unfold noteFrame;simp only [hfL];rcases tb with N | ⟨T,N,oT,ts,g,I,hdT,h3,hTn,hTz⟩
 .refine a9 (eD ga ev N ?_);rw [if_neg ∅];exact Y .none _ s'.heap ga (λb o e U=>e) (λb o e=>⟨o,e⟩)
 refine a9 (eD ga ev N ?_);rw [if_pos (by simp)];have h3':=JJ h3;refine a9 (eD I hdT h3' ?_);by_cases i:(ts[3]==i5 L)=true
 .rw [if_pos i];exact bX ⟨⟨O',st,sr,j,a,oe,d,od,vs,n,t,t',rfl,ga,ec,ed,ev,sz,gd,dc,dd,na,nd,oa,o',.inr (a7 T N ⟨oT,ts,g,I,hdT,h3,hTn,hTz⟩)⟩,a,oe,vs,T,oT,ts,rfl,ga,ev,N,I,hdT,h3⟩
 rw [if_neg i];refine a9 (pA I hdT h3 ?_);have hT':=kU (oj (·.setIfInBounds 3 iI)) I (pQ (pR hdT (·.setIfInBounds 3 iI)));have f:∀b,b≠T->(s'.heap.update T (oj (·.setIfInBounds 3 iI))).get? b=s'.heap.get? b:=λb i=>Ci _ _ (k8 i);refine Y (.ref T) _ _ ((f a (k8 g)).trans ga) (λb o e hn=>(f b λq=>hn (q▸N)).trans e) (λb o e=>?_);by_cases q:b=T
 .clear N g I hTn hTz f;subst q;exact ⟨_,hT'⟩
 exact ⟨o,(f b q).trans e⟩
theorem rZ(H:Gd c){E:bZ}(er:Er c fs q O s m e s')(tb:HasTb s'.heap e):b8 M A (setFlight e Q) (λU g=>Er c fs q O s m e g/\HasTb g.heap e) E s':=by
 obtain ⟨O',st,sr,j,a,oe,d,od,vs,n,t,t',rfl,v,ec,ed,ev,sz,gd,dc,dd,na,nd,oa,o',G⟩:=er;obtain ⟨a',oe',vs',T,oT,ts,r1,r2,r3,y,I,r6,r7⟩:=tb;obtain rfl:=ez r1;obtain rfl:=bv (v.symm.trans r2);obtain rfl:=Data.fields.inj (ev.symm.trans r3);have Y:T≠a/\s.heap.get? T=none/\O' T= .no:=by
  rcases G with h | ⟨T',h,U,U,x,U,U,U,n5,n6⟩
  .rw [h] at y;cases y
  rw [h] at y;obtain rfl:=ez (bv y.symm);exact ⟨x,n5,n6⟩
 refine dm Y λz l u=>?_;unfold setFlight;refine a9 (eD v ev y ?_);rw [if_pos (by simp)];refine pA I r6 r7 ?_;have k:=pR r6 (·.setIfInBounds 3 (Q.elim iI λf=>i5 f));have r:=kU (oj (·.setIfInBounds 3 (Q.elim iI λf=>i5 f))) I (pQ k);have p:∀b,b≠T->(s'.heap.update T (oj (·.setIfInBounds 3 (Q.elim iI λf=>i5 f)))).get? b=s'.heap.get? b:=λb i=>Ci _ _ (k8 i);have N:¬Fs fs T:=λi=>by rcases (j.ff.of i).1 with w | w<;>rw [show (g0 O').O T=O' T from rfl,u] at w<;>injection w
 have C:3< (ts.setIfInBounds 3 (Q.elim iI λf=>i5 f)).size:=by simpa using r7
 exact ⟨Er.turn H st sr j v ec ed ev gd dc dd na nd oa o' (λT' B=>by rw [y] at B;obtain rfl:=ez (bv B);exact ⟨l,u,oT,ts,I,r6⟩) (λb o e x n2 n3=>(p b λq=>n2 (q▸y)).trans e) (λb o i e=>⟨o.slots,(p b λq=>N (q▸i)).trans e⟩) ⟨oe,(p a (k8 z)).trans v,rfl,rfl,ev,sz⟩ (.inr (a7 T y ⟨_,_,z,r,k,C,l,u⟩)),a,oe,vs,T,_,_,rfl,(p a (k8 z)).trans v,ev,y,r,k,C⟩
end
structure CB(A:cy)(fs:List cz)(n:Nat):Prop where
 hh:A.handled=none
 un:A.units+200+100*n< mX
 dep:A.depth+20+5*n< pB
 fr:A.frames=some fs
theorem CB.ca{n:Nat}(b:CB A X.fs n):CA A X:=⟨b.hh,by have:=b.un;exact Zz this,b.fr⟩
theorem CB.mono{n m:Nat}(b:CB A fs n)(h:m<=n):CB A fs m:=⟨b.hh,by have:=b.un;exact ZA h this,by have:=b.dep;exact ZB h this,b.fr⟩
def dg(y:Nat)(O:Ow):Ow:=λb=>match O b with
 | .lo=>.fr
 | .cl=>.no
 | .own z k=>if z=y then .own 1 k else .no
 | u=>u
def Bm(w:Option Nat)(t:Tag):Tag:=match t with
 | .own 0 k=>.own 0 k
 | .own 1 k=>match w with
  | some w=>.own w k
  | none=>.no
 | .own _ _=>.no
 | .lo=>.no
 | .cl=>.no
 | u=>u
def dW(y:Nat)(w:Option Nat)(O O':Ow):Ow:=λb=>match O b with
 | .lo=>.lo
 | .cl=>.cl
 | .own z k=>if z=y then Bm w (O' b) else .own z k
 | _=>Bm w (O' b)
section
variable {c:Cfg}{X:Cx}{g:Gh}{O O':Ow}{h h':bP}{y:Nat}{w:Option Nat}{b:b7}
theorem FV(z:O b= .z):dg y O b= .z:=by unfold dg;rw [z]
theorem F3(z:O b= .gr):dg y O b= .gr:=by unfold dg;rw [z]
theorem P6(z:O b= .own y k):dg y O b= .own 1 k:=by unfold dg;rw [z];exact if_pos rfl
theorem J.out(H:Gd c)(j:J c X g h)(y:Nat):J c (X0 X.fs) (g0 (dg y g.O)) h:=by
 refine ⟨rfl,λx p e=>by simp [X0] at e,λb z=>F3 (j.gr b z),λb z=>j.lv b λe=>z (by show dg y g.O b=_;unfold dg;rw [e]),λe he=>?_,λx y p e=>by simp [X0] at e,λr e=>by simp [X0] at e,j.gi.kp H j.gr λb o e q=>⟨e,?_⟩⟩
 .refine tG (j.ff e he) λk L u t w=>(tw k L u (.inl ?_) w);show dg y g.O L=_;unfold dg;rcases t with t | t<;>rw [t]
 rcases q with q | q
 .rw [q];exact F3 q
 rw [q];exact FV q
inductive Bk(c:Cfg)(O:Ow)(h:bP)(y:Nat)(w:Option Nat)(O':Ow)(h':bP)(b:b7):Prop
 | lo (e:O b= .lo) (e1:dW y w O O' b= .lo) (e2:O' b= .fr)
 | cl (e:O b= .cl) (e1:dW y w O O' b= .cl) (e2:O' b= .no) (k:∀o,h.get? b=some o->h'.get? b=some o)
 | own (z k:Nat) (e:O b= .own z k) (hz:z≠y) (e1:dW y w O O' b= .own z k) (e2:O' b= .no) (k:∀o,h.get? b=some o->h'.get? b=some o)
 | oth (e1:dW y w O O' b=Bm w (O' b)) (e:(∃k,O b= .own y k)\/(O b≠ .lo/\O b≠ .cl/\(∀z k,O b≠ .own z k)/\dg y O b=O b))
theorem Like.no(l:Like c .no b o v):v=o:=by
 obtain ⟨p,q,u,k⟩:=l;have z:=u (λh=>by injection h) (λh=>by injection h);clear u;obtain ⟨r,t,m,j⟩:=o;obtain ⟨i,f,b3,b4⟩:=v;rcases k with k | ⟨k,U⟩ | ⟨k,U⟩
 .dsimp only at p q z k;subst p q z k;rfl
 .rcases k with k | k<;>injection k
 injection k
theorem nH(st:Step c false (dg y O) h O' h')(d:O b≠ .no->∃o,h.get? b=some o):Bk c O h y w O' h' b:=by
 have p:∀{t:Tag},O b=t->dg y O b= .no->t≠ .no->O' b= .no/\∀o,h.get? b=some o->h'.get? b=some o:=λe q hn=>by refine xE (d (by rw [e];exact hn)) λo v=>ck (st b o v) λn i u l=>?_;rw [q] at u l;refine ⟨u.resolve_right (λw=>by rcases w with w | ⟨w,U⟩<;>injection w),λs f=>?_⟩;rw [v] at f;obtain rfl:=bv f;rw [i,(l.resolve_left λw=>by injection w).no]
 induction e:O b with
 | lo=>
  refine xE (d (by rw [e];exact λh=>by injection h)) λo v=>ck (st b o v) λn i u l=>?_;have q:dg y O b= .fr:=by unfold dg;rw [e]
  rw [q] at u;exact .lo e (by unfold dW;rw [e]) (u.resolve_right λw=>by rcases w with w | ⟨w,U⟩<;>injection w)
 | cl=>exact xA (p e (by unfold dg;rw [e]) (λh=>by injection h)) λm j=>.cl e (by unfold dW;rw [e]) m j
 | own z k=>
  by_cases r:z=y
  .clear st p;subst r;exact .oth (by unfold dW;rw [e];exact if_pos rfl) (.inl ⟨k,e⟩)
  exact xA (p e (by unfold dg;rw [e];exact if_neg r) (λh=>by injection h)) λm j=>.own z k e r (by unfold dW;rw [e];exact if_neg r) m j
 | _=>exact .oth (by unfold dW;rw [e]) (.inr (by unfold dg;rw [e];exact ⟨(λh=>by injection h),(λh=>by injection h),(λU U h=>by injection h),rfl⟩))
theorem Bk.zz(k:Bk c O h y w O' h' b)(z:O' b= .z):dW y w O O' b= .z:=by
 cases k with
 | lo U U e=>rw [z] at e;injection e
 | cl U U e=>rw [z] at e;injection e
 | own U U U U U e=>rw [z] at e;injection e
 | oth e=>rw [e,z];rfl
theorem Bk.own0(k:Bk c O h y w O' h' b){i:Nat}(z:O' b= .own 0 i):dW y w O O' b= .own 0 i:=by
 cases k with
 | lo U U e=>rw [z] at e;injection e
 | cl U U e=>rw [z] at e;injection e
 | own U U U U U e=>rw [z] at e;injection e
 | oth e=>rw [e,z];rfl
theorem Bk.bc{u:Nat}(k:Bk c O h y (some u) O' h' b){i:Nat}(z:O' b= .own 1 i):dW y (some u) O O' b= .own u i:=by
 cases k with
 | lo U U e=>rw [z] at e;injection e
 | cl U U e=>rw [z] at e;injection e
 | own U U U U U e=>rw [z] at e;injection e
 | oth e=>rw [e,z];rfl
theorem oD(j:J c X g h)(st:Step c false (dg y g.O) h O' h'):Step c false g.O h (dW y w g.O O') h':=λb o e=>by
 refine ck (st b o e) λf v u l=>(a7 f v ?_);cases nH st (j.lv b) with
 | lo q q1 m=>
  rw [q,q1];have:dg y g.O b= .fr:=by unfold dg;rw [q]
  rw [this] at l;have l:=l.resolve_left λw=>by injection w
  exact ⟨.inl rfl,.inr ⟨l.cls,l.dict,λU h=>absurd rfl h,.inl (l.same (.inl ⟨(λh=>by injection h),(λh=>by injection h)⟩) (.inl λh=>by injection h))⟩⟩
 | cl q q1 m k=>rw [q,q1];clear l;obtain rfl:=bv ((k o e).symm.trans v);exact ⟨.inl rfl,.inr (.refl ..)⟩
 | own z k q U q1 m d=>rw [q,q1];exact ⟨.inl rfl,.inl rfl⟩
 | oth q1 q=>
  rcases q with ⟨k,q⟩ | ⟨i,r,t,q⟩
  .rw [q];exact ⟨.inr (.inl rfl),.inl rfl⟩
  rw [q] at u l;refine ⟨.inl ?_,l⟩;have u:=u.resolve_right λw=>by
   rcases w with w | ⟨w,U⟩
   .induction p:g.O b with
    | own z k=>exact t z k p
    | _=>rw [p] at w;injection w
   exact r w
  rw [q1,u];induction p:g.O b with
  | own z k=>exact absurd p (t z k)
  | lo=>exact absurd p i
  | cl=>exact absurd p r
  | _=>rfl
theorem Wj(j:J c X g h)(st:Step c false (dg y g.O) h O' h')(j0:J c (X0 X.fs) (g0 O') h')(p:dW y w g.O O' b≠ .no):∃o,h'.get? b=some o:=by
 by_cases q:g.O b= .no
 .refine j0.lv b λe=>p ?_;unfold dW;rw [q];rw [show O' b= .no from e];rfl
 exact xE (j.lv b q) λo e=>a5 (st b o e) λz k U=>⟨z,k⟩
theorem Wi(j:J c X g h)(st:Step c false (dg y g.O) h O' h')(z:g.O b= .gr):dW y w g.O O' b= .gr:=by refine xE (j.lv b (by rw [z];exact λh=>by injection h)) λo e=>ck (oD (w:=w) j st b o e) λq p k l=>?_;rw [z] at k;exact k.resolve_right λw=>by rcases w with w | ⟨w,U⟩<;>injection w
theorem J.bp(H:Gd c)(j:J c X g h)(st:Step c false (dg y g.O) h O' h')(j0:J c (X0 X.fs) (g0 O') h'):J c (X0 X.fs) (g0 (dW y w g.O O')) h':=by
 refine ⟨rfl,λx p e=>by simp [X0] at e,λb m=>Wi j st (j.gr b m),λb m=>Wj j st j0 m,λe he=>?_,λx y p e=>by simp [X0] at e,λr e=>by simp [X0] at e,j0.gi.kp H j0.gr λb o e q=>⟨e,?_⟩⟩
 .refine kq (j.ff e he) λk L d t o n M=>kq (j0.ff e he) λU Q u U s v i=>?_;rw [d] at u;obtain rfl:=bv u;refine (qh k L d (ck (oD (w:=w) j st L o n) λN Y f l=>?_) s v i);have f:=f.resolve_right λw=>by rcases t with t | t<;>rw [t] at w<;>rcases w with w | ⟨w,U⟩<;>injection w
  show dW y w g.O O' L= .fr\/dW y w g.O O' L= .lo;rw [f];exact t
 rcases q with q | q
 .show dW y w g.O O' b=O' b;rw [show O' b= .gr from q];cases nH st (j.lv b) with
  | lo U U e=>rw [show O' b= .gr from q] at e;injection e
  | cl U U e=>rw [show O' b= .gr from q] at e;injection e
  | own U U U U U e=>rw [show O' b= .gr from q] at e;injection e
  | oth e=>rw [e,show O' b= .gr from q];rfl
 rw [show (g0 O').O b= .z from q];exact (nH st (j.lv b)).zz q
theorem J.bk(H:Gd c)(j:J c X g h)(st:Step c false (dg y g.O) h O' h')(j0:J c (X0 X.fs) (g0 O') h'){f:Fr}(Q:f.length=g.f.length)(gI:∀x,x+1≠y->rd f x=rd g.f x) (l:∀x p,y=x+1->X.pl[x]? =some p->(∀ov,Has h p ov->Has h' p ov)->SlotR c g.O h x p (rd g.f x)->(∀b,p.at b->dW y w g.O O' b=g.O b)->SlotR c (dW y w g.O O') h' x p (rd f x)):J c X ⟨f,dW y w g.O O'⟩ h':=by
 have b0:=j.bp (w:=w) H st j0;have v:=oD (w:=w) j st;have u:∀(x:Nat) (p:Place) ov,X.pl[x]? =some p->Has h p ov->Has h' p ov:=λx p ov e d=>v.has j e d;refine ⟨Q.trans j.lf,λx p e=>?_,b0.gr,b0.lv,b0.ff,j.inj,λr e=>?_,b0.gi⟩
 .have s:=j.slot x p e;have m:∀b,p.at b->dW y w g.O O' b=g.O b:=λb m=>by
   have t:=s.place m;cases nH st (j.lv b) with
   | lo q q1=>rw [q,q1]
   | cl q q1=>rw [q,q1]
   | own z k q U q1=>rw [q,q1]
   | oth q1 q=>
    rcases q with ⟨k,q⟩ | ⟨Y,M,N,q⟩
    .rw [q] at t;rcases t with t | t | t<;>injection t
    have z:=t.resolve_left Y |>.resolve_left M;refine xE (j.lv b (by rw [z];exact λh=>by injection h)) λo i=>ck (v.zk b o z i) λA C I U=>?_;rw [z,I]
  by_cases n:x+1=y
  .exact l x p n.symm e (λov=>u x p ov e) s m
  rw [gI x n];refine s.ext v.zk (λb k o z i=>?_) m λov=>u x p ov e;cases nH st (j.lv b) with
  | lo q=>rw [z] at q;injection q
  | cl q=>rw [z] at q;injection q
  | own I B q U q1 U G=>rw [z] at q;cases q;exact ⟨G o i,q1⟩
  | oth q1 q=>
   rcases q with ⟨k,q⟩ | ⟨Y,M,N,q⟩
   .rw [z] at q;cases q;exact absurd rfl n
   exact absurd z (N _ _)
 exact a5 (j.pin r e) λp q d=>(a7 p q (u 0 p _ q d))
end
def VRs(c:Cfg)(O:Ow)(h:bP):Nat->List V->List a4->Prop
 | _,[],us=>us=[]
 | k,v::vs,us=>∃u r,us=u::r/\VR c O h k v u/\VRs c O h (k+1) vs r
inductive CallRes(c:Cfg)(fs:List cz)(O:Ow)(s:bM)(bor:Bool)(vals:List a4)(out:Out (V×V))(r:a4)(s':bM):Prop
 | mk (v b:V) (O':Ow) (e:out= .ok (v,b)) (j:J c (X0 fs) (g0 O') s'.heap) (vr:VR c O' s'.heap 0 v r) (br:bor=true->dI b=false/\∃r0 rest,vals=r0::rest/\(b= .u\/VR c O' s'.heap 1 b r0)) (st:Step c false O s.heap O' s'.heap) (sr:SameRest s s')
def CallErr(c:Cfg)(fs:List cz)(O:Ow)(s:bM)(k:Out (V×V))(e:a4)(s':bM):Prop:=∃m,k= .err m/\Er c fs false O s m e s'
def yk(c:Cfg)(fs:List cz)(O:Ow)(s:bM)(bor:Bool)(vals:List a4)(k:Out (V×V)):rJ->bM->Prop
 | .ok (.ret r),s'=>CallRes c fs O s bor vals k r s'
 | .ok _,_=>False
 | .error e,s'=>CallErr c fs O s k e s'
def ll(c:Cfg)(G:cB)(n:Nat)(f:a4)(i:Nat)(bor:Bool):Prop:=∀A fs s O k vals,CB A fs n->(∀b,O b≠ .lo/\O b≠ .cl)->J c (X0 fs) (g0 O) s.heap->VRs c O s.heap 1 k vals->(∀v∈k,dI v=false)->G i k≠ .x -> mU (b9 pw c.w) A (.call f ⟨vals,[]⟩) (yk c fs O s bor vals (G i k)) s
def zP(c:Cfg)(G:cB)(n:Nat)(l:Nat):Prop:=∀A fs s O v q ds vals,CB A fs n->(∀b,O b≠ .lo/\O b≠ .cl)->J c (X0 fs) (g0 O) s.heap->DR c O s.heap (.clo l q) v->DRs c O s.heap ds vals->G l (ds.map .d++q.map .k)≠ .x -> mU (b9 pw c.w) A (.call v ⟨vals,[]⟩) (yk c fs O s false vals (G l (ds.map .d++q.map .k))) s
structure Gf(c:Cfg):Prop where
 keep:∀i v,c.mg (c.fnm i)=some v->kZ c.K (.ref (c.fa i))=true
 ckeep:∀i,i< 3->kZ c.K (.ref (c.ca i))=true/\makesIn c.K (c.ca i)=true
section
variable {c:Cfg}{G:cB}{A:cy}{X:Cx}{Y:cz}{sc:cD}{a2:List (Nat×a6)}{g B:Gh}{h h':bP}{s s' a0:bM}{x n i:Nat}{nm:a6}{pos p:c8}{M:fg}{ce:E}{e:a8}{a1:List E}{es:List a8}{bor:Bool}
theorem DRs.aY:∀{k:Nat} {ds:List D} {vs:List a4},DRs c O h ds vs->VRs c O h k (ds.map .d) vs:=by
 intro k ds;induction ds generalizing k with
 | nil=>exact λe=>e
 | cons U U q=>exact λe=>c0 e λv r e a s=>d6 v r e a (q s)
theorem wi{ds:List D}:∀v∈ds.map eA,dI v=false:=λv k=>by refine a5 (cM.mp k) λd U q=>?_;clear k;subst q;rfl
theorem An{ds:List D}(h:dI v=false):∀w∈v::ds.map eA,dI w=false:=λw k=>by
 rcases dp.mp k with rfl | k
 .exact h
 exact wi w k
theorem Keeps.of(X:c.K.In h){f:a4}(e:kZ c.K f=true):Keeps M h f:=keeps_K e h X
theorem CallErr.pe(H:Gd c){y:Nat}{u:Out (V×V)}{x:a4}{o:Out (V×Fr)}{k:V×V->Out (V×Fr)}(j:J c X g s.heap)(st:St c false B a0 g s)(p:CallErr c X.fs (dg y g.O) s u x s')(I:o=u.bind k):Pe c X false B a0 o x s':=by
 refine a5 p λm ρ σ=>?_;clear p;subst ρ;obtain ⟨O',v,sr,j0,w⟩:=σ;refine (a7 m I (Er.lift st ⟨dW y none g.O O',oD j v,sr,j.bp H v j0,?_⟩));have r:∀b,s.heap.get? b=none->O' b= .no->dW y none g.O O' b= .no:=λb n z=>by
  have:=xT λq=>by refine xE (j.lv b q) λo e=>?_;rw [n] at e;injection e
  unfold dW;rw [this];rw [z];rfl
 obtain ⟨a,oe,d,od,vs,n,t,t',he,C,Q,N,ev,sz,gd,dc,dd,f,nd,oa,o',tb⟩:=w;exact ⟨a,oe,d,od,vs,n,t,t',he,C,Q,N,ev,sz,gd,dc,dd,f,nd,r a f oa,r d nd o',tb.imp id λ⟨T,e,w⟩=>(a7 T e (let ⟨oT,ts,n1,n2,n3,n4,l,n6⟩:=w;⟨oT,ts,n1,n2,n3,n4,l,r T l n6⟩))⟩
theorem s9(H:Gd c){q:Out (V×V)}{o:Out (V×Fr)}{k:V×V->Out (V×Fr)}{Q:bZ}(j:J c X g s.heap)(st:St c false B a0 g s)(h:mU M A (.call f ⟨vals,[]⟩) (yk c X.fs (dg y g.O) s bor vals q) s)(z:o=q.bind k) (u:∀r s',CallRes c X.fs (dg y g.O) s bor vals q r s'->Q r s'):b8 M A (call f vals) Q (Pe c X false B a0 o) s:=by
 refine rE (ux h λr s' p=>?_);induction r with
 | error e=>exact CallErr.pe H j st p z
 | ok f=>
  induction f with
  | ret v=>exact u v s' p
  | _=>exact p.elim
theorem Go(k:∀b,Bk c O h y w O' h' b)(x:VR c O' h' 0 v r):VR c (dW y w O O') h' 0 v r:=x.ext (.tag λb z=>(k b).zz z) λb i o z e=>⟨e,(k b).own0 z⟩
theorem Fp(k:∀b,Bk c O h y (some u) O' h' b)(x:VR c O' h' 1 v r):VR c (dW y (some u) O O') h' u v r:=x.ext (.tag λb z=>(k b).zz z) λb i o z e=>⟨e,(k b).bc z⟩
theorem CallRes.pv(H:Gd c){vals:List a4}{y:Out (V×V)}{o:Out (V×Fr)}{r:a4}(j:J c X g s.heap)(st:St c false B a0 g s)(p:CallRes c X.fs (dg 0 g.O) s bor vals y r s')(z:o=y.bind λq=>.ok (q.1,g.f)):Pv c X B a0 o r s':=by obtain ⟨v,b,O',rfl,j0,w,t,k,u⟩:=p;exact ⟨v,⟨g.f,dW 0 none g.O O'⟩,z,j.bk H k j0 rfl (λU U=>rfl) λx p e=>by omega,.of (Go (λb=>nH k (j.lv b)) w),⟨st.st.trans (oD j k),st.sr.trans u⟩⟩
theorem CallRes.back(H:Gd c){vals:List a4}{m:Out (V×V)}{o:Out (V×Fr)}{r C:a4}{pl:Place}(j:J c X g s.heap)(st:St c false B a0 g s)(l:X.pl[x]? =some pl)(d:Has s.heap pl (some C))(hk:dI (rd g.f x)=false)(p:CallRes c X.fs (dg (x+1) g.O) s true (C::vals) m r s')(eq:o=m.bind λq=>.ok (q.1,g.f.set x q.2)):Pv c X B a0 o r s':=by
 obtain ⟨v,b,O',rfl,j0,N,br,w,sr⟩:=p;refine fx (br rfl) λt r1 ρ=>a5 ρ λrest e1 hb=>?_;cases e1;have I:∀b,Bk c g.O s.heap (x+1) (some (x+1)) O' s'.heap b:=λb=>nH w (j.lv b);refine ⟨v,⟨g.f.set x b,dW (x+1) (some (x+1)) g.O O'⟩,eq,j.bk H w j0 (by simp) (λz hz=>oW b λq=>hz (by rw [q])) λz p' e y k Q u=>?_,.of (Go I N),⟨st.st.trans (oD j w),st.sr.trans sr⟩⟩;obtain rfl:=iX e;obtain rfl:=bv (l.symm.trans y);rw [sQ b (j.aq l)];refine ⟨λe=>?_,λL nm e=>?_,λa e=>?_,λe=>(a7 _ (k _ d) (hb.imp id λN=>(a7 _ rfl (Fp I N))))⟩
 .clear l k u y Q;subst e;exact d.elim
 .clear l d k y;subst e;rw [u L rfl];exact ⟨(Q.loc L nm rfl).1,t⟩
 clear l d k y;subst e;rw [u a rfl,Q.cel a rfl,hk,t]
theorem qm(y:Nat)(O:Ow)(b:b7):dg y O b≠ .lo/\dg y O b≠ .cl:=by
 unfold dg;induction O b with
 | own z k=>dsimp only;split<;>exact ⟨(λh=>by injection h),λh=>by injection h⟩
 | _=>exact ⟨(λh=>by injection h),λh=>by injection h⟩
theorem qx:ZK c O h (dg y O) h:=.tag λb z=>FV z
theorem VRs.ba{y:Nat}(a:VR c O h y v r)(b:DRs c O h ds vs):VRs c (dg y O) h 1 (v::ds.map .d) (r::vs):=(d6 r vs rfl (a.ext qx λb k o z e=>⟨e,P6 z⟩) ((b.ext qx).aY))
theorem yT{Q:bZ}{E:bZ}(H:Gd c)(F:Gf c)(y:GI c O s.heap)(q:EO c X Y sc a2)(hn:f7 sc (c.fnm i)=true)(z:(c.mg (c.fnm i)).isSome=true)(h:kZ c.K (.ref (c.fa i))=true->Q (.ref (c.fa i)) s):b8 M A (eu (.Name (c.fnm i) pos) Y) Q E s:=by refine xE (lS.mp z) λv k=>?_;have u:=F.keep i v k;obtain rfl:=H.fnm i v k;exact oC H y q hn k (h u)
theorem Fl(H:Gd c)(F:Gf c)(u:EO c X Y sc a2)(cb:CB A X.fs n)(K:ll c G n (.ref (c.fa i)) i bor)(hn:f7 sc (c.fnm i)=true)(w:(c.mg (c.fnm i)).isSome=true)(t:TL c G A X Y a1 es):T c G A X Y (.call i a1) (.Call (.Name (c.fnm i) p) es [] pos):=λg s j ns=>l0 rfl (yT H F j.gi u hn w λl=>oU H t j (.refl ..) rfl ns λds v vs m q z k U y=>⟨.of (q.gi.kin H) l,s9 H q k (K A X.fs m (dg 0 v.O) _ _ cb (qm _ _) (q.out H 0) (z.ext qx).aY wi (iZ ns y)) y λr s' p=>p.pv H q k y⟩)
theorem yb(hs:∀a p,e≠ .Starred a p)(t:TL c G A X Y a1 es):((mW pos (mS (e::es) Y)).any (·.1)||([]:List (Option a6×Sem a4)).any (·.1.isNone))=false:=by rw [iK hs];simpa using t.plain
def noT(O:Ow):Ow:=λb=>match O b with
 | .own x k=>if x=0 then .no else .own x k
 | u=>u
def lH(O O':Ow):Ow:=λb=>match O b with
 | .own x k=>if x=0 then .own 0 k else O' b
 | _=>O' b
theorem EW(z:O b= .own 0 k):noT O b= .no:=by unfold noT;rw [z];rfl
set_option tactic.hygienic true in
theorem vo(z:∀k,O b≠ .own 0 k):noT O b=O b:=by
 unfold noT;split
 .rename_i x k e;rw [if_neg (λq=>z k (by rw [e,q])),e]
 rfl
theorem Sf(z:O b= .own 0 k):lH O O' b= .own 0 k:=by unfold lH;rw [z];rfl
set_option tactic.hygienic true in
theorem sF(z:∀k,O b≠ .own 0 k):lH O O' b=O' b:=by
 unfold lH;split
 .rename_i x k e;rw [if_neg (λq=>z k (by rw [e,q]))]
 rfl
theorem J.noT(H:Gd c)(j:J c X g h):J c X ⟨g.f,noT g.O⟩ h:=j.aF H (λb o e y=>⟨e,vo (ja y).1⟩) λb k=>j.lv b λq=>k (by unfold Internal.noT;rw [q])
theorem own0(O:Ow)(b:b7):(∃k,O b= .own 0 k)\/∀k,O b≠ .own 0 k:=(uX _).imp id not_exists.mp
inductive Rs(c:Cfg)(X:Cx)(g g':Gh)(s s':bM)(v:V)(r:a4):Prop
 | mk (j:J c X ⟨g'.f,lH g.O g'.O⟩ s'.heap) (vr:VR c (lH g.O g'.O) s'.heap 0 v r) (st:St c false g s ⟨g'.f,lH g.O g'.O⟩ s')
theorem Se(H:Gd c)(j:J c X g s.heap)(Q:J c X y s'.heap)(st:St c false ⟨g.f,Internal.noT g.O⟩ s y s')(C:VR c g.O s.heap 0 v r):Rs c X g y s s' v r:=by
 have own:∀b k o,g.O b= .own 0 k->s.heap.get? b=some o->s'.heap.get? b=some o/\y.O b= .no:=λb k o z e=>by refine ck (st.st b o e) λu q t l=>?_;rw [show (⟨g.f,Internal.noT g.O⟩:Gh).O b= .no from EW z] at t l;exact ⟨by rw [q,(l.resolve_left λw=>by injection w).no],t.resolve_right λw=>by rcases w with w | ⟨w,U⟩<;>injection w⟩
 refine ⟨Q.aF H (λb o e I=>⟨e,sF λk z=>?_⟩) λb N=>?_,C.ext (λb o z e=>?_) λb k o z e=>⟨(own b k o z e).1,Sf z⟩,λb o e=>?_,st.sr⟩
 .exact xE (j.lv b (by rw [z];exact λh=>by injection h)) λm d=>(ja I).2.2 (own b k m z d).2
 .rcases own0 g.O b with ⟨k,z⟩ | z
  .exact xE (j.lv b (by rw [z];exact λh=>by injection h)) λm d=>⟨m,(own b k m z d).1⟩
  exact Q.lv b (by rw [<-sF (O':=y.O) z];exact N)
 .exact ck (st.st.zk b o (by rw [show (⟨g.f,Internal.noT g.O⟩:Gh).O b=g.O b from vo (by rw [z];exact λk h=>by injection h)];exact z) e) λu q a l=>(cF u q (by rw [sF (by rw [z];exact λk h=>by injection h)];exact a) l)
 refine ck (st.st b o e) λu q t l=>?_;rcases own0 g.O b with ⟨k,z⟩ | z
 .rw [z];exact (cF u q (.inr (.inl rfl)) (.inl rfl))
 rw [show (⟨g.f,Internal.noT g.O⟩:Gh).O b=g.O b from vo z] at t l;exact (cF u q (by show Tg (g.O b) (lH g.O y.O b);rw [sF z];exact t) l)
theorem Q2(H:Gd c)(F:Gf c)(N:EO c X Y sc a2)(cb:CB A X.fs n)(K:ll c G n (.ref (c.fa i)) i bor)(hn:f7 sc (c.fnm i)=true)(hf:(c.mg (c.fnm i)).isSome=true)(hs:∀a p,e≠ .Starred a p)(te:T c G A X Y ce e)(t:TL c G A X Y a1 es) : T c G A X Y (.co i ce a1) (.Call (.Name (c.fnm i) p) (e::es) [] pos):=λg s j ns=>l0 rfl (yT H F j.gi N hn hf λhk=>og (P:=λh=>Keeps (b9 pw c.w) h (.ref (c.fa i))) (yb hs t) (λh x=>x) (by
  rw [iK hs];refine on (oq (te.v j (.refl ..) rfl ns λv y r s1 hv I vr1 u e1=>?_));have stn:St c false y s1 ⟨y.f,Internal.noT y.O⟩ s1:=⟨.tag λb=>(own0 y.O b).imp (λ⟨k,z⟩=>by rw [z];rfl) vo,rfl,rfl⟩;refine pW H t (I.noT H) (u.trans stn) e1 ns λds g2 vs s2 j2 d2 U U sx Q=>⟨.of (j2.gi.kin H) hk,?_⟩;obtain ⟨C,vr3,d⟩:=Se H I j2 sx vr1;have d3:DRs c (lH y.O g2.O) s2.heap ds vs:=d2.ext (.tag λb z=>by
   rcases own0 y.O b with ⟨k,q⟩ | q
   .refine xE (I.lv b (by rw [q];exact λh=>by injection h)) λo N=>ck (sx.st b o N) λo' e' m l=>?_;rw [show (⟨y.f,Internal.noT y.O⟩:Gh).O b= .no from EW q,z] at m;rcases m with m | m | ⟨m,U⟩<;>injection m
   rw [sF q];exact z)
  exact s9 H C (u.trans d) (K A X.fs s2 (dg 0 (lH y.O g2.O)) _ _ cb (qm _ _) (C.out H 0) (VRs.ba vr3 d3) (An (yI hv)) (iZ ns Q)) Q λr s' p=>p.pv H C (u.trans d) Q))
theorem Oq(h:mu v=false):v≠ .u/\dI v=false:=by refine ⟨(λq=>by rw [q] at h;injection h),?_⟩;induction v using bS<;>first | rfl | injection h
theorem FW{q:Type}{b:Bool}{x y:Out q}{k:Out q}(e:k=if b=true then x else y)(z:x= .x)(ns:k≠ .x):b=false/\k=y:=by
 induction b with
 | true=>exact absurd (e.trans z) ns
 | false=>exact ⟨rfl,e⟩
theorem Eu(H:Gd c)(cb:CB A X.fs n)(K:ll c G n f i true){o:Out (V×Fr)}(j:J c X g s.heap)(st:St c false B a0 g s)(d:DRs c g.O s.heap ds vs)(t:X.pl[x]? =some pl)(v:Has s.heap pl (some Q))(ns:o≠ .x) (m:o=if mu (rd g.f x)=true then .x else (G i (rd g.f x::ds.map .d)).bind λq=>.ok (q.1,g.f.set x q.2)):b8 (b9 pw c.w) A (call f (Q::vs)) (Pv c X B a0 o) (Pe c X false B a0 o) s:=by refine xA (FW m rfl ns) λl k=>xA (Oq l) λN k1=>?_;obtain ⟨I,C,z,y,u,U⟩:=j.val N;obtain rfl:=bv (t.symm.trans z);obtain rfl:=bv (v.inj y);exact s9 H j st (K A X.fs s (dg (x+1) g.O) _ _ cb (qm _ _) (j.out H (x+1)) (VRs.ba u d) (An k1) (iZ ns k)) k λr s' q=>q.back H j st t v k1 k
theorem Q1(H:Gd c)(F:Gf c)(l:EO c X Y sc a2)(cb:CB A X.fs n)(K:ll c G n (.ref (c.fa i)) i true){d:c8}(hn:f7 sc (c.fnm i)=true)(O:(c.mg (c.fnm i)).isSome=true)(hv:(x,nm)∈a2)(k:eE nm=true)(t:TL c G A X Y a1 es) : T c G A X Y (.cb i x a1) (.Call (.Name (c.fnm i) p) (.Name nm d::es) [] pos):=λg s j ns=>by
 refine xA (FW rfl rfl ns) λv N=>?_;have b:rd g.f x≠ .u:=λq=>by rw [q] at v;injection v
 have hs:∀a p,Expr.Name nm d≠ .Starred a p:=λU U q=>by injection q
 obtain ⟨pl,r,y,m,U,U⟩:=j.val b;exact l0 rfl (yT H F j.gi l hn O λC=>og (P:=λh=>Keeps (b9 pw c.w) h (.ref (c.fa i))) (yb hs t) (λh x=>x) (by rw [iK hs];exact on (oq (h9 l hv k y m (pW H t j (.refl ..) N ns λds g1 vs s1 o Q U z sx I=>⟨.of (o.gi.kin H) C,Eu H cb K o z Q y (sx.has j y m) ns I⟩)))))
structure MethOk(c:Cfg)(nm:a6)(i:Nat):Prop where
 find:jo c.K (.ref (c.ca 2)) nm=some (some (.ref (c.fa i)))
 typ:typeIn c.K (.ref (c.fa i))=some (.type "function")
 ne:∀a,(SS (gO a)==nm)=false
 keep:kZ c.K (.ref (c.fa i))=true
theorem RT{k:Out (V×Fr)}{q:Out (V×Fr)}(e:q=if pn v=true then k else .x)(ns:q≠ .x):∃as vs,v= .oi 2 as vs/\q=k:=by
 induction h:pn v with
 | false=>rw [h] at e;exact absurd e ns
 | true=>
  rw [h] at e;induction v using bS with
  | oi c as vs=>rcases c with U | U | U | c<;>first | exact ff h | exact dU _ _ rfl e
  | _=>exact ff h
theorem TA(H:Gd c)(eo:EO c X Y sc a2)(cb:CB A X.fs n)(K:ll c G n (.ref (c.fa i)) i true){np y:c8}(l:MethOk c mn i)(hv:(x,nm)∈a2)(f:eE nm=true)(u:(y.endLine==pos.line)=true)(v:es.length< 30)(t:TL c G A X Y a1 es) : T c G A X Y (.meth i x a1) (.Call (.Attribute (.Name nm np) mn y) es [] pos):=by
 refine λg s j ns=>cU (RT rfl ns) λas vs O e1=>?_;obtain ⟨pl,r,Q,a,vr,U⟩:=j.val (λq=>by rw [q] at O;injection O);rw [O] at vr;refine a5 vr λus ρ U=>?_;obtain ⟨ad,d,o,od,es',m,rfl,U,U,q1,q2,q3,q4,q5,U,q7,k,U⟩:=ρ;rw [arm_eval_Call,ve rfl];refine a9 (h9 eo hv f Q a (a9 (o3 ?_)));have z:methodCallForm (es.length+([]:List pD).length) (mW pos (mS es Y)) (backToKw pos (keywordEach [] Y))=true:=z9 t v;have w:methodCallPos true (.Name nm np) Y y pos=pure pos:=by unfold methodCallPos;simp [u]
 unfold methodCall;rw [z];have b:=plainGet_of (H.cls 2).get;refine a5 (Oh (λU=>false) l.ne k) λr0 hl N=>?_;obtain rfl:=N λU=>rfl;have I:InstAt s.heap ad o (c.ca 2) (some od):=⟨q1,q2,by unfold pP;rw [q4],by rw [q3];exact q5⟩;exact a9 (gQ (method_fn (j.gi.kin H) I b.1 b.2 l.find l.typ (by show (lookIn mn od).map _=_;unfold lookIn;rw [q7];exact congrArg _ hl) (a9 (pC w (oU H t j (.refl ..) e1 ns λds g1 vs s1 j1 d1 C sx e2=>⟨.of (j1.gi.kin H) l.keep,Eu H cb K j1 C d1 Q (sx.has j Q a) ns e2⟩)))))
theorem NN(r:DR c O h (.clo l w) v):Keeps M h v:=by refine a5 r λU u U=>?_;obtain ⟨a,o,T,fd,q,k,rfl,z,m,e,t,y,U⟩:=u;refine (a7 .frame (.inl rfl) ((Looks.ld e).andThen ?_));rw [y];exact .now
def Qk(G:cB)(d:D)(ds:List D)(f:Fr):Out (V×Fr):=match d with
  | .fn g=>if g< dP then (G g (ds.map .d)).bind λs=>.ok (s.1,f) else .x
  | .clo l q=>(G l (ds.map .d++q.map .k)).bind λs=>.ok (s.1,f)
  | _=>.x
inductive Fnv(G:cB)(d:D)(ds:List D)(f:Fr)(out:Out (V×Fr)):Prop
 | fn (i:Nat) (e:d= .fn i) (h:i< dP) (eq:out=(G i (ds.map .d)).bind λs=>.ok (s.1,f))
 | clo (l:Nat) (cs:List D) (e:d= .clo l cs) (eq:out=(G l (ds.map .d++cs.map .k)).bind λs=>.ok (s.1,f))
theorem fnv(e:out=Qk G d ds f)(ns:out≠ .x):Fnv G d ds f out:=by
 induction d using c7 with
 | fn i=>
  by_cases k:i< dP
  .exact .fn i rfl k (e.trans (if_pos k))
  exact absurd (e.trans (if_neg k)) ns
 | clo l q=>exact .clo l q rfl e
 | _=>exact absurd e ns
theorem Q3(H:Gd c)(cb:CB A X.fs n)(hk:∀i,i< dP->kZ c.K (.ref (c.fa i))=true)(K:∀i,i< dP->G i≠(λU=>.x)->∃bor,ll c G n (.ref (c.fa i)) i bor)(KC:∀l T,c.lam l=some T->zP c G n l){u:a6} (te:T c G A X Y ce (.Name u p)) (t:TL c G A X Y a1 es):T c G A X Y (.cv ce a1) (.Call (.Name u p) es [] pos):=λg s j ns=>l0 rfl (te.d H j (.refl ..) rfl ns λd g1 f s1 j1 N Q U m=>oU H t j1 Q m ns λds C vs a z I y sx o=>by
  have w:=sx.dr N;cases fnv o ns with
  | fn i e b k=>clear m o;subst e;clear N;obtain rfl:=show f= .ref (c.fa i) from w;exact xE (K i b (λq=>by rw [q] at k;exact ns k)) λbor K=>⟨.of (z.gi.kin H) (hk i b),s9 H z y (K A X.fs a (dg 0 C.O) _ _ cb (qm _ _) (z.out H 0) (I.ext qx).aY wi (iZ ns k)) k λr s' p=>p.pv H z y k⟩
  | clo l cs e k=>
   clear N m o;subst e;have v:∃T,c.lam l=some T:=by refine a5 w λU ρ U=>?_;obtain ⟨U,U,T,U,U,U,U,U,v,U⟩:=ρ;exact ⟨T,v⟩
   exact xE v λT v=>⟨NN w,s9 H z y (KC l T v A X.fs a (dg 0 C.O) f cs ds vs cb (qm _ _) (z.out H 0) (w.ext qx) (I.ext qx) (iZ ns k)) k λr s' p=>p.pv H z y k⟩)
structure Gn(c:Cfg):Prop where
 init:∀i,i< 3->jo c.K (.ref (c.ca i)) "__init__" =some (some (.ref (c.fa (nW i))))/\typeIn c.K (.ref (c.fa (nW i)))=some (.type "function")
theorem Rf(h:u<=100)(b:a+200+100*(n+1)< mX):a+u+200+100*n< mX:=(ZC h b)
theorem OE(h:u<=5)(b:a+20+5*(n+1)< pB):a+u+20+5*n< pB:=(ZE h b)
theorem D8{kw:List (a6×a4)}(b:CB A fs (n+1)):CB (A.under (.builtin "type.__call__" ⟨.ref C::rest,kw⟩)) fs n:=by have w:(CJ "type.__call__" ⟨.ref C::rest,kw⟩).weight<=5:=uL (by induction rest using bO<;>kernel_rfl);have u:(CJ "type.__call__" ⟨.ref C::rest,kw⟩).cUnits<=100:=uL (by clear w;induction rest using bO<;>kernel_rfl);exact ⟨b.hh,Rf u b.un,OE w b.dep,(congrArg (pushEnvs (CJ "type.__call__" ⟨.ref C::rest,kw⟩).envs) b.fr:_).trans rfl⟩
inductive NewI(i:Nat)(q:V×V)(f:Fr)(out:Out (V×Fr)):Prop
 | mk (e1:q.1= .d .none) (hv:qI q.2=true) (e2:out= .ok (q.2,f))
theorem YV{q:V×V}(e:out=match q.1 with | .d .none=>eh (q.2,f) | _=>.x)(ns:out≠ .x):NewI i q f out:=by
 obtain ⟨v,b⟩:=q;induction v using bS with
 | d d=>induction d using c7 with
  | none=>have e:out=eh (b,f):=e;have k:=se (by rw [<-e];exact ns);exact ⟨rfl,k,by rw [e,sd _ k]⟩
  | _=>exact absurd e ns
 | _=>exact absurd e ns
theorem LN(H:Gd c)(i:Nat)(j:J c X g y):∃O,J c X ⟨g.f,O⟩ ((y.push lU).push (lV (c.ca i) y.objs.size))/\VR c O ((y.push lU).push (lV (c.ca i) y.objs.size)) 0 (.oi i [] []) (.ref (y.objs.size+1))/\(∀b o,y.get? b=some o->O b=g.O b)/\Kp y ((y.push lU).push (lV (c.ca i) y.objs.size)):=by
 have k:Kp y ((y.push lU).push (lV (c.ca i) y.objs.size)):=(gm _ _).trans (gm _ _);have t:y.get? y.objs.size=none:=ig _;have l:y.get? (y.objs.size+1)=none:=by
  induction q:y.get? (y.objs.size+1) with
  | none=>rfl
  | some o=>exact absurd (gX q) (nh.mpr (kT _))
 have v:((y.push lU).push (lV (c.ca i) y.objs.size)).get? (y.objs.size+1)=some (lV (c.ca i) y.objs.size):=by
  have:=dY (y.push lU) (o:=lV (c.ca i) y.objs.size) rfl
  rwa [pL] at this
 have w:((y.push lU).push (lV (c.ca i) y.objs.size)).get? y.objs.size=some lU:=cS _ (dY _ rfl);have z:∀b o,y.get? b=some o->cO (cO g.O y.objs.size (.own 0 1)) (y.objs.size+1) (.own 0 0) b=g.O b:=λb o e=>by rw [dB (λq=>by rw [q,l] at e;injection e),dB (λq=>by rw [q,t] at e;injection e)]
 refine (js (cO (cO g.O y.objs.size (.own 0 1)) (y.objs.size+1) (.own 0 0)) (j.aF H (λb o e U=>⟨k b o e,z b o e⟩) λb u=>?_) (a7 [] ⟨y.objs.size+1,y.objs.size,_,_,#[],0,rfl,fR,?_,v,rfl,rfl,rfl,w,rfl,rfl,rfl,rfl⟩ rfl) z k)
 .by_cases q1:b=y.objs.size+1
  .rw [q1];exact ⟨_,v⟩
  rw [dB q1] at u;by_cases r:b=y.objs.size
  .rw [r];exact ⟨_,w⟩
  rw [dB r] at u;exact xE (j.lv b u) λo e=>⟨o,k b o e⟩
 rw [dB (jl (uN _)),fR]
theorem W2(H:Gd c)(F:Gf c)(N:Gn c)(eo:EO c X Y sc a2)(cb:CB A X.fs (n+1))(m:i< 3)(K:ll c G n (.ref (c.fa (nW i))) (nW i) true)(hn:f7 sc (c.cnm i)=true)(t:TL c G A X Y a1 es):T c G A X Y (.new i a1) (.Call (.Name (c.cnm i) p) es [] pos):=λg s j ns=>l0 rfl (oC H j.gi eo hn (H.cnm i m) (oU H t j (.refl ..) rfl ns λds g1 vs s1 j1 d1 C U l=>⟨.of (j1.gi.kin H) (F.ckeep i m).1,by
  have l:=l.trans (if_pos m);refine xA (N.init i m) λi1 i2=>?_;have X1:=j1.gi.kin H;obtain ⟨a,y,dr,tk,os⟩:=s1;refine rE (make_core (makes_of X1 (F.ckeep i m).2) (xM X1 i1) (λI=>bind_fn X1 I i2) (.inl rfl) (jN (LN H i j1) λO d vr Q k=>?_));have w:St c false g s ⟨g1.f,O⟩ ⟨(a.push lU).push (lV (c.ca i) a.objs.size),y,dr,tk,os⟩:=⟨C.st.trans (k.step c false _ _ Q),C.sr⟩;refine ux (K _ X.fs ⟨(a.push lU).push (lV (c.ca i) a.objs.size),y,dr,tk,os⟩ (dg 0 O) _ _ (D8 cb) (qm _ _) (d.out H 0) (VRs.ba vr (d1.ext λb o z e=>(cF o (k b o e) ((Q b o e).trans z) (.refl ..)))) (An rfl) (iZ ns l)) λr s' q=>?_;induction r with
  | error e=>exact CallErr.pe H d w q l
  | ok f=>
   induction f with
   | ret r=>
    obtain ⟨v,b,O',eo,j0,vr',br,u,sr⟩:=q;rw [eo] at l;obtain ⟨rfl,hv,e2⟩:=YV (i:=i) l ns;refine fx (br rfl) λhkb r0 ρ=>a5 ρ λrest er hb=>?_;cases er;refine ⟨show r= .none from vr',b,⟨g1.f,dW 0 (some 0) O O'⟩,e2,J.bk H d u j0 rfl (λU U=>rfl) λx p e=>by omega,.of (Fp (λb=>nH u (d.lv b)) (hb.resolve_left λq=>by rw [show b=_ from q] at hv;injection hv)),⟨w.st.trans (oD d u),w.sr.trans sr⟩⟩
   | _=>exact q.elim⟩))
end
section
variable {prog:rF}{w:cQ}{A:cy}{E:bZ}{s:bM}
theorem NV{items}{Q:Option a4->bM->Prop}(u:A.handled=none) (k:s.heap.IsListIter it l i) (r:s.heap.IsList l items) (t:items[i]? =none) (v:∀h',rL it s.heap h'->(∃o,h'.get? it=some o)->Q none {s with heap:=h'}):b8 (b9 prog w) A (gE (.ref it)) Q E s:=by
 refine ck (id k) λo q j p=>?_;refine ck r λg z U m=>xE m λf y=>?_;unfold gE;refine a9 (o4 (o0 k.typeIs slot_listiter_next (lK slot_listiter_next k.typeIs entry_listiter_next ?_ (args_listiter_next _))));show b8 _ _ (lO (.ref it) 0 >>=_) _ _ s;refine a9 (eD q p rfl ?_);show b8 _ _ (if (fP l==iI)=true then _ else _) _ _ s;rw [if_neg (show ¬((fP l==iI)=true) from gG)];refine a9 (eD q p rfl ?_);refine a9 (mR z y ?_);simp only [kW,t];refine a9 (o5 (a9 (pA q p (by simp) ?_)));refine a9 ?_;simp only [newExc,uB];refine a9 (jV ?_ (by size_fits));refine a9 (pC (by first | rfl | (simp only [rA];rfl)) ?_);refine jV ?_ (by size_fits);refine a9 (uv ?_);first | rw [show A.in1.handled=none from u] | rw [u]
 refine a9 (bX (rD ?_));refine a9 (rv (a7 _ (dY _ rfl) rfl) rz ?_);exact bX (v _ (((lW ..).extBut.push _).push _) ⟨_,cS _ (cS _ (kU _ q (pQ (pR p _))))⟩)
theorem Mz{items}{Q:Option a4->bM->Prop}(u:A.handled=none) (k:s.heap.IsTupleIter it t i) (r:s.heap.IsTuple t items) (l:items[i]? =none) (v:∀h',rL it s.heap h'->(∃o,h'.get? it=some o)->Q none {s with heap:=h'}):b8 (b9 prog w) A (gE (.ref it)) Q E s:=by
 refine ck (id k) λo q j p=>?_;refine ck r λg z U m=>xE m λf y=>?_;unfold gE;refine a9 (o4 (o0 k.typeIs JA (lK JA k.typeIs F.entry_tuple_iterator_next ?_ (F.args_tuple_iterator_next_1 _))));show b8 _ _ (lO (.ref it) 0 >>=_) _ _ s;refine a9 (eD q p rfl ?_);show b8 _ _ (if (fP t==iI)=true then _ else _) _ _ s;rw [if_neg (show ¬((fP t==iI)=true) from gG)];refine a9 (eD q p rfl ?_);refine a9 (mR z y ?_);simp only [kW,l];refine a9 (o5 (a9 (pA q p (by simp) ?_)));refine a9 ?_;simp only [newExc,uB];refine a9 (jV ?_ (by size_fits));refine a9 (pC (by first | rfl | (simp only [rA];rfl)) ?_);refine jV ?_ (by size_fits);refine a9 (uv ?_);first | rw [show A.in1.handled=none from u] | rw [u]
 refine a9 (bX (rD ?_));refine a9 (rv (a7 _ (dY _ rfl) rfl) rz ?_);exact bX (v _ (((lW ..).extBut.push _).push _) ⟨_,cS _ (cS _ (kU _ q (pQ (pR p _))))⟩)
theorem My{x left fZ:Int}{Q:Option a4->bM->Prop}(y:A.handled=none)(k:IsRangeIter s.heap it x left fZ)(p:left<=0) (z:∀h',rL it s.heap h'->(∃o,h'.get? it=some o)->Q none {s with heap:=h'}):b8 (b9 prog w) A (gE (.ref it)) Q E s:=by
 have q:s.TypeIs (.ref it) "range_iterator" :=(a7 _ k rfl);unfold gE;refine a9 (o4 (o0 q JB (lK JB q F.entry_range_iterator_next ?_ (F.args_range_iterator_next_1 _))));show b8 _ _ (lO (.ref it) 0 >>=_) _ _ s;refine a9 (eD k rfl rfl ?_);refine a9 (eD k rfl rfl ?_);refine a9 (eD k rfl rfl ?_);show b8 _ _ (if left<=0 then _ else _) _ _ s;rw [if_pos p];refine a9 (o5 ?_);refine a9 ?_;refine a9 ?_;simp only [newExc,uB];refine a9 (jV ?_ (by size_fits));refine a9 (pC (by first | rfl | (simp only [rA];rfl)) ?_);refine jV ?_ (by size_fits);refine a9 (uv ?_);first | rw [show A.in1.handled=none from y] | rw [y]
 refine a9 (bX (rD ?_));refine a9 (rv (a7 _ (dY _ rfl) rfl) rz ?_);exact bX (z _ (((Heap.ExtBut.refl it s.heap).push _).push _) ⟨_,cS _ (cS _ k)⟩)
theorem Mx{Q:Option a4->bM->Prop}(y:A.handled=none) (k:s.heap.IsStrIter it "str_ascii_iterator" x t i) (u:x.cps[i]? =none) (z:∀h',rL it s.heap h'->(∃o,h'.get? it=some o)->Q none {s with heap:=h'}):b8 (b9 prog w) A (gE (.ref it)) Q E s:=by
 refine ck (id k) λo q v p=>?_;unfold gE;refine a9 (o4 (o0 k.typeIs Jy (lK Jy k.typeIs F.entry_str_ascii_iterator_next ?_ (F.args_str_ascii_iterator_next_1 _))));show b8 _ _ (lO (.ref it) 0 >>=_) _ _ s;refine a9 (eD q p rfl ?_);show b8 _ _ (lO (.ref it) 1 >>=_) _ _ s;refine a9 (eD q p (x:=.int i 0) rfl ?_);simp only [kW,u];refine a9 (o5 (a9 (pA q p (by simp) (a9 (xe ?_)))));refine a9 ?_;simp only [newExc,uB];refine a9 (jV ?_ (by size_fits));refine a9 (pC (by first | rfl | (simp only [rA];rfl)) ?_);refine jV ?_ (by size_fits);refine a9 (uv ?_);first | rw [show A.in1.handled=none from y] | rw [y]
 refine a9 (bX (rD ?_));refine a9 (rv (a7 _ (dY _ rfl) rfl) rz ?_);exact bX (z _ (((lW ..).extBut.push _).push _) ⟨_,cS _ (cS _ (kU _ q (pQ (pR p _))))⟩)
theorem NW{Q:Option a4->bM->Prop}(y:A.handled=none) (k:s.heap.IsStrIter it "str_iterator" x t i) (u:x.cps[i]? =none) (z:∀h',rL it s.heap h'->(∃o,h'.get? it=some o)->Q none {s with heap:=h'}):b8 (b9 prog w) A (gE (.ref it)) Q E s:=by
 refine ck (id k) λo q v p=>?_;unfold gE;refine a9 (o4 (o0 k.typeIs JD (lK JD k.typeIs F.entry_str_iterator_next ?_ (F.args_str_iterator_next_1 _))));show b8 _ _ (lO (.ref it) 0 >>=_) _ _ s;refine a9 (eD q p rfl ?_);show b8 _ _ (lO (.ref it) 1 >>=_) _ _ s;refine a9 (eD q p (x:=.int i 0) rfl ?_);simp only [kW,u];refine a9 (o5 (a9 (pA q p (by simp) (a9 (xe ?_)))));refine a9 ?_;simp only [newExc,uB];refine a9 (jV ?_ (by size_fits));refine a9 (pC (by first | rfl | (simp only [rA];rfl)) ?_);refine jV ?_ (by size_fits);refine a9 (uv ?_);first | rw [show A.in1.handled=none from y] | rw [y]
 refine a9 (bX (rD ?_));refine a9 (rv (a7 _ (dY _ rfl) rfl) rz ?_);exact bX (z _ (((lW ..).extBut.push _).push _) ⟨_,cS _ (cS _ (kU _ q (pQ (pR p _))))⟩)
end
def Dt(n:String):Bool:=!["enumerate","zip","dict_itemiterator","dict_reverseitemiterator","odict_iterator","itertools.zip_longest","itertools.pairwise"].contains n
theorem sp{E:bZ}{n:String}{Q:Unit->bM->Prop}(z:s.heap.get? I=some o)(q:o.cls= .type n)(y:o.data= .fields vs)(hn:Dt n=true)(p:Q () s) : b8 M A (uu k (.ref I) v) Q E s:=by
 unfold Dt at hn;rw [jF] at hn;unfold uu;induction k using lX with
 | Tuple=>induction v with
  | ref a=>refine a9 (wpAny_load z ?_);rw [q,y];dsimp only;rw [hn,Jr,if_neg ∅];exact bX p
  | _=>exact bX p
 | List=>induction v with
  | ref a=>refine a9 (wpAny_load z ?_);rw [q,y];dsimp only;rw [hn,Jr,if_neg ∅];exact bX p
  | _=>exact bX p
 | _=>exact bX p
structure Wk(c:Cfg)(A:cy)(I:b7)(fp:List b7)(n:Nat)(P:Nat->a4->Prop)(St:Nat->bP->Prop):Prop where
 frame:∀i h h',St i h->(∀b∈fp,∀o,h.get? b=some o->h'.get? b=some o)->St i h'
 item:∀i (s:bM) (Q:Option a4->bM->Prop) (E:bZ),i< n->St i s.heap ->
  (∀v h' tk,P i v->St (i+1) h'->(∀b o,b≠I->s.heap.get? b=some o->h'.get? b=some o)->(∃o,h'.get? I=some o)->Q (some v) {s with heap:=h',toks:=tk})->b8 (b9 pw c.w) A (gE (.ref I)) Q E s
 done:∀(s:bM) (Q:Option a4->bM->Prop) (E:bZ),St n s.heap ->
  (∀h' tk,(∀b o,b≠I->s.heap.get? b=some o->h'.get? b=some o)->(∃o,h'.get? I=some o)->Q none {s with heap:=h',toks:=tk})->b8 (b9 pw c.w) A (gE (.ref I)) Q E s
 self:∀i (s:bM) (Q:bZ) (E:bZ),St i s.heap->Q (.ref I) s->b8 (b9 pw c.w) A (pE (.ref I)) Q E s
 go:∀i (s:bM) (target:a8) (v:a4) (Q:Unit->bM->Prop) (E:bZ),St i s.heap->Q () s->b8 (b9 pw c.w) A (uu target (.ref I) v) Q E s
section
variable {c:Cfg}{A:cy}
theorem Wk.list(j:A.handled=none)(I y:b7)(z:y≠I)(k:Array a4):Wk c A I [I,y] k.size (λi v=>k[i]? =some v) (λi h=>h.IsListIter I y i/\h.IsList y k) where
 frame:=(Walks.list (prog:=pw) (w:=c.w) j I y z k).frame
 item:=λi s Q E f st q=>by exact wpAny_pyNext_list_item st.1 st.2 (x:=k[i]) (by simp [f]) λh' p u=>q _ h' s.toks (by simp [f]) ⟨p,st.2.extBut u.extBut z⟩ (λb o r e=>u.extBut b o r e) (a5 p λo e U=>⟨o,e⟩)
 done:=λs Q E st q=>NV j st.1 st.2 (by simp) λh' m l=>q h' s.toks (λb o r e=>m b o r e) l
 self:=λi s Q E st q=>wpAny_pyIter_listiter st.1 q
 go:=λi s t v Q E st q=>by refine xA st λn U=>?_;obtain ⟨o,e,g,d⟩:=n;exact sp e g d ∅ q
theorem Wk.tuple(j:A.handled=none)(I y:b7)(z:y≠I)(k:Array a4):Wk c A I [I,y] k.size (λi v=>k[i]? =some v) (λi h=>h.IsTupleIter I y i/\h.IsTuple y k) where
 frame:=(Walks.tuple (prog:=pw) (w:=c.w) j I y z k).frame
 item:=λi s Q E f st q=>by exact wpAny_pyNext_tuple_item st.1 st.2 (x:=k[i]) (by simp [f]) λh' p u=>q _ h' s.toks (by simp [f]) ⟨p,st.2.extBut u.extBut z⟩ (λb o r e=>u.extBut b o r e) (a5 p λo e U=>⟨o,e⟩)
 done:=λs Q E st q=>Mz j st.1 st.2 (by simp) λh' m l=>q h' s.toks (λb o r e=>m b o r e) l
 self:=λi s Q E st q=>wpAny_pyIter_tupleiter st.1 q
 go:=λi s t v Q E st q=>by refine xA st λn U=>?_;obtain ⟨o,e,g,d⟩:=n;exact sp e g d ∅ q
theorem Wk.strAscii(u:A.handled=none)(I:b7)(x:a6)(t:fA):Wk c A I [I] x.cps.size (SignAt x) (λi h=>h.IsStrIter I "str_ascii_iterator" x t i) where
 frame:=(Walks.strAscii (prog:=pw) (w:=c.w) u I x t).frame
 item:=λi s Q E r st p=>by exact wpAny_pyNext_ascii_item st (c:=x.cps[i]) (by simp [r]) λh' k z=>p _ h' (s.toks+1) (dU _ _ (by simp [r]) rfl) k (λb o q e=>z.extBut b o q e) (a5 k λo e U=>⟨o,e⟩)
 done:=λs Q E st p=>Mx u st (by simp) λh' y l=>p h' s.toks (λb o q e=>y b o q e) l
 self:=λi s Q E st p=>wpAny_pyIter_striter_ascii st p
 go:=λi s t v Q E st p=>by refine ck st λo e m j=>?_;exact sp e m j ∅ p
theorem Wk.strWide(u:A.handled=none)(I:b7)(x:a6)(t:fA):Wk c A I [I] x.cps.size (SignAt x) (λi h=>h.IsStrIter I "str_iterator" x t i) where
 frame:=(Walks.strWide (prog:=pw) (w:=c.w) u I x t).frame
 item:=λi s Q E r st p=>by exact wpAny_pyNext_wide_item st (c:=x.cps[i]) (by simp [r]) λh' k z=>p _ h' (s.toks+1) (dU _ _ (by simp [r]) rfl) k (λb o q e=>z.extBut b o q e) (a5 k λo e U=>⟨o,e⟩)
 done:=λs Q E st p=>NW u st (by simp) λh' y l=>p h' s.toks (λb o q e=>y b o q e) l
 self:=λi s Q E st p=>wpAny_pyIter_striter_wide st p
 go:=λi s t v Q E st p=>by refine ck st λo e m j=>?_;exact sp e m j ∅ p
theorem Wk.range(m:A.handled=none)(I:b7)(n:Nat):Wk c A I [I] n (λi v=>∃t,v= .int ((i:Nat):Int) t) (λi h=>IsRangeIter h I ((i:Nat):Int) ((n:Int) -(i:Nat)) 1) where
 frame:=λi h h' st f=>f I (by simp) _ st
 item:=λi s Q E j st p=>by
  refine wpAny_pyNext_range_item st (om1 j) λh' k z=>p _ h' _ ⟨_,rfl⟩ ?_ (λb o q e=>z.extBut b o q e) ⟨_,k⟩;have u:((i+1:Nat):Int)=(i:Int)+1:=by push_cast;rfl
  have r:(n:Int) -((i+1:Nat):Int)=(n:Int) -(i:Int) -1:=by push_cast;exact om2
  rw [r,u];exact k
 done:=λs Q E st p=>My m st (om3) λh' y l=>p h' s.toks (λb o q e=>y b o q e) l
 self:=λi s Q E st p=>wpAny_pyIter_rangeiter st p
 go:=λi s t v Q E st p=>sp st rfl rfl ∅ p
end
inductive CtlR(c:Cfg)(O:Ow)(h:bP):Ctl->Flow->Prop
 | next:CtlR c O h .next .next
 | brk:CtlR c O h .brk .brk
 | ret {v r} (vr:VR c O h 0 v r):CtlR c O h (.ret v) (.ret r)
inductive Ps(c:Cfg)(X:Cx)(g:Gh)(s:bM)(out:Out (Ctl×Fr))(fl:Flow)(s':bM):Prop
 | mk (k:Ctl) (g':Gh) (e:out= .ok (k,g'.f)) (j:J c X g' s'.heap) (r:CtlR c g'.O s'.heap k fl) (st:St c true g s g' s')
section
variable (c:Cfg)(G:cB)(A:cy)(X:Cx)(Y:cz)
def TS(B:S)(st:cw):Prop:=∀g s,J c X g s.heap->ex G B g.f≠ .x->b8 (b9 pw c.w) A (exec st Y) (Ps c X g s (ex G B g.f)) (Pe c X true g s (ex G B g.f)) s
def TSS(I:List S)(k:List cw):Prop:=∀g s,J c X g s.heap->exs G I g.f≠ .x->b8 (b9 pw c.w) A (execs k Y) (Ps c X g s (exs G I g.f)) (Pe c X true g s (exs G I g.f)) s
end
def li(X:Cx)(x:Nat):Prop:=X.pin=none\/x≠0
theorem Place.aS{p:Place}{b b':b7}(h:p.at b)(h':p.at b'):b=b':=by
 induction p with
 | off=>exact h.elim
 | loc L nm=>cases h;cases h';rfl
 | cel a=>cases h;cases h';rfl
section
variable {c:Cfg}{G:cB}{A:cy}{X:Cx}{Y:cz}{sc:cD}{C:List (Nat×a6)}{g Q:Gh}{h h':bP}{s s' N:bM}{x n i:Nat}{nm:a6}{pos p:c8}{M:fg}{B:E}{e:a8}{I:List E}{es:List a8}{bor:Bool}
theorem J.store(H:Gd c)(j:J c X g h){pl:Place}{v:V}{r:a4}(hp:X.pl[x]? =some pl)(hne:pl≠ .off)(hk:dI (rd g.f x)=false)(hkv:dI v=false)(hpin:li X x)(vr:VR c g.O h 0 v r)(gI:∀b o,¬pl.at b->h.get? b=some o->h'.get? b=some o) (l:∀b,pl.at b->∃o,h'.get? b=some o/\∀vs,o.data≠ .fields vs) (has:Has h' pl (some r)) (oth:∀(q:Place) ov,q≠pl->(∀b,q.at b->pl.at b)->Has h q ov->Has h' q ov):J c X ⟨g.f.set x v,i4 0 (x+1) g.O⟩ h'/\Step c true g.O h (i4 0 (x+1) g.O) h':=by
 have hx:=j.aq hp;have sl:=j.slot x pl hp;have pt:∀b,pl.at b->g.O b= .lo\/g.O b= .cl:=λb u=>by
  induction pl with
  | off=>exact u.elim
  | loc L nm=>cases u;exact .inl (sl.loc _ _ rfl).1
  | cel a=>cases u;have:=sl.cel _ rfl;rw [hk] at this;exact .inr this
 have mk:∀b,mG x (g.O b)=false->i4 0 (x+1) g.O b=g.O b:=λb hc=>yr (ja hc).1 (ja hc).2.1;have mp:∀b,pl.at b->i4 0 (x+1) g.O b=g.O b:=λb u=>mk b (by rcases pt b u with t | t<;>rw [t]<;>rfl);have al:∀b o,h.get? b=some o->∃o',h'.get? b=some o':=λb o e=>by
  by_cases u:pl.at b
  .exact a5 (l b u) λo' w U=>⟨o',w⟩
  exact ⟨o,gI b o u e⟩
 have d:∀(y:Nat) (q:Place) ov,X.pl[y]? =some q->q≠pl->Has h q ov->Has h' q ov:=λy q ov e hq hh=>by
  by_cases hs:∀b,q.at b->pl.at b
  .exact oth q ov hq hs hh
  refine hh.same λb o u eo=>(a7 o (gI b o (λm=>hs λb' hb'=>?_) eo) rfl);rw [Place.aS hb' u];exact m
 refine ⟨j.re H x (λb=>pl.at b) (by simp) (λy hy=>oW v hy) (λb o e hc np=>⟨gI b o np e,mk b hc⟩) (λb u=>⟨pt b u,mp b u,l b u⟩) (λy q ov hy e hh=>d y q ov e (λw=>?_) hh) (λr p hx0 e hp0 hh=>?_) (λb u=>?_) λq hq=>?_,λb o e=>?_⟩
 .clear gI l has oth sl pt mp d;subst w;exact hy (j.inj y x q e hp hne)
 .clear hp hk hx sl mk mp;subst hx0;rcases hpin with w | w
  .rw [w] at e;injection e
  exact absurd rfl w
 .exact xE (j.lv b (FQ u)) λo e=>al b o e
 .obtain rfl:=bv (hp.symm.trans hq);show SlotR c (i4 0 (x+1) g.O) h' x pl (rd (g.f.set x v) x);rw [sQ v hx];refine ⟨λe=>absurd e hne,λL nm e=>?_,λa e=>?_,λU=>(a7 _ has (.inr (a7 r rfl (vr.ext (λb o z e=>(cF o (gI b o (λm=>?_) e) ?_ (.refl ..))) λb k o z e=>⟨gI b o (λm=>?_) e,EV z⟩))))⟩
  .clear hp hne gI l has oth pt d hq;subst e;rw [mp L rfl];exact ⟨(sl.loc L nm rfl).1,hkv⟩
  .clear hp hne gI l has oth pt d hq;subst e;rw [mp a rfl,hkv,<-hk];exact sl.cel a rfl
  .rcases pt b m with t | t<;>rw [z] at t<;>injection t
  .rw [mk b (by rw [z];rfl)];exact z
  rcases pt b m with t | t<;>rw [z] at t<;>injection t
 by_cases u:pl.at b
 .refine a5 (l b u) λo' w U=>(cF o' w (.inl (mp b u)) (.inl ?_));rcases pt b u with t | t<;>rw [t]<;>rfl
 refine (cF o (gI b o u e) ?_ (.inr (.refl ..)));induction q:g.O b with
 | own y k=>exact .inr (.inl rfl)
 | _=>left;unfold i4;rw [q]
inductive Sto(c:Cfg)(X:Cx)(x:Nat)(g:Gh)(s:bM)(g':Gh)(s':bM):Prop
 | mk (pl:Place) (hp:X.pl[x]? =some pl) (gI:∀b o,¬pl.at b->s.heap.get? b=some o->s'.heap.get? b=some o) (tag:∀b,mv false (g.O b)=true\/g'.O b=g.O b) (st:St c true g s g' s')
theorem vb(H:Gd c)(eo:EO c X Y sc C){E:bZ}(j:J c X g s.heap)(hv:(x,nm)∈C)(hf:(sc.names.lookup nm==some .free)=false)(hk:dI (rd g.f x)=false)(hkv:dI v=false)(hpin:li X x)(vr:VR c g.O s.heap 0 v r) : b8 M A (storeName Y nm r) (λU s'=>∃g',g'.f=g.f.set x v/\J c X g' s'.heap/\Sto c X x g s g' s') E s:=by
 refine a5 (eo.res _ hv) λpl hp hr=>?_;have kd:Y.kindOf nm≠some .free:=λq=>by unfold jp at q;rw [eo.scope] at q;rw [q] at hf;injection hf
 have t:∀{s':bM},pl≠ .off->SameRest s s'->(∀b o,¬pl.at b->s.heap.get? b=some o->s'.heap.get? b=some o)->(∀b,pl.at b->∃o,s'.heap.get? b=some o/\∀vs,o.data≠ .fields vs)->Has s'.heap pl (some r)->(∀(q:Place) ov,q≠pl->(∀b,q.at b->pl.at b)->Has s.heap q ov->Has s'.heap q ov) -> ∃g',g'.f=g.f.set x v/\J c X g' s'.heap/\Sto c X x g s g' s':=λne sr a b d e=>
  have jn:=j.store H hp ne hk hkv hpin vr a b d e
  ⟨_,rfl,jn.1,pl,hp,a,λb=>by
   induction q:g.O b with
   | own y k=>exact .inl rfl
   | _=>right;show i4 0 (x+1) g.O b=_;unfold i4;rw [q],jn.2,sr⟩
 refine a5 ((j.slot x pl hp).val (λw=>by clear hp t;subst w;exact hr.elim)) λov hm U=>?_;induction pl with
 | off=>exact hr.elim
 | loc L n=>
  refine dm hr λρ σ u=>?_;clear hv hf kd;subst ρ;clear hp hr;subst σ;refine a5 hm λm hm U=>IA u hm (λh' hn l=>t (λw=>by injection w) ⟨rfl,rfl⟩ (λb o nb e=>(l.2 b nb).trans e) (λb hb=>?_) ⟨_,hn,by simp⟩ λq ov hq z hh=>?_) (by rw [eo.kind];rfl)
  .cases hb;exact kA hn λo es ep e d U=>⟨o,e,λvs w=>by rw [d] at w;injection w⟩
  induction q with
  | off=>exact hh.elim
  | loc L2 n2=>have:=z L2 rfl;clear z;subst this;refine a5 hh λm2 hm2 e2=>⟨_,hn,?_⟩;have hne:n2≠n:=λw=>hq (by rw [w]);rw [if_neg hne,<-z4 hm2 hm n2,e2]
  | cel a=>have:=z a rfl;clear hq z;subst this;refine a5 hh λo e d=>kA hm λo2 es ep e2 d2 U=>?_;rw [e] at e2;obtain rfl:=bv e2;rw [d] at d2;injection d2
 | cel a=>
  obtain ⟨u | u,hc⟩:=hr
  .refine wpAny_storeName_cell eo.kind u hc hm λh' hn l=>t (λw=>by injection w) ⟨rfl,rfl⟩ (λb o nb e=>(l.2 b nb).trans e) (λb hb=>?_) hn λq ov hq z hh=>?_
   .cases hb;exact a5 hn λo e d=>⟨o,e,λvs w=>by rw [d] at w;injection w⟩
   induction q with
   | off=>exact hh.elim
   | loc L2 n2=>have:=z L2 rfl;clear hp t hc hn l hq z;subst this;refine a5 hh λm2 ρ U=>?_;obtain ⟨o2,es,ep,e2,d2,U⟩:=ρ;refine a5 hm λo e d=>?_;rw [e] at e2;clear e;obtain rfl:=bv e2.symm;rw [d] at d2;injection d2
   | cel a2=>exact absurd (by rw [z a2 rfl]) hq
  exact absurd u kd
theorem Ek:TSS c G A X Y [] []:=λg s j ns=>ry ⟨.next,g,rfl,j,.next,.refl ..⟩
theorem Ps.lift(st:St c true Q N g s)(u:y=o)(q:Ps c X g s o v s'):Ps c X Q N y v s':=by obtain ⟨k,w,e,j,r,z⟩:=q;exact ⟨k,w,u.trans e,j,r,st.trans z⟩
theorem Pe.aV{q:Type}{o k:Out q}{x:a4}(st:St c true Q N g s)(y:Pe c X true g s o x s')(h:k=o):Pe c X true Q N k x s':=by refine a5 y λm z er=>?_;clear y;subst z;exact (a7 m h (er.lift st))
theorem TSS.l{I:List S}{y:List cw}(t:TSS c G A X Y I y){k:Out (Ctl×Fr)}(j:J c X g s.heap)(st:St c true Q N g s)(z:k=exs G I g.f)(ns:k≠ .x):b8 (b9 pw c.w) A (execs y Y) (Ps c X Q N k) (Pe c X true Q N k) s:=c6 (t g s j (by rw [<-z];exact ns)) (λu s' q=>q.lift st z) λx s' q=>q.aV st z
theorem yl{B:S}{I:List S}{st:cw}{u:List cw}(t:TS c G A X Y B st)(O:TSS c G A X Y I u):TSS c G A X Y (B::I) (st::u):=by
 intro g s j ns;have z:exs G (B::I) g.f=(ex G B g.f).bind λr=>match r.1 with
  | .next=>exs G I r.2
  | c=>.ok (c,r.2):=rfl
 refine xd (c6 (t g s j (iZ ns z)) (λf d q=>?_) λx d q=>?_)
 .obtain ⟨k,w,o,v,r,y⟩:=q;rw [o] at z;cases r with
  | next=>exact O.l v y z ns
  | brk=>exact ⟨.brk,w,z,v,.brk,y⟩
  | ret H=>exact ⟨_,w,z,v,.ret H,y⟩
 exact a5 q λm e er=>(a7 m (by rw [z,e];rfl) er)
theorem Tn:TS c G A X Y .brk (.Break pos):=λg s j ns=>wpAny_Break ⟨.brk,g,rfl,j,.brk,.refl ..⟩
theorem Tp(m:TB c G A X Y t z)(w:TSS c G A X Y a u)(tb:TSS c G A X Y b v):TS c G A X Y (.ite t a b) (.If z u v pos):=λg s j ns=>wpAny_If (m.t j (.refl ..) rfl ns λr f o y k q=>by
  induction r with
  | true=>exact w.l y k q ns
  | false=>exact tb.l y k q ns)
theorem Fk(t:T c G A X Y B e):TS c G A X Y (.ret B) (.Return (some e) pos):=λg s j ns=>wpAny_Return_some (t.v j (.refl ..) rfl ns λv z r l w u q k y=>⟨_,z,y,u,.ret q,k⟩)
theorem PZ:TS c G A X Y (.ret .none) (.Return none pos):=λg s j ns=>wpAny_Return_none ⟨.ret (.d .none),g,rfl,j,.ret rfl,.refl ..⟩
def jJ:a8->Bool
 | .ListComp .. | .SetComp .. | .DictComp .. =>false
 | _=>true
theorem nA(h:jJ k=true):uA k q y Y=pure false:=by induction k using lX<;>first | rfl | injection h
theorem PY(H:Gd c)(z:jJ e=true)(u:interactive Y=false)(t:T c G A X Y B e):TS c G A X Y (.expr B) (.Expr e pos):=λg s j ns=>wpAny_Expr_any (t.d H j (.refl ..) rfl ns λd y r w v l k U q=>⟨.next,y,q,v,.next,k⟩) u (nA z)
inductive PutI(f:Fr)(x:Nat)(v:V)(out:Out (Ctl×Fr)):Prop
 | mk (k:dI (rd f x)=false) (e:out= .ok (.next,f.set x v))
theorem HI(e:out=(put f x v).bind λf=>.ok (.next,f))(ns:out≠ .x):PutI f x v out:=by
 have q:put f x v=if dI (rd f x)=true then .x else .ok (f.set x v):=by unfold put;induction rd f x using bS<;>rfl
 induction k:dI (rd f x) with
 | true=>rw [q,k] at e;exact absurd e ns
 | false=>rw [q,k] at e;exact ⟨k,e⟩
theorem yj(H:Gd c)(l:EO c X Y sc C){y:Out (Ctl×Fr)}{E:bZ}(j:J c X g s.heap)(st:St c true Q N g s)(b:(x,nm)∈C)(d:(sc.names.lookup nm==some .free)=false)(w:dI v=false)(u:li X x)(vr:VR c g.O s.heap 0 v r)(m:y=(put g.f x v).bind λf=>.ok (.next,f))(ns:y≠ .x) : b8 M A (storeName Y nm r) (λU s'=>Ps c X Q N y .next s') E s:=by obtain ⟨k,e⟩:=HI m ns;refine c6 (vb H l j b d k w u vr) (λU s2 q=>ck q λo t a z=>?_) λU U q=>q;obtain ⟨U,U,U,U,z⟩:=z;exact ⟨.next,o,by rw [t];exact e,a,.next,st.trans z⟩
theorem El(H:Gd c)(w:EO c X Y sc C)(hs:uA e (some (.Name nm p)) pos.line Y=pure false)(m:(x,nm)∈C)(l:(sc.names.lookup nm==some .free)=false)(k:li X x)(t:T c G A X Y B e):TS c G A X Y (.a x B) (.Assign [.Name nm p] e pos):=λg s j ns=>wpAny_Assign_Name (t.v j (.refl ..) rfl ns λv o r d q f z y u=>yj H w f y m l (yI q) k z u ns) hs
theorem Tl(H:Gd c)(q:EO c X Y sc C)(y:jJ e=true)(u:(x,nm)∈C)(z:(sc.names.lookup nm==some .free)=false)(k:li X x)(t:T c G A X Y B e):TS c G A X Y (.a x B) (.Assign [.Name nm p] e pos):=El H q (nA y) u z k t
theorem XN{v:V}{k:D->Out (Ctl×Fr)}{q:Out (Ctl×Fr)}(e:q=match v with | .d o=>k o | _=>.x)(ns:q≠ .x):∃o,v= .d o/\q=k o:=by
 induction v using bS with
 | d o=>exact (a7 o rfl e)
 | _=>exact absurd e ns
theorem Tm(H:Gd c)(m:EO c X Y sc C){b:Op}(f:(x,nm)∈C)(hn:eE nm=true)(hf:(sc.names.lookup nm==some .free)=false)(k:li X x)(t:T c G A X Y B e):TS c G A X Y (.aug x b B) (.AugAssign (.Name nm p) (qU b) e pos):=λg s j ns=>by refine a5 (XN rfl ns) λo O e0=>?_;obtain ⟨pl,r,hp,hh,a,U⟩:=j.val (λq=>by rw [O] at q;injection q);rw [O] at a;exact wpAny_AugAssign_Name (Dj m f hn hp hh (t.d H j (.refl ..) e0 ns λd g1 r1 s1 j1 v1 y sx e1=>by refine a5 (fF ns e1) λw hw u=>c6 (UT (E:=λU U=>False) (sx.dr a) v1 hw) (λr2 s2 o2=>?_) λU U q=>q.elim;obtain ⟨O',kp,sr,hO,hN,dr⟩:=o2;obtain ⟨v',g2,l,j2,vx,z⟩:=OpR.pv H j1 (.refl ..) ⟨O',kp,sr,hO,hN,dr⟩ rfl;refine xA (pU (Out.bx l)) λe4 e5=>?_;clear l;subst e4;rw [e5] at u;exact yj (v:=.d w) H m j2 (y.trans z.up) f hf rfl k vx u ns))
end
def qL(X:Cx)(C:cz):Prop:=∃k z,X.fs=k::z/\C.frame=k.frame
structure Rng(c:Cfg):Prop where
 rg:c.mg "range" =none/\c.mb "range" =some (.type "range")
section
variable {c:Cfg}{G:cB}{A:cy}{X:Cx}{C:cz}{sc:cD}{a0:List (Nat×a6)}{g B N:Gh}{h h':bP}{s s' Y:bM}{x n i:Nat}{nm:a6}{pos p:c8}{q:Bool}{M:fg}{y:E}{e:a8}
theorem Fe{e:a4}{E:bZ}{Q:bZ}(tb:HasTb s.heap e)(h:∀T,Q (.ref T) s):b8 M A (lO e 1) Q E s:=by obtain ⟨a,v,vs,T,u,w,rfl,q1,k,z,U⟩:=tb;exact eD q1 k z (h T)
theorem yU(H:Gd c)(v:CA A X)(l:qL X C){o:Type}{k:Out o}{e:a4}(p:Pe c X q g s k e s'):kQ M A C (λe s'=>cameBackBy M A C (Pe c X q g s k) e s') e s':=by refine a5 p λm t er=>cU l λz u j f=>?_;unfold kQ;refine c6 (v9 (E:=λU U=>False) H v.fr j f er) (λU d r=>?_) λU U h=>h.elim;unfold cameBackBy;refine a9 (Fe r.2 λT=>?_);rw [if_neg (by simp)];exact c6 (rZ (E:=λU U=>False) H r.1 r.2) (λU Q w=>(a7 m t w.1)) λU U h=>h.elim
theorem Tq(H:Gd c)(ca:CA A X)(fo:qL X C)(tt:TB c G A X C t et)(tb:TSS c G A X C b sb):TS c G A X C (.w t b) (.While et sb [] pos):=by
 refine λg s j ns=>wpAny_While ?_;generalize o:ex G (.w t b) g.f=out at ns;have ew:∀n f,qX (λf=>(ev G t f).bind dL) (λf=>exs G b f) (n+1) f=((ev G t f).bind dL).bind λt=>match t.1 with
   | false=>.ok (.next,t.2)
   | true=>(exs G b t.2).bind λr=>match r.1 with
    | .next=>qX (λf=>(ev G _ f).bind dL) (λf=>exs G b f) n r.2
    | .brk=>.ok (.next,r.2)
    | .ret v=>.ok (.ret v,r.2):=λn f=>rfl
 refine codeAny_whileLoop (λn s'=>∃B,J c X B s'.heap/\St c true g s B s'/\out=qX (λf=>(ev G t f).bind dL) (λf=>exs G b f) n B.f) (λn s1 I=>ck I λg1 j1 st1 e1=>?_) Av (cF g j (.refl ..) o.symm);induction n using gF with
 | zero=>exact absurd e1 ns
 | succ n=>
  refine c6 (tt.t j1 st1 (e1.trans (ew n g1.f)) ns λr d s2 Q z u=>(cF d Q z u)) (λr s2 w=>?_) λx s' p=>yU H ca fo p
  refine ck w λd Q z u=>?_;clear w;induction r with
  | false=>rw [if_neg ∅];exact ry ⟨.next,d,u,Q,.next,z⟩
  | true=>
   rw [if_pos rfl];refine c6 (tb d s2 Q (iZ ns u)) (λf s3 p=>?_) λx s' p=>?_
   .obtain ⟨k,O,e3,a,r3,l⟩:=p;rw [e3] at u;cases r3 with
    | next=>exact ⟨n,uN n,O,a,z.trans l,u⟩
    | brk=>exact ⟨.next,O,u,a,.next,z.trans l⟩
    | ret vr=>exact ⟨_,O,u,a,.ret vr,z.trans l⟩
   exact a5 p λm e er=>yU H ca fo (a7 m (by rw [u,e];rfl) (er.lift z))
inductive IterAt(c:Cfg)(O:Ow)(h:bP)(items:List D)(I:b7)(i:Nat):Prop
 | mk (fp:List b7) (P:Nat->a4->Prop) (Q:Nat->bP->Prop) (wk:∀A:cy,A.handled=none->Wk c A I fp items.length P Q) (st:Q i h) (t:O I= .no) (al:∃o,h.get? I=some o) (hfp:∀b∈fp,b=I\/(O b= .z/\∃o vs n,h.get? b=some o/\o.data= .seq vs n)) (hP:∀k v,k< items.length->P k v->∃d,items[k]? =some d/\DR c O h d v)
theorem Like.bl{n:Nat}(l:Like c .z b o t)(d:o.data= .seq vs n):t=o:=by
 have u:=l.aA λes n q=>by rw [d] at q;injection q
 obtain ⟨v,w,r,U⟩:=l;have k:=r (λh=>by injection h) (λh=>by injection h);clear r;obtain ⟨m,j,f,Q⟩:=o;obtain ⟨I,O,b3,b4⟩:=t;dsimp only at v w k u;subst v w k u;rfl
theorem Step.no(st:Step c q O h O' h'){b:b7}{o:cn}(t:O b= .no)(e:h.get? b=some o):h'.get? b=some o/\O' b= .no:=by refine ck (st b o e) λu z k l=>?_;rw [t] at k l;exact ⟨by rw [z,(l.resolve_left λw=>by injection w).no],k.resolve_right λw=>by rcases w with w | ⟨w,U⟩<;>injection w⟩
theorem IterAt.zk{O O':Ow}{u:List D}(x:IterAt c O h u I i)(zk:ZK c O h O' h')(m:∀o,O I= .no->h.get? I=some o->h'.get? I=some o/\O' I= .no):IterAt c O' h' u I i:=by
 obtain ⟨fp,P,Q,wk,hst,t,⟨oI,eI⟩,H,hP⟩:=x;have zz:∀b o vs n,O b= .z->h.get? b=some o->o.data= .seq vs n->h'.get? b=some o/\O' b= .z:=λb o vs n z e d=>by exact ck (zk b o z e) λo' e' z' l=>⟨by rw [e',l.bl d],z'⟩
 refine ⟨fp,P,Q,wk,(wk {} rfl).frame i h h' hst λb hb o e=>?_,(m oI t eI).2,⟨oI,(m oI t eI).1⟩,λb hb=>?_,λk v hk p=>a5 (hP k v hk p) λd e r=>(a7 d e (r.ext zk))⟩
 .rcases H b hb with rfl | ⟨z,a,vs,n,f,j⟩
  .exact (m o t e).1
  rw [e] at f;obtain rfl:=bv f;exact (zz b o vs n z e j).1
 rcases H b hb with w | ⟨z,a,vs,n,f,j⟩
 .exact .inl w
 exact .inr (sY ((zz b a vs n z f j).2) a vs n ((zz b a vs n z f j).1) j)
theorem IterAt.ext{O O':Ow}{k:List D}(x:IterAt c O h k I i)(st:Step c q O h O' h'):IterAt c O' h' k I i:=x.zk st.zk λU t e=>st.no t e
theorem J.aj(H:Gd c)(j:J c X g h){I:b7}(t:g.O I= .no)(k:∀b o,b≠I->h.get? b=some o->h'.get? b=some o):J c X g h':=j.aF H (λb o e u=>⟨k b o (λw=>(ja u).2.2 (w▸t)) e,rfl⟩) λb z=>xE (j.lv b z) λo e=>⟨o,k b o (λw=>z (w▸t)) e⟩
theorem St.aj(st:St c q N Y g s){I:b7}(iU:Y.heap.get? I=none)(k:∀b o,b≠I->s.heap.get? b=some o->s'.heap.get? b=some o)(v:SameRest s s'):St c q N Y g s':=⟨λb o e=>by exact a5 (st.st b o e) λz u w=>(a7 z (k b z (λw=>by rw [w,iU] at e;injection e) u) w),st.sr.trans v⟩
theorem qr(t:O I= .no)(k:∀b o,b≠I->h.get? b=some o->h'.get? b=some o):ZK c O h O h':=λb o z e=>(cF o (k b o (λw=>by rw [w,t] at z;injection z) e) z (.refl ..))
theorem IterAt.next(H:Gd c)(hh:A.handled=none){u:List D}{I:b7}{d:D}(j:J c X g s.heap)(x:IterAt c g.O s.heap u I i)(hd:u[i]? =some d)(st:St c q N Y g s)(iU:Y.heap.get? I=none){Q:Option a4->bM->Prop}{E:bZ} (hQ:∀v s',J c X g s'.heap->IterAt c g.O s'.heap u I (i+1)->DR c g.O s'.heap d v->St c q N Y g s'->(∀b o,b≠I->s.heap.get? b=some o->s'.heap.get? b=some o)->Q (some v) s'):b8 (b9 pw c.w) A (gE (.ref I)) Q E s:=by obtain ⟨fp,P,R,wk,f,t,al,m,hP⟩:=x;have hi:=(gS.mp hd).1;refine (wk A hh).item i s _ E hi f λv h' tk p a k l=>?_;have zk:=qr (c:=c) t k;refine a5 (hP i v hi p) λd' e' dr=>?_;rw [hd] at e';obtain rfl:=bv e';exact hQ v _ (j.aj H t k) ⟨fp,P,R,wk,a,t,l,λb hb=>(m b hb).imp id λ⟨z,o,vs,n,e,dd⟩=>(sY z o vs n (k b o (λw=>by rw [w,t] at z;injection z) e) dd),λk v hk p=>a5 (hP k v hk p) λd e r=>(a7 d e (r.ext zk))⟩ (dr.ext zk) (st.aj iU k ⟨rfl,rfl⟩) k
theorem IterAt.last(H:Gd c)(m:A.handled=none){z:List D}{I:b7}(j:J c X g s.heap)(x:IterAt c g.O s.heap z I z.length)(st:St c q N Y g s)(iU:Y.heap.get? I=none){Q:Option a4->bM->Prop}{E:bZ} (v:∀s',J c X g s'.heap->St c q N Y g s'->(∀b o,b≠I->s.heap.get? b=some o->s'.heap.get? b=some o)->Q none s'):b8 (b9 pw c.w) A (gE (.ref I)) Q E s:=by obtain ⟨a,P,R,f,u,t,d,r,hP⟩:=x;exact (f A m).done s _ E u λh' tk k l=>v _ (j.aj H t k) (st.aj iU k ⟨rfl,rfl⟩) k
theorem IterAt.go{z:List D}(r:A.handled=none)(x:IterAt c O s.heap z I i){k:a8}{v:a4}{Q:Unit->bM->Prop}{E:bZ}(h:Q () s):b8 (b9 pw c.w) A (uu k (.ref I) v) Q E s:=by obtain ⟨l,P,R,t,u,U⟩:=x;exact (t A r).go i s k v Q E u h
theorem IterAt.again{k:List D}(u:A.handled=none)(x:IterAt c O s.heap k I i){Q:bZ}{E:bZ}(h:Q (.ref I) s):b8 (b9 pw c.w) A (pE (.ref I)) Q E s:=by obtain ⟨r,P,R,v,z,U⟩:=x;exact (v A u).self i s Q E z h
inductive Begun(c:Cfg)(X:Cx)(q:Bool)(N:Gh)(Y:bM)(g:Gh)(items:List D)(r:a4)(s':bM):Prop
 | mk (I:b7) (e:r= .ref I) (iU:Y.heap.get? I=none) (j:J c X g s'.heap) (it:IterAt c g.O s'.heap items I 0) (st:St c q N Y g s')
theorem so(H:Gd c)(j:J c X g s.heap)(st:St c q N Y g s){P:Nat->a4->Prop}{R:Nat->bP->Prop}(nf:o.isFreed=false)(wk:∀A:cy,A.handled=none->Wk c A s.heap.objs.size f u.length P R)(m:R 0 (s.heap.push o)) (l:∀b∈f,b=s.heap.objs.size\/(g.O b= .z/\∃o vs n,s.heap.get? b=some o/\o.data= .seq vs n)) (I:∀k v,k< u.length->P k v->∃d,u[k]? =some d/\DR c g.O s.heap d v) {tk:fA}:Begun c X q N Y g u (.ref s.heap.objs.size) {s with heap:=s.heap.push o,toks:=tk}:=by
 have k:Kp s.heap (s.heap.push o):=gm _ _;have Q:s.heap.get? s.heap.objs.size=none:=ig _;have t:g.O s.heap.objs.size= .no:=xT λw=>by refine xE (j.lv _ w) λo e=>?_;rw [Q] at e;injection e
 exact ⟨_,rfl,st.st.gone Q,j.kp H k,⟨f,P,R,wk,m,t,⟨o,dY _ nf⟩,λb a=>(l b a).imp id λ⟨z,o,vs,n,e,dd⟩=>(sY z o vs n (k b o e) dd),λk' v hk p=>a5 (I k' v hk p) λd e r=>(a7 d e (r.ext (k.zk λU z=>z)))⟩,st.kp k ⟨rfl,rfl⟩⟩
theorem Pm(hs:cI l=true)(p:SignAt (SS l) k v):∃d,(l.map λx=>iJ [x])[k]? =some d/\∀O h,DR c O h d v:=by
 refine cU p λx u e w=>?_;clear p;subst w;have z:l[k]? =some x:=by
  have:(SS l).cps[k]? =l[k]?:=by show l.toArray[k]? =l[k]?;simp
  rw [<-this];exact e
 exact (a7 (.str [x]) (by rw [iV,z];rfl) (λO h=>(iT (by have:=sN hs x (kR z);simp [cI,this]) u rfl)))
theorem Uk(H:Gd c)(j:J c X g s.heap)(st:St c q N Y g s){E:bZ}(r:DR c g.O s.heap d v)(e:ze d=some I):b8 (b9 pw c.w) A (pE v) (Begun c X q N Y g I) E s:=by
 induction d using c7 with
 | l xs=>refine xA (cX e) λe1 e2=>?_;clear e e1;obtain rfl:=bv e2.symm;refine a5 r λvs ρ rr=>?_;obtain ⟨a,o,n,rfl,z,e,b,dd⟩:=ρ;have Q:=jl (gX e);exact wpAny_pyIter_list (nK o e b.1 n dd) (so H j st (R:=λi h=>h.IsListIter s.heap.objs.size a i/\h.IsList a vs) rfl (λA f=>by rw [rr.len];exact Wk.list f _ a Q vs) (vN (cF _ (dY _ rfl) rfl rfl) o (cS _ e) b.1 n dd) (λb u=>(dp.mp u).imp id λu=>by rw [fh.mp u];exact (sY z o vs n e dd)) (λk v U p=>rr.aT (by rw [<-p];simp)))
 | t xs=>refine xA (cX e) λe1 e2=>?_;clear e e1;obtain rfl:=bv e2.symm;refine a5 r λvs ρ rr=>?_;obtain ⟨a,o,n,rfl,z,e,b,dd⟩:=ρ;have Q:=jl (gX e);exact wpAny_pyIter_tuple (nK o e b.1 n dd) (so H j st (R:=λi h=>h.IsTupleIter s.heap.objs.size a i/\h.IsTuple a vs) rfl (λA f=>by rw [rr.len];exact Wk.tuple f _ a Q vs) (vN (cF _ (dY _ rfl) rfl rfl) o (cS _ e) b.1 n dd) (λb u=>(dp.mp u).imp id λu=>by rw [fh.mp u];exact (sY z o vs n e dd)) (λk v U p=>rr.aT (by rw [<-p];simp)))
 | str l=>
  refine xA (cX e) λe1 e2=>?_;clear e;obtain rfl:=bv e2;refine fx r λhs t ρ=>?_;clear r;subst ρ;have m:(l.map λx=>iJ [x]).length=(SS l).cps.size:=by simp [SS]
  have hfp:∀b∈[s.heap.objs.size],b=s.heap.objs.size\/(g.O b= .z/\∃o vs n,s.heap.get? b=some o/\o.data= .seq vs n):=λb u=>.inl (fh.mp u);have hP:∀k v,k< (l.map λx=>iJ [x]).length->SignAt (SS l) k v->∃d,(l.map λx=>iJ [x])[k]? =some d/\DR c g.O s.heap d v:=λk v U p=>a5 (Pm hs p) λd e q=>(a7 d e (q _ _));induction ha:(SS l).cps.all (·< 128) using dj
  .exact wpAny_pyIter_wide ha (so H j st (o:={cls:=.type "str_iterator",data:=.fields #[.str (SS l) t,.int 0 0]}) (R:=λi h=>h.IsStrIter s.heap.objs.size "str_iterator" (SS l) t i) rfl (λA f=>by rw [m];exact Wk.strWide f _ (SS l) t) (cF _ (dY _ rfl) rfl rfl) hfp hP)
  exact BO ha (so (tk:=s.toks) H j st (o:={cls:=.type "str_ascii_iterator",data:=.fields #[.str (SS l) t,.int 0 0]}) (R:=λi h=>h.IsStrIter s.heap.objs.size "str_ascii_iterator" (SS l) t i) rfl (λA f=>by rw [m];exact Wk.strAscii f _ (SS l) t) (cF _ (dY _ rfl) rfl rfl) hfp hP)
 | _=>injection e
theorem yc{n:Int}:((fO n.toNat).map λ(i:Nat)=>iY (i:Int)).length=n.toNat:=by simp
theorem LR(H:Gd c)(j:J c X g s.heap)(st:St c q N Y g s){n:Int}{t:fA}{E:bZ}(hn:n.natAbs<=1048576) : b8 (b9 pw c.w) A (call (.type "range") [.int n t]) (λx m=>b8 (b9 pw c.w) A (pE x) (Begun c X q N Y g ((fO n.toNat).map λ(i:Nat)=>.int (i:Int))) E m) E s:=by
 refine call_range_1 ?_;have k:Kp s.heap (s.heap.push {cls:=.type "range",data:=.fields #[.int 0 s.toks,.int n t,.int 1 (s.toks+1)]}):=gm _ _;refine wpAny_pyIter_range (IsRange.new _ _ _ _ _ _ _) (small_one (by omega) (by omega) (by omega) (by omega)) ?_;have hsz:Builtin.Range.rangeSize 0 n 1=(n.toNat:Int):=by rw [rangeSize_one];split;(next q=>exact (Int.sub_zero _).trans (pN (xL q)).symm);(next q=>rw [Co.mpr (kX.mp q)];rfl)
 rw [hsz];refine so (s:={s with heap:=s.heap.push {cls:=.type "range",data:=.fields #[.int 0 s.toks,.int n t,.int 1 (s.toks+1)]},toks:=s.toks+1+1}) H (j.kp H k) (st.kp k ⟨rfl,rfl⟩) rfl (λA l=>by rw [yc];exact Wk.range l _ n.toNat) ?_ (λb r=>.inl (fh.mp r)) (λk v z p=>?_)
 .have:=dY (s.heap.push {cls:=.type "range",data:=.fields #[.int 0 s.toks,.int n t,.int 1 (s.toks+1)]}) (o:={cls:=.type "range_iterator",data:=.fields #[i5 0,i5 n.toNat,i5 1]}) rfl;simpa using this
 refine xE p λu f=>?_;clear p;subst f;rw [yc] at z;exact (a7 (.int k) (by rw [iV,uG z];rfl) ⟨_,rfl⟩)
end
def TI(c:Cfg)(G:cB)(A:cy)(X:Cx)(C:cz)(rg:Bool)(it:E)(iter:a8):Prop:=∀{v:Type} {u:Out v} {q N Y g s} {k:List D×Fr->Out v} {K:bZ},J c X g s.heap->St c q N Y g s->(u=(ev G it g.f).bind λr=>(fz r).bind λp=>(cg (dN rg p.1)).bind λz=>k (z,p.2))->u≠ .x -> (∀z B r s',Begun c X q N Y B z r s'->z.length<=1048576->u=k (z,B.f)->K r s') -> b8 (b9 pw c.w) A (eu iter C) (λx t=>b8 (b9 pw c.w) A (pE x) K (Pe c X q N Y u) t) (Pe c X q N Y u) s
section
variable {c:Cfg}{G:cB}{A:cy}{X:Cx}{C:cz}{sc:cD}{a0:List (Nat×a6)}{pos p:c8}{y:E}{e:a8}
theorem MI(e:ze d=some k):k.length<=1048576:=by
 induction d using c7 with
 | l xs=>refine xA (cX e) λz u=>?_;clear e;obtain rfl:=bv u.symm;exact ee z
 | t xs=>refine xA (cX e) λz u=>?_;clear e;obtain rfl:=bv u.symm;exact ee z
 | str xs=>refine xA (cX e) λz u=>?_;clear e;obtain rfl:=bv u;rw [cR];exact ee z
 | _=>injection e
theorem Nl(H:Gd c)(t:T c G A X C y e):TI c G A X C false y e:=λj st l ns h=>t.d H j st l ns λd m Q I f o u U v=>by refine a5 (fF ns v) λk z w=>?_;have z:=z;exact c6 (Uk (E:=λU U=>False) H f u o z) (λr s' b=>h k m r s' b (MI z) w) λU U q=>q.elim
theorem Nm(H:Gd c)(R:Rng c)(I:EO c X C sc a0)(hn:f7 sc "range" =true)(hs:∀a p,e≠ .Starred a p)(t:T c G A X C y e):TI c G A X C true y (.Call (.Name "range" p) [e] [] pos):=λ{α out q N Y g s k K} j st O ns h=>l0 rfl (qb H j.gi I hn R.rg (og (P:=λh=>Keeps (b9 pw c.w) h (.type "range")) (by rw [iK hs];rfl) (λh x=>x) (by rw [iK hs];refine on (oq (t.d H j st O ns λd g1 r1 s1 j1 f m U o=>a5 (fF ns o) λl v Q=>eI v f λn u U ev v=>?_));clear f;subst ev;refine xA (cX v) λh1 h2=>?_;clear v;obtain rfl:=bv h2;have z:=ee h1;exact pS ⟨.typ,c6 (LR (E:=λU U=>False) H j1 m z) (λr s2 q=>c6 q (λr s' b=>h _ g1 r s' b (by rw [yc];exact om4 z) Q) λU U q=>q.elim) λU U q=>q.elim⟩)))
end
structure Tgt(X:Cx)(sc:cD)(vis:List (Nat×a6))(x:Nat)(nm:a6):Prop where
 vis:(x,nm)∈vis
 free:(sc.names.lookup nm==some .free)=false
 pin:li X x
inductive TG(X:Cx)(sc:cD)(vis:List (Nat×a6)):List Nat->List a8->Prop
 | nil:TG X sc vis [] []
 | cons {x nm p xs es}:Tgt X sc vis x nm->TG X sc vis xs es->TG X sc vis (x::xs) (.Name nm p::es)
inductive TGT(X:Cx)(sc:cD)(vis:List (Nat×a6)):List Nat->a8->Prop
 | one {x nm p}:Tgt X sc vis x nm->TGT X sc vis [x] (.Name nm p)
 | many {xs es k p}:xs.length≠1->TG X sc vis xs es->TGT X sc vis xs (.Tuple es k p)
theorem y4{xs:List Nat}(e:jf f (x::xs) (d::ds)=some f'):dI (rd f x)=false/\jf (f.set x (.d d)) xs ds=some f':=by
 have q:jf f (x::xs) (d::ds)=if dI (rd f x)=true then none else jf (f.set x (.d d)) xs ds:=by show (match rd f x with | .k _=>none | _=>jf (f.set x (.d d)) xs ds)=_;induction rd f x using bS<;>rfl
 induction z:dI (rd f x) with
 | true=>rw [q,z] at e;injection e
 | false=>rw [q,z] at e;exact ⟨rfl,e⟩
theorem M0:∀{xs:List Nat} {ds:List D} {f f':Fr},jf f xs ds=some f'->xs.length=ds.length:=by
 intro xs;induction xs with
 | nil=>exact λ{ds} U U e=>by rcases ds with U | U;rfl;injection e
 | cons x xs k=>
  intro ds f f' e;rcases ds with U | ⟨d,ds⟩
  .injection e
  exact congrArg pK (k (y4 e).2)
theorem Mm(e:cE f [x] d=some f'):dI (rd f x)=false/\f'=f.set x (.d d):=by exact xA (y4 e) λk e=>⟨k,(bv e).symm⟩
theorem NG(f:Fr){xs:List Nat}(d:D)(k:xs.length≠1):cE f xs d=match d with | .t ds=>jf f xs ds | .l ds=>jf f xs ds | _=>none:=by
 induction xs using bO with
 | nil=>rfl
 | cons a xs=>induction xs using bO with
  | nil=>exact absurd rfl k
  | cons=>rfl
theorem LH{xs:List Nat}(k:xs.length≠1)(e:cE f xs d=some f'):∃ds,(d= .t ds\/d= .l ds)/\jf f xs ds=some f':=by
 rw [NG f d k] at e;induction d using c7 with
 | t ds=>exact (a7 ds (.inl rfl) e)
 | l ds=>exact (a7 ds (.inr rfl) e)
 | _=>injection e
def nB:a8->Bool
 | .Set .. =>false
 | _=>true
theorem yg(h:nB e=true)(x:a4):foldedSetIterable e Y x=pure x:=by induction e using lX<;>first | rfl | injection h
def yt:a8->Bool
 | .Tuple .. | .List .. =>false
 | _=>true
section
variable {c:Cfg}{G:cB}{A:cy}{X:Cx}{Y:cz}{sc:cD}{vis:List (Nat×a6)}{g N B:Gh}{h h':bP}{s s' y:bM}{x n i:Nat}{nm:a6}{pos p:c8}{q:Bool}{M:fg}{C:E}{e:a8}{xs:List Nat}{es:List a8}
theorem MN(h:yt z=true):swappedStores [.Tuple u k v] z Y=pure none:=by induction z using lX<;>first | rfl | injection h
theorem TG.len(t:TG X sc vis xs es):(uz es Y).length=xs.length:=by
 induction t with
 | nil=>rfl
 | cons U U k=>show (_::uz _ Y).length=_;simp [k]
theorem TG.plain(t:TG X sc vis xs es):(uz es Y).findIdx? (·.1)=none:=by
 induction t with
 | nil=>rfl
 | cons U U k=>show ((false,_)::uz _ Y).findIdx? (·.1)=none;rw [List.findIdx?_cons];simp [k]
structure Rl(c:Cfg)(X:Cx)(xs:List Nat)(R:Gh->bM->Prop):Prop where
 sto:∀x∈xs,∀g s N s',Sto c X x g s N s'->R g s->R N s'
 kp:∀g s s',Kp s.heap s'.heap->SameRest s s'->R g s->R g s'
theorem KW(H:Gd c)(b:EO c X Y sc vis)(R:Gh->bM->Prop){E:bZ}(t:TG X sc vis xs es)(m:∀x∈xs,∀g s N s',Sto c X x g s N s'->R g s->R N s'):∀{g:Gh} {s:bM} {ds:List D} {vs:List a4} {f':Fr},J c X g s.heap->R g s->DRs c g.O s.heap ds vs->jf g.f xs ds=some f'->b8 M A (assignInOrder ((uz es Y).map (·.2)) vs) (λU s'=>∃N,N.f=f'/\J c X N s'.heap/\R N s') E s:=by
 induction t with
 | nil=>
  intro g s ds vs f' j u z e;induction ds using bO with
  | nil=>obtain rfl:=show vs=[] from z;cases e;exact bX (cF g rfl j u)
  | cons=>injection e
 | @cons x nm p xs es l ts ih=>
  intro g s ds vs f' j u z e;induction ds using bO with
  | nil=>injection e
  | cons d ds=>obtain ⟨v,vs,rfl,o,z⟩:=z;refine xA (y4 e) λk Q=>?_;refine a9 (gQ (BQ (c6 (vb (v:=.d d) (E:=λU U=>False) H b j l.vis l.free k rfl l.pin o) (λU s1 q=>ck q λa I j1 st=>?_) λU U q=>q.elim)));have w:=m x (.head _) g s a s1 st u;obtain ⟨U,U,U,U,r⟩:=st;exact ih (λx hx=>m x (.tail _ hx)) j1 w (r.bC z) (by rw [I];exact Q)
theorem Qr{P:Nat->a4->Prop}{St:Nat->bP->Prop}(wk:Wk c A I fp n P St){E:bZ}(m i:Nat)(s:bM)(st:St i s.heap)(z:i+m<=n) : b8 (b9 pw c.w) A (draw (.ref I) m) (λvs s'=>∃h' tk,s'={s with heap:=h',toks:=tk}/\St (i+m) h'/\vs.length=m/\(∀(k:Nat) v,vs[k]? =some v->P (i+k) v)/\∀b o,b≠I->s.heap.get? b=some o->h'.get? b=some o) E s:=by
 induction m generalizing i s with
 | zero=>exact bX (qi s.heap s.toks rfl st rfl (λk v e=>by injection e) (λb o U e=>e))
 | succ m H=>
  have u:∀k,i+(k+1)=i+1+k:=λk=>f4 i k 1;rw [u] at z;refine a9 (wk.item i s _ E (iG (kS (i+1) m) z) st λv h' tk p t k l=>a9 (gQ (c6 (H (i+1) {s with heap:=h',toks:=tk} t z) (λvs s' q=>bX (hB q λd tk2 ρ j Q O k2=>?_)) λU U q=>q)));clear q;subst ρ;refine (qi d tk2 rfl (by rw [u];exact j) (congrArg pK Q) (λr a e=>?_) (λb o f e=>k2 b o f (k b o f e)));induction r using gF with
  | zero=>cases e;exact p
  | succ r=>rw [u];exact O r a e
theorem PD{vs:Array a4}(k:vals.length=vs.size)(z:∀(i:Nat) v,vals[i]? =some v->vs[i]? =some v):vals=vs.toList:=by
 apply xt;intro i;rw [show vs.toList[i]? =vs[i]? from xR];induction e:vals[i]? with
 | some v=>exact (z i v e).symm
 | none=>exact (Array.getElem?_eq_none (k▸IJ.mp e)).symm
theorem CW{m:List b7}{vs:Array a4}{St:Nat->bP->Prop}{E:bZ}(a:o.isFreed=false)(hn:∀{Q:Bool->bM->Prop},Q false s->b8 (b9 pw c.w) A (BR v) Q E s) (j:∀{Q:bZ},Q (.ref s.heap.objs.size) {s with heap:=s.heap.push o}->b8 (b9 pw c.w) A (pE v) Q E s) (l:Wk c A s.heap.objs.size m vs.size (λi v=>vs[i]? =some v) St) (z:St 0 (s.heap.push o)) : b8 (b9 pw c.w) A (BZ v vs.size none) (λvals s'=>vals=vs.toList/\Kp s.heap s'.heap/\SameRest s s') E s:=by unfold BZ;refine a9 (hn ?_);simp only [Jo,if_false];refine a9 (gQ (j (a9 (gQ (c6 (Qr l vs.size 0 {s with heap:=s.heap.push o} z (gW (iH _))) (λvals s1 q=>hB q λO d I k u f k1=>?_) λU U q=>q)))));clear q;subst I;rw [if_neg (λh=>Cg _ (iG h (gW u.symm)))];rw [iH] at k;refine a9 (gQ (l.done _ _ _ k λH tk2 k2 U=>?_));simp only [Option.isSome_none,Jo,if_false];refine bX ⟨PD u λi v e=>by have:=f i v e;rwa [iH] at this,λb t e=>?_,rfl,rfl⟩;have r:=jl (gX e);exact k2 b t r (k1 b t r (cS _ e))
theorem PB(f:A.handled=none){v:a4}{O:Ow}{E:bZ}(I:d= .t ds\/d= .l ds)(r:DR c O s.heap d v) : b8 (b9 pw c.w) A (BZ v ds.length none) (λvals s'=>DRs c O s.heap ds vals/\Kp s.heap s'.heap/\SameRest s s') E s:=by
 rcases I with rfl | rfl
 .refine a5 r λvs j m=>?_;obtain ⟨a,o,n,rfl,z,e,b,dd⟩:=j;have u:s.heap.IsTuple a vs:=(nK o e b.1 n dd);rw [m.len,om];refine c6 (CW (E:=λU U=>False) rfl (λ{Q} k=>?_) (λ{Q} k=>wpAny_pyIter_tuple u k) (Wk.tuple f _ a (jl (gX e)) vs) (vN (cF _ (dY _ rfl) rfl rfl) o (cS _ e) b.1 n dd)) (λvals s' q=>⟨by rw [q.1];exact m,q.2⟩) λU U q=>q.elim;unfold BR;exact a9 (wpAny_specialOf u.typeIs F.slot_tuple_iter.lookup (bX k))
 refine a5 r λvs j m=>?_;obtain ⟨a,o,n,rfl,z,e,b,dd⟩:=j;have u:s.heap.IsList a vs:=(nK o e b.1 n dd);rw [m.len,om];refine c6 (CW (E:=λU U=>False) rfl (λ{Q} k=>?_) (λ{Q} k=>wpAny_pyIter_list u k) (Wk.list f _ a (jl (gX e)) vs) (vN (cF _ (dY _ rfl) rfl rfl) o (cS _ e) b.1 n dd)) (λvals s' q=>⟨by rw [q.1];exact m,q.2⟩) λU U q=>q.elim;unfold BR;exact a9 (wpAny_specialOf u.typeIs slot_list_iter.lookup (bX k))
theorem xZ(H:Gd c)(hh:A.handled=none)(Q:EO c X Y sc vis){R:Gh->bM->Prop}{E:bZ}(t:TGT X sc vis xs u)(l:Rl c X xs R)(j:J c X g s.heap)(b:R g s)(o:DR c g.O s.heap d v)(e:cE g.f xs d=some f') : b8 (b9 pw c.w) A (assign u Y v) (λU s'=>∃N,N.f=f'/\J c X N s'.heap/\R N s') E s:=by
 cases t with
 | @one x nm p r=>refine xA (Mm e) λk ρ=>?_;clear e;subst ρ;exact BQ (c6 (vb (v:=.d d) (E:=λU U=>False) H Q j r.vis r.free k rfl r.pin o) (λU m q=>ck q λI e1 j1 st=>(cF I e1 j1 (l.sto x (.head _) g s I m st b))) λU U q=>q.elim)
 | many hl r=>refine a5 (LH hl e) λds hd hs=>?_;rw [arm_assign_Tuple];refine a9 (o3 ?_);unfold unpack;rw [r.len,r.plain,M0 hs];exact a9 (gQ (c6 (PB (E:=λU U=>False) hh hd o) (λvals m q=>dm q λa k sr=>KW H Q R r l.sto (j.kp H k) (l.kp g s m k sr b) (a.ext (k.zk λU z=>z)) hs) λU U q=>q.elim))
theorem XO:Rl c X xs λN s'=>St c true g s N s':=⟨λx U u v l w t st=>by obtain ⟨U,U,U,U,z⟩:=t;exact st.trans z,λu v w k r st=>st.kp k r⟩
theorem PX(H:Gd c)(v:CA A X)(m:EO c X Y sc vis)(I:xs.length≠1)(o:jJ e=true)(O:yt e=true)(tg:TG X sc vis xs es)(t:T c G A X Y C e):TS c G A X Y (.sT xs C) (.Assign [.Tuple es k p] e pos):=λg s j ns=>Assign_Tuple (t.d H j (.refl ..) rfl ns λd g1 r1 s1 b v1 z U w=>by refine a5 (fF ns w) λf' Q r=>c6 (xZ (E:=λU U=>False) H v.hh m (.many I tg) XO b z v1 Q) (λU s2 q=>ck q λf l a u=>?_) λU U q=>q.elim;exact ⟨.next,f,by rw [l];exact r,a,.next,u⟩) (by show uA e (some (.Tuple es k p)) pos.line Y=pure false;exact nA o) (MN O)
def YF(F:D->Fr->Out (Ctl×Fr))(ds:List D)(r:Ctl×Fr):Out (Ctl×Fr):=match r.1 with
 | .next=>fm F ds r.2
 | .brk=>.ok (.next,r.2)
 | .ret v=>.ok (.ret v,r.2)
def ww(G:cB)(xs:List Nat)(b:List S)(d:D)(f:Fr):Out (Ctl×Fr):=(cg (cE f xs d)).bind λf=>exs G b f
theorem O8{xs:List Nat}{z:Out (Ctl×Fr)}{ds:List D}{f:Fr}{k:Nat}(v:k< ds.length)(ns:z≠ .x)(e:z=fm (ww G xs b) (ds.drop k) f):∃u,cE f xs ds[k]=some u/\z=(exs G b u).bind (YF (ww G xs b) (ds.drop (k+1))):=by rw [IK v] at e;exact fF ns (e.trans (dZ ..))
inductive ForI(c:Cfg)(X:Cx)(G:cB)(g:Gh)(s:bM)(xs:List Nat)(b:List S)(items:List D)(I:b7)(out:Out (Ctl×Fr))(n:Nat)(s':bM):Prop
 | mk (N:Gh) (k:Nat) (hk:k<=items.length) (hn:n=items.length+1 -k) (j:J c X N s'.heap) (it:IterAt c N.O s'.heap items I k) (st:St c true g s N s') (e:out=fm (ww G xs b) (items.drop k) N.f)
theorem To(H:Gd c)(ca:CA A X)(fo:qL X Y)(eo:EO c X Y sc vis){iter u:a8}{b:List S}{sb:List cw}(hset:nB iter=true)(tg:TGT X sc vis xs u)(ti:TI c G A X Y rg it iter)(tb:TSS c G A X Y b sb):TS c G A X Y (.for xs rg it b) (.For u iter sb [] pos):=by
 intro g s j ns;generalize a:ex G (.for xs rg it b) g.f=out at ns;refine wpAny_For (ti (k:=λr=>fm (ww G xs b) r.1 r.2) j (.refl ..) a.symm ns λz g1 r s2 bg hlen e1=>?_) (yg hset);obtain ⟨I,rfl,iU,j1,it1,st1⟩:=bg;clear a ti;refine codeAny_forLoop_any (ForI c X G g s xs b z I out) (λn s3 I3=>?_) (z.length+1) ⟨g1,0,dR _,rfl,j1,it1,st1,e1⟩;clear e1 j1 it1 st1 j;obtain ⟨g3,k,hk,rfl,j3,it3,st3,e3⟩:=I3;by_cases hl:k=z.length
 .clear hk;subst hl;refine it3.last H ca.hh j3 st3 iU λs4 j4 o U=>?_;rw [J2] at e3;exact ry ⟨.next,g3,e3,j4,.next,o⟩
 have l:=Jg hk hl;refine it3.next H ca.hh j3 (fD l) st3 iU λv s4 j4 it4 d4 o U=>it4.go ca.hh (a5 (O8 l ns e3) λf5 hb e5=>c6 (xZ (R:=λN s'=>St c true g s N s'/\IterAt c N.O s'.heap z I (k+1)) (E:=λU U=>False) H ca.hh eo tg ⟨λx hx g1 s1 g2 s2 t w=>?_,λg1 s1 s2 kp sr w=>⟨w.1.kp kp sr,w.2.ext (kp.step c true _ _ λU U U=>rfl)⟩⟩ j4 ⟨o,it4⟩ d4 hb) (λU s5 w=>?_) λU U q=>q.elim)
 .obtain ⟨U,U,U,U,st2⟩:=t;exact ⟨w.1.trans st2,w.2.ext st2.st⟩
 clear e3 it3 st3 j3 it4 d4 o j4 iU tg eo hb;refine jN w λg5 ρ j5 d it5=>?_;clear w;subst ρ;refine c6 (tb g5 s5 j5 (iZ ns e5)) (λf s6 p=>?_) λx s' p=>?_
 .obtain ⟨kk,g6,e7,j6,r6,Q⟩:=p;rw [e7] at e5;cases r6 with
  | next=>exact (a7 (z.length+1 -(k+1)) (Jf (Ca l) (uN k)) ⟨g6,k+1,l,rfl,j6,it5.ext Q.st,d.trans Q,e5⟩)
  | brk=>exact ⟨.next,g6,e5,j6,.next,d.trans Q⟩
  | ret vr=>exact ⟨_,g6,e5,j6,.ret vr,d.trans Q⟩
 exact a5 p λm e er=>yU H ca fo (a7 m (by rw [e5,e];rfl) (er.lift d))
end
section
variable {M:fg}{A:cy}{E:bZ}{s:bM}{Y:cz}
def gf(p:List (a6×b7)):List (a6×iD)->List (a6×b7)->List (a6×b7)
 | [],acc=>acc
 | (n,k)::r,acc=>if k== .free then gf p r ((n,(p.lookup n).getD 0)::acc) else gf p r acc
theorem Kg(f:a6×iD->List (a6×b7)->Sem (ForInStep (List (a6×b7))))(t:∀n k z,f (n,k) z=if k== .free then (do let a <-cellOf Y n;pure (.yield ((n,a)::z))) else pure (.yield z)) (p:List (a6×iD)) (acc:List (a6×b7)) (h:∀x∈p,x.2= .free->(Y.cells.lookup x.1).isSome=true):(forIn p acc f:Sem _)=pure (gf Y.cells p acc):=by
 induction p generalizing acc with
 | nil=>rw [J8];rfl
 | cons x r y=>
  obtain ⟨n,k⟩:=x;have y:=λacc=>y acc λx l=>h x (.tail _ l);rw [C6,t];by_cases q:(k==pT)=true
  .rw [if_pos q,show gf Y.cells ((n,k)::r) acc=gf Y.cells r ((n,(Y.cells.lookup n).getD 0)::acc) from if_pos q];refine xE (lS.mp (h (n,k) (.head _) (eq_of_beq q))) λa u=>?_;have v:cellOf Y n=pure a:=by unfold cellOf;dsimp only at u;rw [u]
   rw [v,u];exact y _
  rw [if_neg q,show gf Y.cells ((n,k)::r) acc=gf Y.cells r acc from if_neg q];exact y _
theorem CP(h:∀x∈scope.names,x.2= .free->(Y.cells.lookup x.1).isSome=true):xh scope Y=pure (gf Y.cells scope.names []):=by simp only [xh];rw [Kg _ (λn k p=>rfl) scope.names [] h];rfl
theorem Ms{p:List (a6×b7)}(v:p.lookup n=some a){q:List (a6×iD)}{acc:List (a6×b7)}(h:acc.lookup n=some a\/(n,pT)∈q):(gf p q acc).lookup n=some a:=by
 induction q generalizing acc with
 | nil=>exact h.resolve_right λh=>by cases h
 | cons x r u=>
  obtain ⟨y,k⟩:=x;by_cases z:(k==pT)=true
  .rw [show gf p ((y,k)::r) acc=gf p r ((y,(p.lookup y).getD 0)::acc) from if_pos z];refine u ?_;by_cases hn:n=y
   .clear h;subst hn;left;rw [gU,beq_self_eq_true,v];rfl
   rw [gU,beq_eq_false_iff_ne.mpr hn];exact h.imp id λh=>(dp.mp h).resolve_left λe=>hn (pU e).1
  rw [show gf p ((y,k)::r) acc=gf p r acc from if_neg z];exact u (h.imp id λh=>(dp.mp h).resolve_left λe=>z (by rw [<-(pU e).2];rfl))
end
section
variable {prog:rF}{w:cQ}{A:cy}{E:bZ}{R:rJ->bM->Prop}{s:bM}
theorem Lg(I:Nat->bM->Prop) (d:∀n s,I n s->b8 (b9 prog w) A (gE it) (λr s₁=>match r with
   | none=>R (.ok .next) s₁
   | some v=>b8 (b9 prog w) A (uu k it v) (λU p=>b8 (b9 prog w) A (assign k Y v) (λU z=>b8 (b9 prog w) A (forIn N true λc r=>if r=true then do let o <-rH c Y (eu c Y);pure (xW o) else pure (xW r)) (λo q=>if o=true then b8 (b9 prog w) A (eu Q Y) (λx u=>b8 (b9 prog w) A (call (.builtin "list.append") [acc,x]) (λU t=>∃m,m< n/\I m t) (kQ (b9 prog w) A Y λe s'=>R (.error e) s') u) (kQ (b9 prog w) A Y λe s'=>R (.error e) s') q
      else ∃m,m< n/\I m q) (kQ (b9 prog w) A Y λe s'=>R (.error e) s') z) (kQ (b9 prog w) A Y λe s'=>R (.error e) s') p) (kQ (b9 prog w) A Y λe s'=>R (.error e) s') s₁) (kQ (b9 prog w) A Y λe s'=>R (.error e) s') s)
  (n:Nat) (h:I n s) :
  mU (b9 prog w) A (.compLoop (.ListComp Q [⟨k,iter,N,0⟩] scope pos) 0 it acc Y) R s:=by
 refine codeAny_loop rfl I (λn s G=>?_) n h;refine wpAny_noted ?_;rw [compTurn_list];refine a9 (o3 (a9 (c6 (d n s G) (λr s₁ h₁=>?_) λU U h'=>h')));induction r with
 | none=>exact bX h₁
 | some v=>
  refine a9 (c6 h₁ (λU p l=>a9 (c6 l (λU z j=>a9 (c6 j (λo q y=>?_) λU U h'=>h')) λU U h'=>h')) λU U h'=>h');induction o with
  | false=>exact bX ⟨rfl,y⟩
  | true=>exact a9 (a9 (c6 y (λx u i=>a9 (c6 i (λU t f=>bX (bX ⟨rfl,f⟩)) λU U h'=>h')) λU U h'=>h'))
end
structure Ctx(c:Cfg)(n:Nat)(bor:Bool)(cq:a4×a6)(sc:cD)(vis:List (Nat×a6))(offs:List Nat)(A:cy)(X:Cx)(Y:cz):Prop where
 eo:EO c X Y sc vis
 fo:qL X Y
 cb:CB A X.fs (n+1)
 off:∀y∈offs,X.pl[y]? =some .off
 pin:bor=false->X.pin=none
 cq:(Y.code,Y.qual)=cq
def kH(scope sc:cD):cD:={scope with names:=scope.names.map λ(n,k)=>if (k== .free&&sc.kind== .function&&sc.names.lookup n==some .cell) then (n,.cell) else (n,k)}
def a0G(k:List (Nat×a6))(scope:cD)(xs:List (Nat×a6)):List (Nat×a6):=xs++k.filter λp=>scope.names.lookup p.2==some .free
structure CompSc(sc:cD)(vis:List (Nat×a6))(scope:cD)(xs:List (Nat×a6)):Prop where
 kind:scope.kind= .function
 cell:∀y∈scope.names,y.2≠ .cell
 names:∀y∈scope.names,y.2= .local->scope.names.lookup y.1=some .local
 loc:∀p∈xs,scope.names.lookup p.2=some .local
 free:∀y∈scope.names,y.2= .free->∃x,(x,y.1)∈vis/\(sc.names.lookup y.1=some .cell\/sc.names.lookup y.1=some .free)
 nd:(xs.map (·.1)).Nodup
 nd2:(xs.map (·.2)).Nodup
 ne:xs≠[]
theorem Lj{F:a6×iD->a6×iD}(u:∀p,(F p).1=p.1){k:iD}{q:List (a6×iD)}(h:q.lookup n=some k):(q.map F).lookup n=some (F (n,k)).2:=by
 induction q with
 | nil=>injection h
 | cons p q z=>
  have h:(match n==p.1 with | true=>some p.2 | false=>q.lookup n)=some k:=h;show (match n==(F p).1 with | true=>some (F p).2 | false=>(q.map F).lookup n)=_;rw [u];induction y:n==p.1 with
  | true=>rw [y] at h;obtain rfl:=bv h;clear z h;obtain rfl:=eq_of_beq y;rfl
  | false=>rw [y] at h;exact z h
theorem CN{sc:cD}{n:a6}{k:iD}{q:List (a6×iD)}(h:q.lookup n=some k) : (q.map λ(n,k)=>if (k==pT&&sc.kind== .function&&sc.names.lookup n==some .cell) then (n,xU) else (n,k)).lookup n=some (if (k==pT&&sc.kind== .function&&sc.names.lookup n==some .cell) then xU else k):=by exact (Lj (F:=λp=>if (p.2==pT&&sc.kind== .function&&sc.names.lookup p.1==some .cell)=true then (p.1,xU) else (p.1,p.2)) (λp=>(apply_ite Prod.fst _ _ _).trans (ite_self _)) h).trans (congrArg some (apply_ite Prod.snd _ _ _))
theorem ya{names:List (a6×iD)}(h:names.lookup n=some k):(n,k)∈names:=by
 induction names with
 | nil=>injection h
 | cons p names y=>
  have h:(match n==p.1 with | true=>some p.2 | false=>names.lookup n)=some k:=h;induction q:n==p.1 with
  | true=>rw [q] at h;obtain rfl:=bv h;clear y h;obtain rfl:=eq_of_beq q;exact .head _
  | false=>rw [q] at h;exact .tail _ (y h)
def Cx.put(X:Cx)(x:Nat)(p:Place):Cx:={X with pl:=X.pl.set x p}
def Cx.puts(X:Cx)(C:b7):List (Nat×a6)->Cx
 | []=>X
 | (x,nm)::r=>(X.puts C r).put x (.loc C nm)
theorem nx(X:Cx)(C:b7):∀xs:List (Nat×a6),(X.puts C xs).fs=X.fs/\(X.puts C xs).pin=X.pin/\(X.puts C xs).pl.length=X.pl.length:=by
 intro xs;induction xs with
 | nil=>exact ⟨rfl,rfl,rfl⟩
 | cons p r k=>exact dm k λa b d=>⟨a,b,by show ((X.puts C r).pl.set _ _).length=_;rw [J6];exact d⟩
theorem FZ{X:Cx}(h:y≠x):(X.put x p).pl[y]? =X.pl[y]?:=by simp [Cx.put,k8 h]
theorem sO(X:Cx)(C:b7):∀{xs:List (Nat×a6)},y∉xs.map (·.1)->(X.puts C xs).pl[y]? =X.pl[y]?:=by
 intro xs;induction xs with
 | nil=>exact λU=>rfl
 | cons p r k=>intro h;simp only [eZ,dp,not_or] at h;show ((X.puts C r).put p.1 _).pl[y]? =_;rw [FZ h.1];exact k h.2
theorem yY(X:Cx)(C:b7):∀{xs:List (Nat×a6)},(xs.map (·.1)).Nodup->(∀p∈xs,X.pl[p.1]? =some .off)->(x,nm)∈xs->(X.puts C xs).pl[x]? =some (.loc C nm):=by
 intro xs;induction xs with
 | nil=>exact λU U k=>by cases k
 | cons p r v=>
  intro nd q k;obtain ⟨y,n⟩:=p;simp only [eZ,jZ] at nd;rcases dp.mp k with e | k
  .cases e;have:=(gS.mp (q _ (.head _))).1;have:x< (X.puts C r).pl.length:=by rw [(nx X C r).2.2];exact this
   show ((X.puts C r).pl.set x _)[x]? =_;rw [xl this]
  have u:x≠y:=λe=>nd.1 (e▸cM.mpr (a7 _ k rfl));show ((X.puts C r).put y _).pl[x]? =_;rw [FZ u];exact v nd.2 (λp z=>q p (.tail _ z)) k
theorem vI{X:Cx}{xs:List (Nat×a6)}(nd:(xs.map (·.1)).Nodup)(u:∀p∈xs,X.pl[p.1]? =some .off)(e:(X.puts C xs).pl[y]? =some q):(∃nm,(y,nm)∈xs/\q= .loc C nm)\/(y∉xs.map (·.1)/\X.pl[y]? =some q):=by
 by_cases k:y∈xs.map (·.1)
 .refine a5 (cM.mp k) λp z v=>?_;clear k;subst v;rw [yY X C nd u z] at e;exact .inl (a7 p.2 z ((bv e).symm))
 rw [sO X C k] at e;exact .inr ⟨k,e⟩
theorem MP{z t:Type}{f:z->t}{xs:List z}(nd:(xs.map f).Nodup){p q:z}(y:p∈xs)(k:q∈xs)(e:f p=f q):p=q:=by
 induction xs with
 | nil=>cases y
 | cons x xs v=>
  refine xA (jZ.mp nd) λu r=>?_;cases y with
  | head=>cases k with
   | head=>rfl
   | tail U k=>exact absurd (by rw [e];exact xm k) u
  | tail U y=>cases k with
   | head=>exact absurd (by rw [<-e];exact xm y) u
   | tail U k=>exact v r y k
theorem MQ{k p:Type}{xs:List (k×p)}(nd:(xs.map (·.2)).Nodup){a a':k}{b:p}(h:(a,b)∈xs)(h':(a',b)∈xs):a=a':=(pU (MP nd h h' rfl)).1
theorem E8:∀{xs:List Nat} {f:Fr},y∉xs->rd (a0E f xs) y=rd f y
 | [],_,_=>rfl
 | x::xs,f,h=>by simp only [dp,not_or] at h;show rd (a0E (f.set x .u) xs) y=_;rw [E8 h.2,oW _ h.1]
set_option tactic.hygienic true in
theorem Ll:∀{xs:List Nat} {f:Fr},y∈xs\/rd f y= .u->rd (a0E f xs) y= .u:=by
 intro xs;induction xs with
 | nil=>exact λh=>h.resolve_left λh=>by cases h
 | cons x xs p=>
  intro f h;by_cases k:y=x
  .clear h;subst k;refine p (.inr ?_);rw [zy];split
   .rfl
   rename_i q;exact G0 _ _ (i7 λw=>q ⟨rfl,w⟩)
  refine p (h.imp (λh=>(dp.mp h).resolve_left k) λh=>by rw [oW _ k];exact h)
theorem Dw:∀{xs:List Nat} {f:Fr},(a0E f xs).length=f.length
 | [],_=>rfl
 | x::xs,f=>by show (a0E (f.set x .u) xs).length=_;rw [Dw,J6]
section
variable {c:Cfg}{X:Cx}{g:Gh}{h h':bP}{xs:List (Nat×a6)}{C:b7}
theorem J.aL(j:J c X g h){m:a6->Option a4}(hn:h.Ns C m)(x:g.O C= .lo)(t:∀(y:Nat) (n:a6),X.pl[y]? ≠some (.loc C n))(nd:(xs.map (·.1)).Nodup)(o:(xs.map (·.2)).Nodup)(d:∀p∈xs,X.pl[p.1]? =some .off/\(X.pin=none\/p.1≠0)):J c (X.puts C xs) g h:=by
 have k:∀p∈xs,X.pl[p.1]? =some .off:=λp b=>(d p b).1;refine dm (nx X C xs) λf1 I G=>⟨by rw [G];exact j.lf,λy q e=>?_,j.gr,j.lv,by rw [f1];exact j.ff,λy z q l u Q=>?_,λr e=>?_,j.gi⟩
 .rcases vI nd k e with ⟨nm,v,rfl⟩ | ⟨U,e⟩
  .have N:=(j.slot y _ (k _ v)).off rfl;refine ⟨(λe=>by injection e),λL n e=>?_,(λa e=>by injection e),λU=>(a7 (m nm) (a7 m hn rfl) (.inl N))⟩;cases e;exact ⟨x,by rw [N];rfl⟩
  exact j.slot y q e
 .rcases vI nd k l with ⟨nm,v,rfl⟩ | ⟨U,l⟩<;>rcases vI nd k u with ⟨nm',i,w⟩ | ⟨U,u⟩
  .cases w;exact MQ o v i
  .exact absurd u (t _ _)
  .clear u Q;subst w;exact absurd l (t _ _)
  exact j.inj y z q l u Q
 rw [I] at e;refine a5 (j.pin r e) λp B H=>(a7 p ?_ H);rw [sO]
 .exact B
 refine λv=>a5 (cM.mp v) λp' f q=>?_;rcases (d p' f).2 with w | w
 .rw [w] at e;injection e
 exact w q
theorem J.aM(H:Gd c)(j:J c (X.puts C xs) g h)(hC:g.O C= .lo)(hF:∀e∈X.fs,e.frame≠some C)(N:∀(y:Nat) (n:a6),X.pl[y]? ≠some (.loc C n))(nd:(xs.map (·.1)).Nodup)(ho:∀p∈xs,X.pl[p.1]? =some .off/\(X.pin=none\/p.1≠0)):J c X ⟨a0E g.f (xs.map (·.1)),cO g.O C .no⟩ h:=by
 have m:∀p∈xs,X.pl[p.1]? =some .off:=λp d=>(ho p d).1;refine dm (nx X C xs) λf1 x f3=>?_;have ne:∀{b:b7} {t:Tag},g.O b=t->t≠ .lo->b≠C:=λe ht w=>ht (by rw [<-e,w];exact hC);have u:∀{b:b7} {t:Tag},g.O b=t->t≠ .lo->cO g.O C .no b=t:=λe ht=>(dB (ne e ht)).trans e;have I:∀{y:Nat} {q:Place},y∉xs.map (·.1)->X.pl[y]? =some q->(X.puts C xs).pl[y]? =some q:=λl e=>by rw [sO X C l];exact e
 refine ⟨by rw [Dw];exact j.lf.trans f3,λy q e=>?_,λb i=>u (j.gr b i) (λh=>by injection h),λb i=>j.lv b λw=>i ?_,λe he=>?_,λy z q Q B hq=>?_,λr e=>?_,j.gi.kp H j.gr λb o e v=>⟨e,?_⟩⟩
 .by_cases l:y∈xs.map (·.1)
  .refine a5 (cM.mp l) λp d G=>?_;subst G;obtain rfl:=bv ((m p d).symm.trans e);refine ⟨λU=>Ll (.inl l),(λL n e=>by injection e),(λa e=>by injection e),λe=>absurd rfl e⟩
  rw [E8 l];have s:=j.slot y q (I l e);refine s.ext (.tag λb z=>u z (λh=>by injection h)) (λb k o z eo=>⟨eo,u z (λh=>by injection h)⟩) (λb i=>dB λw=>?_) λU hh=>hh;induction q with
  | off=>exact i
  | loc L n=>cases i;clear j hC hF f1 x f3 ne u I;subst w;exact N y n e
  | cel a=>cases i;clear j hF N f1 x f3 ne u I;subst w;have:=s.cel _ rfl;rw [hC] at this;split at this<;>injection this
 .show cO g.O C .no b= .no;unfold cO;split
  .rfl
  exact w
 .exact tG (j.ff e (by rw [f1];exact he)) λk L Q t w=>(tw k L Q (by show cO g.O C .no L=_\/cO g.O C .no L=_;rw [dB λw=>hF e he (by rw [Q,w])];exact t) w)
 .by_cases l:y∈xs.map (·.1)
  .refine a5 (cM.mp l) λp d G=>?_;clear l;subst G;clear B;obtain rfl:=bv ((m p d).symm.trans Q);exact absurd rfl hq
  by_cases v:z∈xs.map (·.1)
  .refine a5 (cM.mp v) λp d G=>?_;clear v;subst G;clear Q;obtain rfl:=bv ((m p d).symm.trans B);exact absurd rfl hq
  exact j.inj y z q (I l Q) (I v B) hq
 .refine a5 (j.pin r (by rw [x];exact e)) λp h1 h2=>?_;rcases vI nd m h1 with ⟨nm,hm,U⟩ | ⟨U,h1⟩
  .rcases (ho _ hm).2 with w | w
   .rw [w] at e;injection e
   exact absurd rfl w
  exact (a7 p h1 h2)
 rcases v with v | v
 .rw [v];exact u v (λh=>by injection h)
 rw [v];exact u v (λh=>by injection h)
end
section
variable {c:Cfg}{G:cB}{A:cy}{X:Cx}{Y:cz}{sc scope:cD}{I xs:List (Nat×a6)}{g z N:Gh}{h h':bP}{s s' Q:bM}{M:fg}{n:Nat}{bor:Bool}{v:a4×a6}{B:List Nat}{q:Bool}
theorem D6(k:EO c X Y sc I):uC scope Y=kH scope sc:=by unfold uC kH jp;rw [k.scope]
theorem DH(w:Ctx c n bor v sc I B A X Y)(r:CompSc sc I scope xs):xh scope Y=pure (gf Y.cells scope.names []):=by
 refine CP λy j t=>a5 (r.free y j t) λx m p=>a5 (w.eo.res _ m) λq l u=>?_;clear l;induction q with
 | off=>exact u.elim
 | loc L nm=>
  refine dm u λU U k=>?_;unfold jp at k;rw [w.eo.scope] at k;dsimp only at k;rw [k] at p;rcases p with p | p<;>cases p
 | cel a=>exact lS.mpr ⟨a,u.2⟩
theorem DI(u:Ctx c n bor v sc I B A X Y)(f:CompSc sc I scope xs)(hxo:∀p∈xs,p.1∈B)(C:b7) : Ctx c n bor v (kH scope sc) (a0G I scope xs) (B.filter λy=>!(xs.map (·.1)).contains y) A (X.puts C xs) (compEnvC scope (gf Y.cells scope.names []) C Y):=by
 have t:∀p∈xs,X.pl[p.1]? =some .off:=λp w=>u.off _ (hxo p w);refine ⟨⟨f.kind,D6 u.eo,u.eo.glob,u.eo.blt,λp w=>?_⟩,?_,?_,λy hy=>?_,λhb=>by rw [(nx X C xs).2.1];exact u.pin hb,u.cq⟩
 .rcases mZ.mp w with w | w
  .refine (a7 (.loc C p.2) (yY X C f.nd t w) ⟨rfl,rfl,?_⟩);exact lookup_relabel_local (f.loc p w)
  refine xA (mY.mp w) λw hl=>a5 (u.eo.res _ w) λq o d=>?_;have i:scope.names.lookup p.2=some .free:=by simpa using hl
  have j:=ya i;have O:p.1∉xs.map (·.1):=λj=>by refine a5 (cM.mp j) λp' H e=>?_;have:=t p' H;rw [e,o] at this;clear o;obtain rfl:=bv this.symm;exact d
  refine (a7 q (by rw [sO X C O];exact o) ?_);clear o;induction q with
  | off=>exact d.elim
  | loc L nm=>
   refine dm d λU U k=>?_;unfold jp at k;rw [u.eo.scope] at k;refine a5 (f.free _ j rfl) λx hv m=>?_;dsimp only at k m;rw [k] at m;rcases m with m | m<;>cases m
  | cel a=>
   refine ⟨?_,Ms d.2 (.inr j)⟩;show (uC scope Y).names.lookup p.2=some .cell\/(uC scope Y).names.lookup p.2=some .free;rw [D6 u.eo];have:=CN (sc:=sc) i;unfold kH;rw [this];split
   .exact .inl rfl
   exact .inr rfl
 .exact cU u.fo λr l h1 h2=>(dU r l (by rw [(nx X C xs).1];exact h1) h2)
 .rw [(nx X C xs).1];exact u.cb
 refine xA (mY.mp hy) λhy b=>?_;rw [sO X C (λj=>by rw [jF] at b;rw [C1.mpr j] at b;injection b)];exact u.off y hy
inductive TgE:List (Nat×a6)->List a8->Prop
 | nil:TgE [] []
 | cons {x nm p xs es}:TgE xs es->TgE ((x,nm)::xs) (.Name nm p::es)
inductive TgtE:List (Nat×a6)->a8->Prop
 | one {x nm p}:TgtE [(x,nm)] (.Name nm p)
 | many {xs es k p}:xs.length≠1->TgE xs es->TgtE xs (.Tuple es k p)
theorem TgE.tg(t:TgE xs es){u:Cx}{y:cD}{k:List (Nat×a6)}(h:∀p∈xs,Tgt u y k p.1 p.2):TG u y k (xs.map (·.1)) es:=by
 induction t with
 | nil=>exact .nil
 | cons U r=>exact .cons (h _ (.head _)) (r λp w=>h p (.tail _ w))
theorem TgtE.tgt{target:a8}(t:TgtE xs target){u:Cx}{y:cD}{k:List (Nat×a6)}(h:∀p∈xs,Tgt u y k p.1 p.2):TGT u y k (xs.map (·.1)) target:=by
 cases t with
 | one=>exact .one (h _ (.head _))
 | many w t=>exact .many (by simpa using w) (t.tg h)
theorem NU(r:Ctx c n bor v sc I B A X Y)(w:CompSc sc I scope xs)(y:∀p∈xs,bor=true->p.1≠0)(C:b7):∀p∈xs,Tgt (X.puts C xs) (kH scope sc) (a0G I scope xs) p.1 p.2:=λp k=>by
 refine ⟨o9 _ k,?_,?_⟩
 .unfold kH;rw [CN (w.loc p k)];rfl
 unfold li;rw [(nx X C xs).2.1];induction u:bor with
 | false=>exact .inl (r.pin u)
 | true=>exact .inr (y p k u)
inductive LAt(c:Cfg)(O:Ow)(h:bP)(D:b7)(ys:List Internal.D):Prop
 | mk (vs:Array a4) (n:Nat) (t:O D= .no) (e:h.get? D=some {cls:=.type "list",dict:=none,data:=.seq vs n,slots:=#[]}) (r:DRs c O h ys vs.toList)
theorem LAt.ext{O O':Ow}{D:b7}{ys:List Internal.D}(x:LAt c O h D ys)(st:Step c q O h O' h'):LAt c O' h' D ys:=by obtain ⟨vs,n,t,e,r⟩:=x;exact xA (st.no t e) λk p=>⟨vs,n,p,k,r.ext st.zk⟩
theorem J.aw(j:J c X g h){b:b7}(e:h.get? b=none):g.O b= .no:=xT λw=>by refine xE (j.lv b w) λo k=>?_;rw [e] at k;injection k
theorem St.re(st:St c q g s z s'){f:Fr}{O:Ow}(k:∀b o,s.heap.get? b=some o->O b=z.O b):St c q g s ⟨f,O⟩ s':=⟨λb o e=>by exact a5 (st.st b o e) λy p w=>(a7 y p (by show Tg _ (O b)/\_;rw [k b o e];exact w)),st.sr⟩
theorem St.sto(st:St c q N Q g s){x:Nat}(t:Sto c X x g s z s'){p:Place}(d:X.pl[x]? =some p)(iU:∀b,p.at b->Q.heap.get? b=none):St c q N Q z s':=by
 obtain ⟨pl,y,gI,r,u⟩:=t;obtain rfl:=bv (d.symm.trans y);refine ⟨λb o e=>ck (st.st b o e) λj i k l=>?_,st.sr.trans u.sr⟩;have O:¬p.at b:=λw=>by rw [iU b w] at e;injection e
 have f:=gI b j O i;refine (a7 j f ?_);rcases r b with m | m
 .rcases k with k | k | ⟨k,C⟩
  .rw [k] at m;exact ⟨.inr (.inl m),.inl (t8 m q)⟩
  .exact ⟨.inr (.inl k),.inl (t8 k q)⟩
  rw [C] at m;injection m
 rw [m];exact ⟨k,l⟩
inductive TT1(c:Cfg)(G:cB)(A:cy)(X:Cx)(Y:cz):Option Internal.E->List a8->Prop
 | none:TT1 c G A X Y none []
 | some {t e}:TB c G A X Y t e->TT1 c G A X Y (some t) [e]
theorem TT1.t{l:Type}{p:Out l}{k:Bool×Fr->Out l}{K:Bool->bM->Prop}(t:TT1 c G A X Y m y)(j:J c X g s.heap)(st:St c q N Q g s)(u:p=(evTo G m g.f).bind k)(ns:p≠ .x) (h:∀b z s',J c X z s'.heap->St c q N Q z s'->p=k (b,z.f)->K b s') : b8 (b9 pw c.w) A (forIn y true λc r=>if r=true then do let i <-rH c Y (eu c Y);pure (xW i) else pure (xW r)) K (Pe c X q N Q p) s:=by
 cases t with
 | none=>exact wpAny_tests_nil (h true g s j st u)
 | some t=>exact wpAny_tests_one (t.t j st u ns h)
theorem yE{m:a6->Option a4}(hn:h.Ns C m):∃o,h.get? C=some o:=d8 hn λo U U e U=>⟨o,e⟩
theorem HasTb.but{m:a6->Option a4}(t:HasTb h e)(hn:h.Ns C m)(k:jm C h h'):HasTb h' e:=by
 obtain ⟨a,j,vs,T,l,O,rfl,q1,p,i,y,u,f⟩:=t;refine kA hn λo es H e d U=>?_;have w:a≠C:=λq=>by rw [q,e] at q1;clear e;obtain rfl:=bv q1.symm;rw [d] at p;injection p
 have r:T≠C:=λq=>by rw [q,e] at y;clear e;obtain rfl:=bv y.symm;rw [d] at u;injection u
 exact ⟨a,j,vs,T,l,O,rfl,(k.2 a w).trans q1,p,i,(k.2 T r).trans y,u,f⟩
theorem Er.but(H:Gd c){fs:List cz}{C:b7}{m:a6->Option a4}{t:Tx}{e:a4}(st:St c q N Q g s)(er:Er c fs false g.O s t e s')(hC:g.O C= .lo)(iU:Q.heap.get? C=none)(hn:s.heap.Ns C m)(hF:∀e∈fs,e.frame≠some C) : s'.heap.Ns C m/\∀h',jm C s'.heap h'->Er c fs q N.O Q t e {s' with heap:=h'}:=by
 obtain ⟨O',st',sr,j,x⟩:=er;refine kA hn λo es ep e d w=>ck (st' C o e) λo' e' tg l=>?_;rw [hC] at tg l;have hC':=tg.resolve_right λw=>by rcases w with w | ⟨w,U⟩<;>injection w
 have l':=l.resolve_left λw=>by injection w
 refine ⟨(vP o' es ep e' ((l'.same (.inl ⟨(λh=>by injection h),λh=>by injection h⟩) (.inl λh=>by injection h)).trans d) w),λh' k=>?_⟩;have ne:∀{b:b7} {t:Tag},O' b=t->t≠ .lo->b≠C:=λe ht w=>ht (by rw [<-e,w];exact hC');have u:∀{b:b7} {t:Tag},O' b=t->t≠ .lo->cO O' C .no b=t:=λe ht=>(dB (ne e ht)).trans e;have f:∀{b:b7} {o:cn},b≠C->s'.heap.get? b=some o->h'.get? b=some o:=λi e=>(k.2 _ i).trans e;refine ⟨cO O' C .no,λb o eo=>?_,st.sr.trans sr,⟨rfl,λx p e=>by simp [X0] at e,λb i=>u (j.gr b i) (λh=>by injection h),λb i=>?_,λe he=>?_,λx y p e=>by simp [X0] at e,λr e=>by simp [X0] at e,j.gi.kp H j.gr λb o e hz=>?_⟩,?_⟩
 .have i:b≠C:=λw=>by rw [w,iU] at eo;injection eo
  exact a5 ((st.st.trans st'.up) b o eo) λo2 e2 w2=>(a7 o2 (f i e2) (by rw [dB i];exact w2))
 .have hc:b≠C:=λw=>i (by rw [w];exact fR);exact xE (j.lv b λw=>i ((dB hc).trans w)) λo eo=>⟨o,f hc eo⟩
 .refine kq (j.ff e he) λk1 L e1 t1 o1 e2 w1=>?_;have hL:L≠C:=λw=>hF e he (by rw [e1,w]);exact (qh k1 L e1 (by show cO O' C .no L=_\/cO O' C .no L=_;rw [dB hL];exact t1) o1 (f hL e2) w1)
 .have i:b≠C:=by rcases hz with hz | hz<;>exact ne hz λh=>by injection h
  exact ⟨f i e,dB i⟩
 obtain ⟨a,oe,d,od,vs,n,t,t',he,ga,ec,ed,ev,sz,gd,dc,dd,na,nd,oa,o',tb⟩:=x.old λb=>st.st.gone;refine ⟨a,oe,d,od,vs,n,t,t',he,f (ne oa λh=>by injection h) ga,ec,ed,ev,sz,f (ne o' λh=>by injection h) gd,dc,dd,na,nd,u oa (λh=>by injection h),u o' (λh=>by injection h),tb.imp id λ⟨T,e,w⟩=>(a7 T e ?_)⟩;obtain ⟨oT,ts,n1,n2,n3,n4,n5,n6⟩:=w;exact ⟨oT,ts,n1,f (ne n6 λh=>by injection h) n2,n3,n4,n5,u n6 (λh=>by injection h)⟩
end
def q8(G:cB)(e:E)(xs:List Nat)(u:Option E)(d:D)(f:Fr):Out (Option D×Fr):=(cg (cE f xs d)).bind λf=>(evTo G u f).bind λt=>match t.1 with
   | true=>(ev G e t.2).bind λr=>(fz r).bind λq=>.ok (some q.1,q.2)
   | false=>.ok (none,t.2)
section
variable {N:Cx}{C D I:b7}{Y:List Internal.D}{ce:Internal.E}{u:Option Internal.E}{c:Cfg}{G:cB}{A:cy}{X:Cx}{B:cz}{sc scope:cD}{a0 xs:List (Nat×a6)}{g Q a1:Gh}{h h':bP}{s s' a2:bM}{M:fg}{n:Nat}{bor:Bool}{cq:a4×a6}{a:List Nat}{q:Bool}{pos:c8}
def qe{y:Type}(c:Cfg)(X:Cx)(q:Bool)(g:Gh)(s:bM)(z:V×Fr->Out y)(p:Out y)(acc:a4)(C:b7):rJ->bM->Prop
 | .ok _,s'=>∃k ys m,J c X k s'.heap/\VR c k.O s'.heap 0 (.ol ys) acc/\k.O C= .no/\s'.heap.Ns C m/\s.heap.get? C=none/\St c q g s k s'/\p=z (.ol ys,k.f)
 | .error e,s'=>∃m,s'.heap.Ns C m/\∀h',jm C s'.heap h'->Pe c X q g s p e {s' with heap:=h'}/\HasTb h' e
structure CS(X N:Cx)(xs:List (Nat×a6))(s:bM)(C D I:b7):Prop where
 hX:X.puts C xs=N
 pl:∀p∈xs,N.pl[p.1]? =some (.loc C p.2)
 nn:xs≠[]
 nd:(xs.map (·.1)).Nodup
 sC:s.heap.get? C=none
 sD:s.heap.get? D=none
 sI:s.heap.get? I=none
 dc:D≠C
 di:D≠I
 hF:∀e∈X.fs,e.frame≠some C
 hne:∀(y:Nat) (n:a6),X.pl[y]? ≠some (.loc C n)
 off:∀p∈xs,X.pl[p.1]? =some .off/\(X.pin=none\/p.1≠0)
inductive CI{α:Type}(c:Cfg)(G:cB)(N:Cx)(xs:List (Nat×a6))(ce:Internal.E)(u:Option Internal.E)(Y:List Internal.D)(I D:b7)(q:Bool)(g:Gh)(s:bM)(kk:V×Fr->Out α)(out:Out α)(m:Nat)(s':bM):Prop
 | mk (Q:Gh) (k:Nat) (ys:List Internal.D) (hk:k<=Y.length) (hm:m=Y.length+1 -k) (hy:ys.length<=k) (j:J c N Q s'.heap) (it:IterAt c Q.O s'.heap Y I k) (l:LAt c Q.O s'.heap D ys) (st:St c q g s Q s')
   (e:out=(iO (q8 G ce (xs.map (·.1)) u) (Y.drop k) Q.f).bind λq=>kk (.ol (ys++q.1),a0E q.2 (xs.map (·.1))))
theorem CS.tC(S:CS X N xs s C D I)(j:J c N Q h'):Q.O C= .lo/\∃m,h'.Ns C m:=by refine xE (List.exists_mem_of_ne_nil _ S.nn) λp0 k=>?_;have p:=j.slot p0.1 _ (S.pl p0 k);refine a5 (p.val λw=>by injection w) λU z U=>?_;obtain ⟨m,y,U⟩:=z;exact (iT ((p.loc _ _ rfl).1) m y)
theorem IterAt.tag{i:Nat}(x:IterAt c O h Y I i):O I= .no:=by obtain ⟨U,U,U,U,U,t,U⟩:=x;exact t
theorem LAt.but{ys:List Internal.D}(x:LAt c O h D ys)(p:D≠I)(t:O I= .no)(k:∀b o,b≠I->h.get? b=some o->h'.get? b=some o):LAt c O h' D ys:=by obtain ⟨vs,n,y,e,r⟩:=x;exact ⟨vs,n,y,k D _ p e,r.ext (qr t k)⟩
theorem NS{α:Type}{v:V×Fr->Out α}{k:Out α}(H:Gd c)(S:CS X N xs s C D I){ys:List Internal.D}(j:J c N Q s'.heap)(l:LAt c Q.O s'.heap D ys)(st:St c q g s Q s')(e:k=v (.ol ys,a0E Q.f (xs.map (·.1)))):qe c X q g s v k (.ref D) C (.ok .next) s':=by
 refine fx (S.tC j) λd m hm=>?_;obtain ⟨vs,n,t,i,r⟩:=l;have y:=(S.hX▸j:J c (X.puts C xs) Q s'.heap).aM H d S.hF S.hne S.nd S.off;have dn:cO Q.O C .no D= .no:=(dB S.dc).trans t;have zD:∀b,cO Q.O C .no b≠ .no->cO (cO Q.O C .no) D (.own 0 0) b=cO Q.O C .no b:=λb p=>dB λw=>p (w▸dn);have zz:∀b,Q.O b= .z->cO (cO Q.O C .no) D (.own 0 0) b= .z:=λb z=>by have x:cO Q.O C .no b= .z:=(dB λw=>by rw [w,d] at z;injection z).trans z;exact (zD b (by rw [x];exact λh=>by injection h)).trans x
 exact ⟨⟨a0E Q.f (xs.map (·.1)),cO (cO Q.O C .no) D (.own 0 0)⟩,ys,m,y.aF H (λb o e hc=>⟨e,zD b (ja hc).2.2⟩) (λb p=>(uX (b=D)).elim (λw=>⟨_,w▸i⟩) λw=>y.lv b λz=>p ((dB w).trans z)),(a7 vs ⟨D,_,n,rfl,fR,i,⟨rfl,rfl,rfl⟩,rfl⟩ (r.ext (.tag zz))),(dB (k8 S.dc)).trans fR,hm,S.sC,st.re λb o e=>(dB λw=>by rw [w,S.sD] at e;injection e).trans (dB λw=>by rw [w,S.sC] at e;injection e),e⟩
theorem Ff(h:k< n):n+1 -(k+1)< n+1 -k:=Jf (Ca h) (uN k)
theorem NR{α:Type}{kk:V×Fr->Out α}{z:Out α}(H:Gd c)(S:CS X N xs s C D I){ys:List Internal.D}{p:Internal.D}{r:a4}{k:Nat}{E:bZ}(j:J c N Q s'.heap)(it:IterAt c Q.O s'.heap Y I (k+1))(l:LAt c Q.O s'.heap D ys)(st:St c q g s Q s')(dr:DR c Q.O s'.heap p r)(v:k< Y.length)(hs:Y.length<=1048576)(x:ys.length<=k) (e:z=(iO (q8 G ce (xs.map (·.1)) u) (Y.drop (k+1)) Q.f).bind λq=>kk (.ol (ys++p::q.1),a0E q.2 (xs.map (·.1)))):b8 (b9 pw c.w) A (call (.builtin "list.append") [.ref D,r]) (λU s5=>∃m,m< Y.length+1 -k/\CI c G N xs ce u Y I D q g s kk z m s5) E s':=by
 obtain ⟨vs,n,t,lD,rr⟩:=l;refine c6 (GJ (m:=.append) (ds:=[p]) (xs':=ys++[p]) (d:=.none) (E:=λU U=>False) lD rr (.cons dr rfl) ?_) (λU s8 w=>?_) λU U q=>q.elim
 .show cG (decide (ys.length< df)) _=_;rw [decide_eq_true (show ys.length< df from gV x (iG v hs))];rfl
 obtain ⟨i,n8,q1,q2,q3,q4,q5⟩:=w;have y:∀b o,b≠D->s'.heap.get? b=some o->s8.heap.get? b=some o:=λb o hb e=>(q4.2 b hb).trans e;refine (a7 _ (Ff v) ⟨Q,k+1,ys++[p],v,rfl,by rw [ey];exact k7 x,j.aj H t y,it.zk (qr t y) λo t e=>⟨y I o (k8 S.di) e,t⟩,⟨i,n8,t,q1,q2.ext (qr t y)⟩,st.aj S.sD y q5,e.trans (congrArg _ (funext λq=>?_))⟩);rw [jW];rfl
theorem NT{o:Type}{kk:V×Fr->Out o}{y:Out o}(H:Gd c)(S:CS X N xs s C D I)(hA:A.frames=some N.fs)(O:qL N B)(k:N.fs=X.fs)(j:J c N Q s'.heap)(st:St c q g s Q s')(p:Pe c N false Q s' y e s'') : kQ (b9 pw c.w) A B (λe f=>qe c X q g s kk y (.ref D) C (.error e) f) e s'':=by refine a5 p λt d er=>fx (S.tC j) λtl m hm=>cU O λz v x b=>?_;unfold kQ;exact c6 (v9 (E:=λU U=>False) H hA x b er) (λU f r=>xA (r.1.but H st tl S.sC hm (by rw [k];exact S.hF)) λi k2=>(a7 m i (λh' l=>⟨(a7 t d (by have:=k2 h' l;rw [k] at this;exact this)),r.2.but i l⟩))) λU U h=>h.elim
theorem Pr{y:Type}{p:V×Fr->Out y}{d:Internal.D}{ds ys:List Internal.D}{k:List Nat}:((iO (q8 G ce k u) (d::ds) f).bind λq=>p (.ol (ys++q.1),a0E q.2 k))=(cg (cE f k d)).bind λf=>(evTo G u f).bind λt=>(match t.1 with
     | true=>(ev G ce t.2).bind λr=>(fz r).bind λq=>.ok (some q.1,q.2)
     | false=>.ok (none,t.2)).bind λr=>((iO (q8 G ce k u) ds r.2).bind λq=>.ok (match r.1 with | some x=>x::q.1 | none=>q.1,q.2)).bind λq=>p (.ol (ys++q.1),a0E q.2 k):=
 (dZ ..).trans ((dZ ..).trans (congrArg _ (funext λf=>dZ ..)))
theorem Mv{α:Type}{kk:V×Fr->Out α}{z:Out α}{y:cz}{j iter elt:a8}{m:Nat}(H:Gd c)(cx:Ctx c n bor cq sc a0 a A N y)(tgt:TGT N sc a0 (xs.map (·.1)) j)(te:TT1 c G A N y u ifs/\T c G A N y ce elt)(S:CS X N xs s C D I)(hfs:N.fs=X.fs)(hs:Y.length<=1048576)(ns:z≠ .x) (i:CI c G N xs ce u Y I D q g s kk z m s'):mU (b9 pw c.w) A (.compLoop (.ListComp elt [⟨j,iter,ifs,0⟩] scope pos) 0 (.ref I) (.ref D) y) (qe c X q g s kk z (.ref D) C) s':=by
 refine xA te λtt tce=>?_;have err:∀{Q:Gh} {s' s'':bM} {e:a4},J c N Q s'.heap->St c q g s Q s'->Pe c N false Q s' z e s''->kQ (b9 pw c.w) A y (λe s2=>qe c X q g s kk z (.ref D) C (.error e) s2) e s'':=NT H S cx.cb.fr cx.fo hfs;refine Lg (CI c G N xs ce u Y I D q g s kk z) (λm s3 I3=>?_) m i;obtain ⟨g3,k,ys,hk,rfl,hyk,j3,it3,l3,st3,e3⟩:=I3;rcases Nat.lt_or_eq_of_le hk with o | rfl
 .refine it3.next H cx.cb.hh j3 (fD o) st3 S.sI λv s4 j4 it4 d4 st4 k4=>it4.go cx.cb.hh ?_;rw [IK o,Pr] at e3;refine a5 (fF ns e3) λf5 hb e5=>c6 (xZ (R:=λQ s'=>IterAt c Q.O s'.heap Y I (k+1)/\LAt c Q.O s'.heap D ys/\St c q g s Q s') (E:=λU U=>False) H cx.cb.hh cx.eo tgt ⟨λx hx ga sa gb sb t w=>?_,λga sa sb kp sr w=>?_⟩ j4 ⟨it4,l3.but S.di it3.tag k4,st4⟩ d4 hb) (λU s5 w=>?_) λU U q=>q.elim
  .refine a5 (cM.mp hx) λp hp ρ=>?_;clear hx;subst ρ;have l:St c true ga sa gb sb:=by obtain ⟨U,U,U,U,l⟩:=t;exact l
   exact ⟨w.1.ext l.st,w.2.1.ext l.st,w.2.2.sto t (S.pl p hp) λb hb=>by rw [show b=C from hb];exact S.sC⟩
  .have l:=kp.step c q ga.O ga.O λU U U=>rfl;exact ⟨w.1.ext l,w.2.1.ext l,w.2.2.kp kp sr⟩
  refine jN w λg5 ρ j5 it5 σ=>xA σ λl5 st5=>?_;clear hb w;subst ρ;refine c6 (tt.t j5 (.refl c false _ _) e5 ns λb g6 s6 j6 st6 e7=>?_) (λU U w=>w) λx s' p=>err j5 st5 p;induction b with
  | false=>rw [if_neg gG];exact (a7 _ (Ff o) ⟨g6,k+1,ys,o,rfl,dX hyk,j6,it5.ext st6.st,l5.ext st6.st,st5.trans st6.up,e7.trans (dZ ..)⟩)
  | true=>rw [if_pos rfl];exact c6 (tce.d H j6 st6 (e7.trans ((dZ ..).trans (congrArg _ (funext λr=>dZ ..)))) ns λd' g7 r7 s7 j7 d7 st7 U e8=>NR H S j7 (it5.ext st7.st) (l5.ext st7.st) (st5.trans st7.up) d7 o hs hyk (e8.trans (dZ ..))) (λU U w=>w) λx s' p=>err j5 st5 p
 refine it3.last H cx.cb.hh j3 st3 S.sI λs4 j4 st4 k4=>NS H S j4 (l3.but S.di it3.tag k4) st4 ?_;rw [J2] at e3;have e3:z=kk (.ol (ys++[]),a0E g3.f (xs.map (·.1))):=e3;rw [n9] at e3;exact e3
theorem Df(H:Gd c)(cx:Ctx c n bor cq sc a0 a A X B)(cs:CompSc sc a0 scope xs)(hxo:∀p∈xs,p.1∈a/\(bor=true->p.1≠0)){d:a8}(tgt:TgtE xs d){rg:Bool}{it:Internal.E}{iter elt:a8}{ifs:List a8} (ti:TI c G A X B rg it iter) (te:∀N env',Ctx c n bor cq (kH scope sc) (a0G a0 scope xs) (a.filter λy=>!(xs.map (·.1)).contains y) A N env'->TT1 c G A N env' u ifs/\T c G A N env' ce elt) (j:J c X g s.heap) {α:Type} {i:Out α} (kk:V×Fr->Out α) (eq:i=(ev G it g.f).bind λr=>(fz r).bind λp=>(cg (dN rg p.1)).bind λY=>(iO (q8 G ce (xs.map (·.1)) u) Y p.2).bind λq=>kk (.ol q.1,a0E q.2 (xs.map (·.1)))) (ns:i≠ .x) : b8 (b9 pw c.w) A (eu iter B) (λx s₁=>b8 (b9 pw c.w) A (pE x) (λit' s₂=>b8 (b9 pw c.w) A (newList []) (λacc s₃=>b8 (b9 pw c.w) A (newFunctionEnv scope B.globals (gf B.cells scope.names []) [] B.qual none .none (some B)) (λcenv s₄=>mU (b9 pw c.w) A (.compStart (.ListComp elt [⟨d,iter,ifs,0⟩] scope pos) 0 it' acc {cenv with scope:=uC scope B}) (qe c X q g s kk i acc cenv.locals) s₄) (Pe c X q g s i) s₃) (Pe c X q g s i) s₂) (Pe c X q g s i) s₁) (Pe c X q g s i) s:=by
 refine ti (k:=λr=>(iO (q8 G ce (xs.map (·.1)) u) r.1 r.2).bind λq=>kk (.ol q.1,a0E q.2 (xs.map (·.1)))) j (.refl ..) eq ns λY g1 r s2 bg hlim e1=>?_;obtain ⟨I,rfl,freshI,j1,it1,st1⟩:=bg;refine jV (BN cs.cell (by intro y hy;simp at hy) (λh₁ v l=>?_) cs.kind);dsimp only at v l ⊢;generalize hH2:s2.heap.push {cls:=.type "list",dict:=none,data:=.seq ([]:List a4).toArray}=H2 at v l ⊢;have hC:H2.objs.size=s2.heap.objs.size+1:=by rw [<-hH2,pL]
 have hDC:s2.heap.objs.size≠H2.objs.size:=by rw [hC];exact jl (uN _)
 have kp:Kp s2.heap h₁:=λb o e=>l.extBut b o (by rw [hC];exact jl (Ca (gX e))) (cS _ (hH2▸cS _ e));have nD:s2.heap.get? s2.heap.objs.size=none:=ig _;have nC:s2.heap.get? H2.objs.size=none:=by
  induction q:s2.heap.get? H2.objs.size with
  | none=>rfl
  | some o=>exact absurd (gX q) (by rw [hC];exact nh.mpr (kT _))
 have gD:=l.extBut _ _ hDC (cS _ (hH2▸dY _ rfl));generalize s2.heap.objs.size=D at hDC nD gD ⊢;generalize H2.objs.size=C at hDC nC v l kp ⊢;have sC:=st1.st.gone nC;have hoff:∀p∈xs,X.pl[p.1]? =some .off/\(X.pin=none\/p.1≠0):=λp hp=>⟨cx.off _ (hxo p hp).1,by
  induction hb:bor with
  | false=>exact .inl (cx.pin hb)
  | true=>exact .inr ((hxo p hp).2 hb)⟩
 have hdi:D≠I:=λw=>by obtain ⟨U,U,U,U,U,U,⟨o,e⟩,U⟩:=it1;rw [<-w,nD] at e;injection e
 have hF:∀e∈X.fs,e.frame≠some C:=λe he w=>by refine kq (j.ff e he) λU L e1 U o e2 U=>?_;rw [w] at e1;obtain rfl:=bv e1;rw [sC] at e2;injection e2
 have hne:∀(y:Nat) (n:a6),X.pl[y]? ≠some (.loc C n):=λy n e=>by have:=((j.slot y _ e).loc C n rfl).1;rw [j.aw sC] at this;injection this
 have S:CS X (X.puts C xs) xs s C D I:=⟨rfl,λp hp=>yY X C cs.nd (λp hp=>(hoff p hp).1) (show (p.1,p.2)∈xs from hp),cs.ne,cs.nd,sC,st1.st.gone nD,freshI,hDC,hdi,hF,hne,hoff⟩;have jA:J c X ⟨g1.f,cO g1.O C .lo⟩ h₁:=j1.aF H (λb o e U=>⟨kp b o e,qp nC b o e⟩) λb hb=>(uX (b=C)).elim (λw=>w▸yE v) λw=>xE (j1.lv b λz=>hb ((dB w).trans z)) λo e=>⟨o,kp b o e⟩;have stA:St c q g s ⟨g1.f,cO g1.O C .lo⟩ {s2 with heap:=h₁,toks:=s2.toks+([]:List (a6×a4)).length}:=⟨st1.st.trans (kp.step c q _ _ (qp nC)),st1.sr.trans ⟨rfl,rfl⟩⟩;have itA:IterAt c (cO g1.O C .lo) h₁ Y I 0:=it1.zk (oR nC kp) λo t e=>⟨kp I o e,(qp nC I o e).trans t⟩;have loop:=Mv (pos:=pos) (iter:=iter) (scope:=scope) H (DI cx cs (λp hp=>(hxo p hp).1) C) (tgt.tgt (NU cx cs (λp hp=>(hxo p hp).2) C)) (te _ _ (DI cx cs (λp hp=>(hxo p hp).1) C)) S (nx X C xs).1 hlim ns (m:=Y.length+1) ⟨_,0,[],dR _,rfl,fj _,jA.aL v fR S.hne cs.nd cs.nd2 hoff,itA,⟨_,_,(dB hDC).trans (j1.aw nD),gD,rfl⟩,stA,by rw [Ja];exact e1⟩;exact codeAny_compStart_list loop (itA.again cx.cb.hh loop)
end
section
variable {c:Cfg}{G:cB}{A:cy}{X:Cx}{O:cz}{sc scope:cD}{N xs:List (Nat×a6)}{g l I:Gh}{h h':bP}{s s' u:bM}{M:fg}{n:Nat}{bor:Bool}{B:a4×a6}{Y:List Nat}{q:Bool}{pos:c8}
theorem V7(H:Gd c){w:Type}{y:Out w}{z:String}{e:a4}{k:cz}(p:Pe c X q g s y e s')(tb:HasTb s'.heap e):b8 M A (PySem.passOn z e k:Sem a4) (λU U=>False) (Pe c X q g s y) s':=by refine a5 p λm v er=>?_;unfold PySem.passOn;refine a9 (Fe tb λT=>?_);rw [if_neg (by simp)];exact a9 (c6 (rZ (E:=λU U=>False) H er tb) (λU t r=>rD (a7 m v r.1)) λU U q=>q.elim)
theorem Dg{w:Type}(H:Gd c){t:V×Fr->Out w}{y:Out w}{acc:a4}{C:b7}{e:a4}{z:Option (a4->Sem Unit)}{Q:bZ}(x:qe c X q g s t y acc C (.error e) s'):compPost M A (Pe c X q g s y) z Q acc C (.error e) s':=by exact a5 x λm hn r=>(a7 m hn (λh' k v U=>xA (r h' k) λp tb=>V7 H p tb))
theorem FN(H:Gd c)(j:J c X g s'.heap){C:b7}(t:g.O C= .no)(m:s.heap.get? C=none)(st:St c q I s g s'){h':bP}(k:jm C s'.heap h'):J c X g h'/\St c q I s g {s' with heap:=h'}/\∀{v:V} {r:a4},VR c g.O s'.heap 0 v r->VR c g.O h' 0 v r:=by have p:∀b o,b≠C->s'.heap.get? b=some o->h'.get? b=some o:=λb o y e=>(k.2 b y).trans e;exact ⟨j.aj H t p,st.aj m p ⟨rfl,rfl⟩,λv=>v.ext (qr t p) λb i o z e=>⟨p b o (λw=>by rw [w,t] at z;injection z) e,z⟩⟩
theorem Tt(H:Gd c)(cx:Ctx c n bor B sc N Y A X O)(d:CompSc sc N scope xs)(C:∀p∈xs,p.1∈Y/\(bor=true->p.1≠0)){z:a8}(a:TgtE xs z){rg:Bool}{it ce:Internal.E}{cc:Option Internal.E}{iter w:a8}{o:List a8} (i:nB iter=true) (ti:TI c G A X O rg it iter) (te:∀Q v,Ctx c n bor B (kH scope sc) (a0G N scope xs) (Y.filter λy=>!(xs.map (·.1)).contains y) A Q v->TT1 c G A Q v cc o/\T c G A Q v ce w) : T c G A X O (.comp ce (xs.map (·.1)) rg it cc) (.ListComp w [⟨z,iter,o,0⟩] scope pos):=λg s j ns=>by
 rw [eval_ListComp];refine Iv rfl (yg i) (DH cx d) d.kind d.names (c6 (Df H cx d C a ti te j .ok rfl ns) (λx s1 h=>c6 h (λit s2 h=>c6 h (λacc s3 h=>c6 h (λcenv s4 h=>ux h λr s' hr=>?_) λU U p=>p) λU U p=>p) λU U p=>p) λU U p=>p);induction r with
 | ok f=>exact gq hr λgA ys m jA vr t ρ=>pk ρ λhn sC st e=>(a7 m hn (λh' k=>dm (FN H jA t sC st k) λj' b v'=>⟨.ol ys,gA,e,j',.of (v' vr),b⟩))
 | error e=>exact Dg H hr
theorem KY(H:Gd c)(cx:Ctx c n bor B sc N Y A X O)(cs:CompSc sc N scope xs)(hxo:∀p∈xs,p.1∈Y/\(bor=true->p.1≠0)){z:a8}(tgt:TgtE xs z){rg:Bool}{it ce:Internal.E}{cc:Option Internal.E}{iter d:a8}{Q:List a8}{i py:c8}{y:Nat}{nm:a6} (hset:nB iter=true) (hv:(y,nm)∈N) (hf:(sc.names.lookup nm==some .free)=false) (b:bor=true->y≠0) (hsw:uA (.ListComp d [⟨z,iter,Q,0⟩] scope pos) (some (.Name nm py)) i.line O=pure true) (ti:TI c G A X O rg it iter) (te:∀X' v,Ctx c n bor B (kH scope sc) (a0G N scope xs) (Y.filter λy=>!(xs.map (·.1)).contains y) A X' v->TT1 c G A X' v cc Q/\T c G A X' v ce d) : TS c G A X O (.a y (.comp ce (xs.map (·.1)) rg it cc)) (.Assign [.Name nm py] (.ListComp d [⟨z,iter,Q,0⟩] scope pos) i):=λg s j ns=>by
 have kp:li X y:=by
  induction hb:bor with
  | false=>exact .inl (cx.pin hb)
  | true=>exact .inr (b hb)
 generalize C:ex G (.a y (.comp ce (xs.map (·.1)) rg it cc)) g.f=out at ns;have e0:=C.symm;rw [exec_Assign_Name_used _ _ _ _ hsw];refine a9 (o3 (a9 ?_));refine a9 (c6 (Iv rfl (yg hset) (DH cx cs) cs.kind cs.names (c6 (Df H cx cs hxo tgt ti te j (λr=>(eh r).bind λr=>(put r.2 y r.1).bind λf=>.ok (.next,f)) (e0.trans ?_) ns) (λx s1 h=>c6 h (λit s2 h=>c6 h (λacc s3 h=>c6 h (λcenv s4 h=>ux h λr s' hr=>?_) λU U p=>p) λU U p=>p) λU U p=>p) λU U p=>p)) (λU s' hq=>bX (bX hq)) λU U e=>e)
 .show bt (bt _ _) _=_;simp only [dZ];rfl
 induction r with
 | ok f=>refine gq hr λgA ys m jA vr t ρ=>pk ρ λhn sC st e=>?_;obtain ⟨hk,e⟩:=HI e ns;refine BQ (c6 (vb (E:=λU U=>False) H cx.eo jA hv hf hk rfl kp vr) (λU s5 w=>ck w λg5 e5 j5 ρ=>?_) λU U q=>q.elim);obtain ⟨pl,hp,gI,tag,st5⟩:=ρ;exact kA hn λo es ep e1 d1 r1=>xA (st5.st.no t e1) λe6 t5=>(a7 m (vP o es ep e6 d1 r1) (λh' k=>dm (FN H j5 t5 sC (st.trans st5) k) λj' st' U=>⟨.next,g5,by rw [e5];exact e,j',.next,st'⟩))
 | error e=>exact Dg H hr
end
def lZ(k:List (a6×a4))(p:a6×a4):List (a6×a4):=if (k.lookup p.1).isNone then k++[p] else k
theorem sf{k r:List (a6×a4)}{n:a6}(h:k.lookup n=none):(k++r).lookup n=r.lookup n:=by rw [IS,h];rfl
theorem Kh{k r:List (a6×a4)}{n:a6}{v:a4}(h:k.lookup n=some v):(k++r).lookup n=some v:=by rw [IS,h];rfl
theorem v6{k:List a6}:∀{vs:List a4},n∉k->(k.zip vs).lookup n=none:=by
 induction k with
 | nil=>intro _ _;rfl
 | cons m ns p=>
  intro vs h;induction vs using bO with
  | nil=>rfl
  | cons v vs=>have h:=not_or.mp (mt dp.mpr h);rw [iE,gU,beq_eq_false_iff_ne.mpr h.1];exact p h.2
theorem Ki{p:List a6}:∀{k:Nat} {vs:List a4},n∈p.take k->k<=vs.length->∃v,(p.zip vs).lookup n=some v:=by
 induction p with
 | nil=>intro _ _ h _;rw [List.take_nil] at h;cases h
 | cons m ns z=>
  intro k vs h q;induction k using gF with
  | zero=>cases h
  | succ k=>induction vs using bO with
   | nil=>exact absurd q (C9 _)
   | cons v vs=>
    rw [iE,gU];induction y:n==m with
    | true=>exact ⟨v,rfl⟩
    | false=>exact z ((dp.mp h).resolve_left (beq_eq_false_iff_ne.mp y)) (uK q)
theorem Dk{S:List (a6×a4)}{n p:a6}{x:a4}(h:S.lookup n=none)(k:n≠p):(S++[(p,x)]).lookup n=none:=by rw [sf h,gU,beq_eq_false_iff_ne.mpr k];rfl
theorem O7{k:List a6}:∀{ds vq:List a4} {S:List (a6×a4)},(∀n∈k,S.lookup n=none)->k.Nodup->k.length=ds.length->(k.zip ds).foldl lZ (S++k.zip vq)=S++k.zip (vq++ds.drop vq.length):=by
 induction k with
 | nil=>intro _ _ _ _ _ _;rfl
 | cons p k w=>
  intro ds vq S v nd z;refine xA (jZ.mp nd) λr nd=>?_;induction ds using bO with
  | nil=>injection z
  | cons d ds=>
   have u:=v p (.head _);have z:=iX z;have y:∀x,∀n∈k,(S++[(p,x)]).lookup n=none:=λx n hn=>Dk (v n (.tail _ hn)) λe=>r (e▸hn);induction vq using bO with
   | nil=>
    have e:lZ S (p,d)=S++[(p,d)]++k.zip []:=by rw [xo,n9];unfold lZ;rw [u];rfl
    rw [xo,n9,iE,n7,e,w (y d) nd z,jW];rfl
   | cons q vq=>
    have e:lZ (S++(p,q)::k.zip vq) (p,d)=S++[(p,q)]++k.zip vq:=by unfold lZ;rw [sf u,gU,beq_self_eq_true];exact (jW S [(p,q)] (k.zip vq)).symm
    rw [iE,iE,n7,e,w (y q) nd z,jW];rfl
theorem Dz{a:List a6}{b:List a4}(k:Nat):a.zip b=(a.take k).zip (b.take k)++(a.drop k).zip (b.drop k):=by rw [C2,C2,C2,<-List.take_zipWith,<-List.drop_zipWith,C0]
theorem EA{v n d:Nat}(p:v<=n)(q:n<=v+d)(k:d<=n):d -(n -v)=v -(n -d)/\n -d<=v/\n -(n -d)=d:=⟨by rw [Ji d p,Ji v k,pJ],Nat.sub_le_of_le_add q,Ce k⟩
theorem N5{p:List a6}{vals ds:List a4}(nd:p.Nodup)(u:vals.length<=p.length)(v:p.length<=vals.length+ds.length)(w:ds.length<=p.length) : ((p.drop (p.length -ds.length)).zip ds).foldl lZ (p.zip vals)=p.zip (vals++ds.drop (ds.length -(p.length -vals.length))):=by
 refine dm (EA u v w) λz y q=>?_;rw [z];have q:(p.drop (p.length -ds.length)).length=ds.length:=by rw [xx,q]
 generalize p.length -ds.length=k at y q;rw [Dz k,Dz (b:=vals++ds.drop _) k,O7 ?_ (nd.sublist (List.drop_sublist ..)) q,xx,List.take_append_of_le_length y,List.drop_append_of_le_length y];intro n hn;rw [<-C0 k p] at nd;exact v6 λr=>(IU.mp nd).2.2 _ r _ hn rfl
theorem LM{k:List a6}:∀{vs:List a4} {pre:List (a6×a4)},k.Nodup->k.length=vs.length->(∀n∈k,pre.lookup n=none)->k.filterMap (λn=>((pre++k.zip vs).lookup n).map (n,·))=k.zip vs:=by
 induction k with
 | nil=>intro _ _ _ _ _;rfl
 | cons m ns u=>
  intro vs pre nd p q;refine xA (jZ.mp nd) λz nd=>?_;induction vs using bO with
  | nil=>injection p
  | cons v vs=>
   have y:(pre++(m::ns).zip (v::vs)).lookup m=some v:=by rw [sf (q m (.head _)),iE,gU,beq_self_eq_true]
   have:=u (pre:=pre++[(m,v)]) nd (iX p) λn hn=>Dk (q n (.tail _ hn)) λe=>z (e▸hn);rw [jW] at this;rw [List.filterMap_cons,y];exact congrArg _ this
theorem KD(f:a6×a4->List (a6×a4)->Sem (ForInStep (List (a6×a4))))(z:∀n d k,f (n,d) k=if (k.lookup n).isNone then pure (.yield (k++[(n,d)])) else pure (.yield k)) (q:List (a6×a4)):∀k:List (a6×a4),(forIn q k f:Sem _)=pure (q.foldl lZ k):=by
 induction q with
 | nil=>intro k;rfl
 | cons p q y=>
  intro k;rw [C6,z p.1 p.2,n7];unfold lZ;by_cases h:(k.lookup p.1).isNone=true
  .rw [if_pos h,if_pos h];exact y _
  rw [if_neg h,if_neg h];exact y _
structure PlainP(p:Arguments)(names:List a6):Prop where
 pos:p.posonlyargs=[]
 args:p.args.map (·.arg)=names
 kw:p.kwonlyargs=[]
 va:p.vararg=none
 ka:p.kwarg=none
 nd:names.Nodup
theorem Qg{a n:Nat}(h:a<=n):decide ((decide (a> n)&&true)=true)=false:=by rw [decide_eq_false (nh.mpr h)];rfl
theorem Qh{k:Type}{l:List k}(h:l=[]):decide ((!l.isEmpty)=true)=false:=by rw [h];rfl
theorem Mo{p:List a6}{vals:List a4}{k:Nat}(h:k<=vals.length):(p.take k).filter (λn=>((p.zip vals).lookup n).isNone)=[]:=by rw [List.filter_eq_nil_iff];refine λn hn=>xE (Ki hn h) λv q=>?_;rw [q];exact gG
theorem Qi:((if ds.isEmpty then none else some ds.toArray:Option (Array a4)).getD #[]).toList=ds:=by induction ds using bO<;>rfl
theorem Mn{E:bZ}{as:List Arg}{vals ds:List a4}{ws bs:List (a6×a4)}{Q:List (a6×a4)->bM->Prop} (i:fd.params=⟨[],as,none,[],I,none,dd⟩) (j:∀{Q:Option (Array a4)->bM->Prop},Q k s->b8 M A (seqItems? fd.defaults) Q E s) (c1:vals.length<=(as.map λx:Arg=>x.arg).length) (u:(k.getD #[]).toList.drop ((k.getD #[]).toList.length -(as.map λx:Arg=>x.arg).length)=ds) (q:((as.map λx:Arg=>x.arg).take ((as.map λx:Arg=>x.arg).length -ds.length)).filter (λn=>(((as.map λx:Arg=>x.arg).zip vals).lookup n).isNone)=[]) (y:(((as.map λx:Arg=>x.arg).drop ((as.map λx:Arg=>x.arg).length -ds.length)).zip ds).foldl lZ ((as.map λx:Arg=>x.arg).zip vals)=ws) (z:((as.map λx:Arg=>x.arg)++[]).filterMap (λn=>(ws.lookup n).map (n,·))=bs) (h:Q bs s):b8 M A (bindArgs fd ⟨vals,[]⟩) Q E s:=by
 subst u;cases fd with | mk f1 f p g o e c Y N v w r t l m=>
 obtain rfl:=i;exact a9 (bX (a9 (j (rx (Qg c1) (rx (Qh q) (a9 (pC ((KD _ (λn d G=>rfl) _ _).trans (congrArg pure y)) (a9 (bX (bX (z▸h)))))))))))
theorem PlainP.eq{k:List a6}(P:PlainP p k):p=⟨[],p.args,none,[],p.kw_defaults,none,p.defaults⟩:=by obtain ⟨a,U,b,c,d,U⟩:=P;induction p using Arguments.casesOn;obtain rfl:=a;obtain rfl:=b;obtain rfl:=c;obtain rfl:=d;rfl
theorem Rc{v n d:Nat}(k:v<=n)(p:n<=v+d):n=v+(d -(d -(n -v))):=by rw [Ce (Jc.mpr p),pH k]
theorem y7{E:bZ}{k:List a6}{vals ds:List a4}{Q:List (a6×a4)->bM->Prop}(P:PlainP fd.params k) (v:∀{Q:Option (Array a4)->bM->Prop},Q (if ds.isEmpty then none else some ds.toArray) s->b8 M A (seqItems? fd.defaults) Q E s) (q:vals.length<=k.length) (y:k.length<=vals.length+ds.length) (z:ds.length<=k.length) (h:Q (k.zip (vals++ds.drop (ds.length -(k.length -vals.length)))) s):b8 M A (bindArgs fd ⟨vals,[]⟩) Q E s:=by
 have nd:=P.nd;have p:=P.args;have w:k.length=(vals++ds.drop (ds.length -(k.length -vals.length))).length:=by rw [ey,xx];exact Rc q y
 have u:=LM (pre:=[]) nd w (λU U=>rfl);rw [J5] at u;refine Mn P.eq v (by rw [p];exact q) (ds:=ds) (ws:=k.zip (vals++ds.drop (ds.length -(k.length -vals.length)))) (by rw [Qi,p,Nat.sub_eq_zero_of_le z];rfl) (by rw [p];exact Mo (EA q y z).2.1) (by rw [p];exact N5 nd q y z) (by rw [p,n9];exact u) h
def jS(O:Ow):Ow:=λb=>match O b with
 | .lo=>.no
 | .cl=>.no
 | u=>u
section
variable {c:Cfg}{G:cB}{A:cy}{X:Cx}{Q:cz}{sc scope:cD}{g N I:Gh}{h h':bP}{s s' C s₁:bM}{M:fg}{fs:List cz}{O Y O':Ow}
theorem ym(h:O b≠ .lo/\O b≠ .cl):jS O b=O b:=by
 show (match O b with | .lo=>Tag.no | .cl=>Tag.no | u=>u)=O b;generalize O b=u at h ⊢;induction u with
 | lo=>exact absurd rfl h.1
 | cl=>exact absurd rfl h.2
 | _=>rfl
theorem sU(e:O b=t)(h:t≠ .lo/\t≠ .cl):jS O b=t:=by rw [ym (by rw [e];exact h),e]
theorem Qy(e:O b= .own x k):jS O b= .own x k:=sU e ⟨(λh=>by injection h),λh=>by injection h⟩
theorem Ws(e:O b= .z):jS O b= .z:=sU e ⟨(λh=>by injection h),λh=>by injection h⟩
theorem z8(x:VR c O h t v r):VR c (jS O) h t v r:=x.ext (.tag λb z=>Ws z) λb k o z e=>⟨e,Qy z⟩
theorem Kp.gone(k:Kp h h'){b:b7}(e:h'.get? b=none):h.get? b=none:=by
 induction q:h.get? b with
 | none=>rfl
 | some o=>rw [k b o q] at e;injection e
theorem Kp.bL(k:Kp h h')(p:∀b o,h.get? b=some o->Y b=O b):ZK c O h Y h':=λb o z e=>(cF o (k b o e) ((p b o e).trans z) (.refl ..))
theorem J.frame(H:Gd c)(j:J c (X0 fs) (g0 O) h)(k:Kp h h')(l:∀b o,h.get? b=some o->Y b=O b)(lv:∀b,Y b≠ .no->O b≠ .no\/∃o,h'.get? b=some o){L:b7}{m:a6->Option a4}(hk:Q.scope.kind≠ .module)(a:Q.frame=some L)(tL:Y L= .lo)(hn:h'.Ns L m){pl:List Place}{f:Fr}{v:Option a4} (lf:f.length=pl.length) (w:∀(x:Nat) (p:Place),pl[x]? =some p->SlotR c Y h' x p (rd f x)) (inj:∀(x y:Nat) (p:Place),pl[x]? =some p->pl[y]? =some p->p≠ .off->x=y) (u:∀r,v=some r->∃p,pl[0]? =some p/\Has h' p (some r)):J c ⟨Q::fs,pl,v⟩ ⟨f,Y⟩ h':=by
 refine ⟨lf,w,λb i=>?_,λb i=>?_,λe he=>?_,inj,u,j.gi.kp H j.gr λb o e U=>⟨k b o e,l b o e⟩⟩
 .have q:=j.gr b i;exact xE (j.lv b (by rw [q];exact λh=>by injection h)) λo e=>(l b o e).trans q
 .rcases lv b i with q | q
  .exact xE (j.lv b q) λo e=>⟨o,k b o e⟩
  exact q
 rcases dp.mp he with rfl | he
 .exact kA hn λo es ep e d U=>(qh hk L a (.inr tL) o e (λvs q=>by rw [d] at q;injection q))
 exact kq (j.ff e he) λkd z n t o e B=>(qh kd z n (by show Y z=_\/Y z=_;rw [l z o e];exact t) o (k z o e) B)
theorem ED(H:Gd c)(j:J c (X0 fs) (g0 O) h)(n:∀b,O b≠ .lo/\O b≠ .cl)(hO:∀b o,h.get? b=some o->Y b=O b)(k:Kp h h₁)(st:Step c true Y h₁ O' h')(v:J c (X0 (Q::fs)) (g0 O') h'):Step c false O h (jS O') h'/\J c (X0 fs) (g0 (jS O')) h':=by
 have sb:Step c false O h (jS O') h':=λb o e=>by
  refine ck (st b o (k b o e)) λo' e' z l=>?_;rw [hO b o e] at z l;refine xA (n b) λa d=>(cF o' e' ?_ (l.imp (λm=>?_) id))
  .rcases z with z | z | z
   .exact .inl (by rw [ym (by rw [z];exact n b)];exact z)
   .exact .inr (.inl z)
   exact absurd z.1 d
  induction q:O b using Tag.casesOn<;>rw [q] at m a d<;>first | rfl | exact absurd rfl a | exact absurd rfl d | injection m
 refine ⟨sb,rfl,λx p e=>by simp [X0] at e,λb f=>sU (v.gr b f) ⟨(λh=>by injection h),λh=>by injection h⟩,λb f=>v.lv b λq=>f (sU q ⟨(λh=>by injection h),λh=>by injection h⟩),λe he=>?_,λx y p e=>by simp [X0] at e,λr e=>by simp [X0] at e,v.gi.kp H v.gr λb o e i=>⟨e,?_⟩⟩
 .refine kq (j.ff e he) λkd L B t o eo U=>tG (v.ff e (.tail _ he)) λU L' u U w=>?_;rw [B] at u;obtain rfl:=bv u;refine ck (sb L o eo) λo2 e2 z U=>?_;have t:O L= .fr:=t.resolve_right (n L).1;rw [t] at z;exact (tw kd L B (.inl (z.resolve_right λw=>by rcases w with w | ⟨w,U⟩<;>injection w)) w)
 exact ym (by rcases i with i | i<;>rw [show O' b=_ from i]<;>exact ⟨(λh=>by injection h),λh=>by injection h⟩)
theorem yn(H:Gd c)(j:J c (X0 fs) (g0 O) s.heap)(nl:∀b,O b≠ .lo/\O b≠ .cl)(hO:∀b o,s.heap.get? b=some o->Y b=O b)(k:Kp s.heap s₁.heap)(sr:SameRest s s₁){fn:Fn}{run:Out (V×V)}(hv:fn.bor=true->∃i rest,vals=i::rest) (B:J c ⟨Q::fs,pl,if fn.bor then vals.head? else none⟩ N s'.heap) (st:St c true ⟨f,Y⟩ s₁ N s') (d:VR c N.O s'.heap 0 v r) (t:run=(back fn N.f).bind λb=>.ok (v,b)) (ns:run≠ .x):CallRes c fs O s fn.bor vals run r s':=by
 obtain ⟨sb,jb⟩:=ED H j nl hO k st.st B.base;have m:=iZ ns t;induction z:fn.bor with
 | false=>
  have y:back fn N.f= .ok .u:=by unfold back;rw [z];rfl
  exact ⟨v,.u,jS N.O,by rw [t,y];rfl,jb,z8 d,(λh=>by injection h),sb,sr.trans st.sr⟩
 | true=>
  obtain ⟨i,rest,l⟩:=hv z;obtain ⟨p,hp,a⟩:=B.pin i (by rw [z,l];rfl);have y:back fn N.f= .ok (rd N.f 0)/\dI (rd N.f 0)=false:=by unfold back at m ⊢;rw [z] at m ⊢;simp only [if_true] at m ⊢;induction q:rd N.f 0 using bS<;>rw [q] at m<;>first | exact ⟨rfl,rfl⟩ | exact absurd rfl m
  refine ⟨v,rd N.f 0,jS N.O,by rw [t,y.1];rfl,jb,z8 d,λU=>⟨y.2,i,rest,l,?_⟩,sb,sr.trans st.sr⟩;obtain ⟨ov,n,w⟩:=(B.slot 0 p hp).val λw=>by clear hp;subst w;exact a
  obtain rfl:=a.inj n;exact w.imp id λ⟨r,e,d⟩=>by obtain rfl:=bv e;exact z8 d
theorem DM(H:Gd c)(j:J c (X0 fs) (g0 O) s.heap)(nl:∀b,O b≠ .lo/\O b≠ .cl)(hO:∀b o,s.heap.get? b=some o->Y b=O b)(k:Kp s.heap s₁.heap)(sr:SameRest s s₁){pl:List Place}{r:Option a4}{f:Fr}{e:a4}{α:Type}{u:Out α}{E:bZ}(hA:A.frames=some (Q::fs)) (p:Pe c ⟨Q::fs,pl,r⟩ true ⟨f,Y⟩ s₁ u e s') {run:Out (V×V)} (z:∀m,u= .err m->run= .err m) (hE:∀y,CallErr c fs O s run e y->E e y) : b8 M A (leaving Q e) (λU y=>E e y) (λB y=>E B y) s':=by refine a5 p λm q er=>?_;unfold leaving;refine a9 (c6 (v9 (E:=λU U=>False) H hA rfl rfl er) (λU s2 i=>c6 (rZ (E:=λU U=>False) H i.1 i.2) (λU s3 r3=>hE s3 (a7 m (z m q) ?_)) λU U h=>h.elim) λU U h=>h.elim);obtain ⟨O',st,l,j',x⟩:=r3.1;refine xA (ED H j nl hO k st j') λsb jb=>?_;have v:∀{b},O' b= .no->jS O' b= .no:=λe=>sU e ⟨(λh=>by injection h),λh=>by injection h⟩;obtain ⟨a,oe,d,od,vs,n,t,t',he,ga,ec,ed,ev,sz,gd,dc,dd,na,nd,oa,o',tb⟩:=x.old λb=>k.gone;exact ⟨jS O',sb,sr.trans l,jb,a,oe,d,od,vs,n,t,t',he,ga,ec,ed,ev,sz,gd,dc,dd,na,nd,v oa,v o',tb.imp id λ⟨T,e,w⟩=>(a7 T e (let ⟨oT,ts,n1,n2,n3,n4,n5,n6⟩:=w;⟨oT,ts,n1,n2,n3,n4,n5,v n6⟩))⟩
end
set_option tactic.hygienic true in
theorem CM:∀{q:List (a6×iD)} {k:Nat} {acc:List (a6×b7)},((n,xU)∈q\/(acc.lookup n).isSome=true)->((xi k q acc).lookup n).isSome=true:=by
 intro q;induction q with
 | nil=>
  intro k acc h;rcases h with h | h
  .cases h
  exact h
 | cons p r z=>
  intro k acc h;obtain ⟨m,v⟩:=p;unfold xi;split
  .refine z ?_;by_cases hn:n=m
   .clear h;subst hn;right;rw [gU,beq_self_eq_true];rfl
   rcases h with h | h
   .rcases dp.mp h with e | h
    .cases e;exact absurd rfl hn
    exact .inl h
   right;rw [gU,beq_eq_false_iff_ne.mpr hn];exact h
  rename_i u;refine z ?_;rcases h with h | h
  .rcases dp.mp h with e | h
   .cases e;exact absurd rfl u
   exact .inl h
  exact .inr h
theorem Ml{q:a6->Option iD}(z:q nm=some .local):∀{k:List a6} {ws:List a4} {m:a6->Option a4},k.Nodup->bindL q (k.zip ws) m nm=match (k.zip ws).lookup nm with | some v=>some v | none=>m nm:=by
 intro k;induction k with
 | nil=>intro ws m _;rfl
 | cons n k u=>
  intro ws m nd;rcases ws with U | ⟨w,ws⟩
  .rfl
  simp only [jZ] at nd;rw [iE,bindL,u nd.2,gU];by_cases hn:nm=n
  .subst hn;rw [v6 nd.1,beq_self_eq_true,if_pos z];simp
  rw [beq_eq_false_iff_ne.mpr hn];dsimp only;induction (k.zip ws).lookup nm with
  | some v=>rfl
  | none=>dsimp only;split<;>simp [hn]
theorem Mk{q:a6->Option iD}(z:q nm≠some .local):∀{k:List a6} {ws:List a4} {m:a6->Option a4},k.Nodup->bindC q (k.zip ws) m nm=match (k.zip ws).lookup nm with | some v=>some v | none=>m nm:=by
 intro k;induction k with
 | nil=>intro ws m _;rfl
 | cons n k u=>
  intro ws m nd;rcases ws with U | ⟨w,ws⟩
  .rfl
  simp only [jZ] at nd;rw [iE,bindC,u nd.2,gU];by_cases hn:nm=n
  .subst hn;rw [v6 nd.1,beq_self_eq_true,if_neg z];simp
  rw [beq_eq_false_iff_ne.mpr hn];dsimp only;induction (k.zip ws).lookup nm with
  | some v=>rfl
  | none=>dsimp only;split<;>simp [hn]
theorem xX{u:Type}{nm:a6}{ns:List a6}:∀{ws:List u} {i:Nat},ns.Nodup->ns[i]? =some nm->(ns.zip ws).lookup nm=ws[i]?:=by
 induction ns with
 | nil=>intro _ _ _ e;injection e
 | cons n ns z=>
  intro ws i nd e;refine xA (jZ.mp nd) λhn nd=>?_;induction ws using bO with
  | nil=>rfl
  | cons w ws=>
   rw [iE,gU];induction i using gF with
   | zero=>rw [<-bv e,beq_self_eq_true];rfl
   | succ i=>have k:=e;rw [beq_eq_false_iff_ne.mpr λq:nm=n=>hn (by rw [<-q];exact kR k)];exact z nd k
theorem PK{z:Type}{ns:List a6}:∀{ws:List z} {k:Nat},ws.length<=k->(ns.take k).zip ws=ns.zip ws:=by
 induction ns with
 | nil=>intro _ _ _;rw [List.take_nil]
 | cons n ns q=>
  intro ws k h;induction ws using bO with
  | nil=>rw [xo,xo]
  | cons w ws=>induction k using gF with
   | zero=>exact absurd h (C9 _)
   | succ k=>rw [List.take_succ_cons,iE,iE,q (uK h)]
theorem MO{ns:List a6}{y z:Nat}{nm:a6}(nd:ns.Nodup)(u:ns[y]? =some nm)(v:ns[z]? =some nm):y=z:=by obtain ⟨U,k⟩:=gS.mp u;obtain ⟨U,q⟩:=gS.mp v;exact (J1 nd).mp (k.trans q.symm)
section
variable {c:Cfg}{h:bP}{O:Ow}
theorem VRs.append{b:List V}{v:List a4}(y:∀k,VRs c O h k b v):∀{k:Nat} {u:List a4},VRs c O h k a u->VRs c O h k (a++b) (u++v):=by
 induction a with
 | nil=>intro k u e;obtain rfl:u=[]:=e;exact y k
 | cons w a q=>intro k u x;obtain ⟨r,u,rfl,x,s⟩:=x;exact (d6 r _ rfl x (q s))
theorem VRs.len{a:List V}:∀{k:Nat} {u:List a4},VRs c O h k a u->a.length=u.length:=by
 induction a with
 | nil=>intro k u e;obtain rfl:u=[]:=e;rfl
 | cons w a q=>intro k u x;refine c0 x λr u z x s=>?_;subst z;exact congrArg (·+1) (q s)
theorem VRs.get:∀{k:Nat} {u:List a4} {i:Nat} {v:V},VRs c O h k a u->a[i]? =some v->∃r,u[i]? =some r/\VR c O h (i+k) v r:=by
 induction a with
 | nil=>intro _ _ _ _ _ e;injection e
 | cons w a q=>
  intro k u i v x e;obtain ⟨r,u,rfl,x,s⟩:=x;induction i using gF with
  | zero=>rw [<-bv e,iH];exact (a7 r rfl x)
  | succ i=>rw [f4];exact q s e
set_option tactic.hygienic true in
theorem Ap:rd (z++iF k .u) y=z.getD y .u:=by
 unfold rd;rw [fC,fC,List.getElem?_append];split
 .rfl
 rename_i q;rw [i6 (i7 q),List.getElem?_replicate];split<;>rfl
theorem VRs.slot(x:VRs c O h 1 k ws)(y:Nat):k.getD y .u= .u\/∃r,ws[y]? =some r/\VR c O h (y+1) (k.getD y .u) r:=by
 rw [fC];induction e:k[y]? with
 | none=>exact .inl rfl
 | some v=>exact .inr (x.get e)
end
def zQ(c:Cfg)(v:a4)(ds:List D):Prop:=(ds=[]/\v= .none)\/∃T o vs n,v= .ref T/\c.B.get? T=some o/\o.data= .seq vs n/\vs.size≠0/\∀O h,DRs c O h ds vs.toList
def ju(ns:List a6):List (Nat×a6):=ns.zipIdx.map λp=>(p.2,p.1)
def mi(n k:Nat):List Nat:=(fO k).filter λy=>decide (n<=y)
theorem mem_vis:(x,nm)∈ju ns↔ns[x]? =some nm:=by
 unfold ju;rw [cM];constructor
 .rintro ⟨p,k,e⟩;refine xA (pU e) λq z=>?_;subst q;clear e;subst z;exact II.mp k
 exact λh=>(a7 (nm,x) (II.mpr h) rfl)
theorem mem_offs:y∈mi n k↔y< k/\n<=y:=by unfold mi;rw [mY,jk,decide_eq_true_eq]
structure FunG(c:Cfg)(fa:b7)(fn:Fn)(cq:a4×a6)(sc:cD)(body:List cw)(ns:List a6):Prop where
 at_:∃o fd,c.B.get? fa=some o/\o.data= .func fd/\fd.scope=sc/\fd.body= .stmts body/\fd.globals=gR/\fd.builtins=iB/\fd.closure=[]/\PlainP fd.params (ns.take fn.npar)/\c.B.CodeRec fd.code fd.qualname/\(∀b,fd.code= .ref b->¬c.tabs b)/\zQ c fd.defaults fn.dflt/\(fd.code,fd.qualname++ ".<locals>.")=cq
 kind:sc.kind= .function/\sc.isCoroutine=false/\sc.isGenerator=false
 npar:fn.npar<=ns.length
 dl:fn.dflt.length<=fn.npar
 nsl:ns.length<=fn.nslots
 visk:∀nm∈ns,sc.names.lookup nm=some .local\/sc.names.lookup nm=some .cell
 nd:ns.Nodup
 bor0:fn.bor=true->fn.dflt.length< fn.npar
def nS(X:Cx)(k:List (Nat×a6)):Prop:=∀y p,X.pl[y]? =some p->p≠ .off->∃nm,(y,nm)∈k
def bN(sc:cD)(ns:List a6)(L:b7)(Y:List (a6×b7))(y:Nat):Place:=match ns[y]? with
 | some nm=>if sc.names.lookup nm=some .local then .loc L nm else .cel ((Y.lookup nm).getD 0)
 | none=>.off
def jy(sc:cD)(ns:List a6)(L:b7)(Y:List (a6×b7))(n:Nat):List Place:=(fO n).map (bN sc ns L Y)
inductive Ent(c:Cfg)(sc:cD)(O:Ow)(h:bP)(m:a6->Option a4)(Y:List (a6×b7))(nm:a6)(ov:Option a4)(v:V):Prop
 | loc (k:sc.names.lookup nm=some .local) (nk:dI v=false) (e:m nm=ov)
 | cel (a:b7) (k:sc.names.lookup nm≠some .local) (k':sc.names.lookup nm=some .cell\/sc.names.lookup nm=some .free) (ea:Y.lookup nm=some a) (ic:h.IsCell a ov) (t:O a=if dI v then .z else .cl)
section
variable {c:Cfg}{sc:cD}{O:Ow}{h:bP}{m:a6->Option a4}{Y:List (a6×b7)}{ns:List a6}{L:b7}{n y:Nat}{nm:a6}{p:Place}{f:Fr}{W:Nat->Option a4}{fs:List cz}{Q:cz}{N:Option a4}
theorem sB(e:ns[y]? =some nm):bN sc ns L Y y=if sc.names.lookup nm=some .local then .loc L nm else .cel ((Y.lookup nm).getD 0):=by unfold bN;rw [e]
theorem sw(e:ns[y]? =none):bN sc ns L Y y= .off:=by unfold bN;rw [e]
theorem plL_len:(jy sc ns L Y n).length=n:=by unfold jy;rw [cR,IV]
theorem pl_get:(jy sc ns L Y n)[y]? =some p↔y< n/\p=bN sc ns L Y y:=by
 unfold jy;rw [iV,iW];constructor
 .rintro ⟨z,k,rfl⟩;obtain ⟨q,rfl⟩:=gS.mp k;rw [IT];exact ⟨by rwa [IV] at q,rfl⟩
 rintro ⟨k,rfl⟩;exact (a7 y (uG k) rfl)
theorem Ent.at{v:V}(x:Ent c sc O h m Y nm ov v)(hn:h.Ns L m)(e:ns[y]? =some nm):Has h (bN sc ns L Y y) ov:=by
 rw [sB e];cases x with
 | loc k nk e=>rw [if_pos k];exact (a7 m hn e)
 | cel a k z q ic t=>rw [if_neg k,q];exact ic
theorem Dh(g:O L= .lo)(hn:h.Ns L m)(j:∀y nm,ns[y]? =some nm->Ent c sc O h m Y nm (W y) (rd f y))(i:∀y,ns.length<=y->rd f y= .u)(v:∀y,rd f y= .u\/∃r,W y=some r/\VR c O h (y+1) (rd f y) r) (y:Nat) (p:Place) (e:(jy sc ns L Y n)[y]? =some p):SlotR c O h y p (rd f y):=by
 refine xA (pl_get.mp e) λU o=>?_;clear e;subst o;induction q:ns[y]? with
 | none=>rw [sw q];exact ⟨λU=>i y (IJ.mp q),(λU U w=>by injection w),(λU w=>by injection w),λw=>absurd rfl w⟩
 | some nm=>
  have x:=j y nm q;have z:=x.at hn q;rw [sB q] at z ⊢;cases x with
  | loc k nk e=>
   rw [if_pos k] at z ⊢;exact ⟨(λw=>by injection w),(λU U w=>by cases w;exact ⟨g,nk⟩),(λU w=>by injection w),λU=>(a7 _ z (v y))⟩
  | cel a k d l ic t=>rw [if_neg k,l] at z ⊢;exact ⟨(λw=>by injection w),(λU U w=>by injection w),(λU w=>by obtain rfl:=Place.cel.inj w;exact t),λU=>(a7 _ z (v y))⟩
theorem EB(nd:ns.Nodup)(i:Y.Pairwise λx y=>x.2≠y.2)(v:∀y nm,ns[y]? =some nm->Ent c sc O h m Y nm (W y) (rd f y))(y z:Nat)(p:Place)(l:(jy sc ns L Y n)[y]? =some p)(g:(jy sc ns L Y n)[z]? =some p)(q:p≠ .off):y=z:=by
 refine xA (pl_get.mp l) λU o=>?_;clear l;subst o;refine xA (pl_get.mp g) λU e=>?_;induction q1:ns[y]? with
 | none=>exact absurd (sw q1) q
 | some j=>induction u:ns[z]? with
  | none=>exact absurd (e.trans (sw u)) q
  | some n2=>
   rw [sB q1,sB u] at e;obtain rfl:j=n2:=by
    cases v y j q1 with
    | loc k nk U=>
     rw [if_pos k] at e;cases v z n2 u with
     | loc k U U=>rw [if_pos k] at e;exact (Place.loc.inj e).2
     | cel a k U U U U=>rw [if_neg k] at e;injection e
    | cel a k d w ic t=>
     rw [if_neg k,w] at e;cases v z n2 u with
     | loc k U U=>rw [if_pos k] at e;injection e
     | cel b k U r U U=>rw [if_neg k,r] at e;cases Place.cel.inj e;exact name_of_addr i (mem_of_lookup w) (mem_of_lookup r)
   exact MO nd q1 u
theorem Fy(z:Q.scope=sc)(k1:sc.kind= .function)(u:Q.globals=gR/\Q.builtins=iB)(l:Q.locals=L)(v:Q.cells=Y)(hn:ns.length<=n)(j:∀y nm,ns[y]? =some nm->Ent c sc O h m Y nm (W y) (rd f y)):EO c ⟨fs,jy sc ns L Y n,N⟩ Q sc (ju ns):=by
 refine ⟨by rw [z];exact k1,z,u.1,u.2,λp i=>?_⟩;have q:=mem_vis.mp i;refine (a7 _ (pl_get.mpr ⟨iG (gS.mp q).1 hn,rfl⟩) ?_);have r:Q.kindOf p.2=sc.names.lookup p.2:=by unfold jp;rw [z]
 rw [sB q];cases j p.1 p.2 q with
 | loc k nk e=>rw [if_pos k];exact ⟨rfl,l,r.trans k⟩
 | cel a k g w ic t=>rw [if_neg k,w];exact ⟨by rw [r];exact g,v▸w⟩
theorem EC(k:y∈mi ns.length n):(jy sc ns L Y n)[y]? =some .off:=pl_get.mpr ⟨(mem_offs.mp k).1,(sw (i6 (mem_offs.mp k).2)).symm⟩
theorem Qw(z:X.pl=jy sc ns L Y n):nS X (ju ns):=λy p e k=>by
 rw [z] at e;refine xA (pl_get.mp e) λU u=>?_;clear e;subst u;induction q:ns[y]? with
 | none=>exact absurd (sw q) k
 | some nm=>exact ⟨nm,mem_vis.mpr q⟩
end
set_option tactic.hygienic true in
theorem Di(e:oM fn k=some f):k.length<=fn.npar/\fn.npar<=k.length+fn.dflt.length/\f=(k++(fn.dflt.drop (fn.dflt.length -(fn.npar -k.length))).map .d)++iF (fn.nslots -fn.npar) .u:=by
 unfold oM at e;split at e
 .rename_i h;simp only [dF,decide_eq_true_eq] at h;obtain rfl:=bv e;exact ⟨h.1,h.2,rfl⟩
 injection e
theorem y6(g:GI c O h)(n:c.B.NoLimit):h.NoLimit:=by exact a5 n λm a b=>(a7 m (g.ns a) b)
theorem Like.bG(l:Like c .gr b o t)(h:¬c.tabs b):t=o:=by
 obtain ⟨k,q,v,u⟩:=l;have z:=v (λh=>by injection h) (λh=>by injection h);clear v;have r:=u.resolve_right λw=>by
  rcases w with ⟨w | w,U⟩ | ⟨U,w,U⟩
  .injection w
  .injection w
  exact h w
 obtain ⟨j,i,g,d⟩:=o;obtain ⟨e,s,b3,b4⟩:=t;clear u;dsimp only at k q z r;subst k q z r;rfl
theorem GI.code(g:GI c O h){k:a4}{q:a6}(x:c.B.CodeRec k q)(v:∀b,k= .ref b->¬c.tabs b):h.CodeRec k q:=sg x λb o e u=>by refine a5 (g.base b o u) λw z l=>?_;rw [z,l.bG (v b e)]
theorem vc(b:CB A fs (n+1)):CB (A.deeper Q) (Q::fs) n:=by
 refine ⟨b.hh,?_,?_,?_⟩
 .show A.units+3+200+100*n< mX;have:=b.un;exact om5 this
 .show A.depth+1+20+5*n< pB;have:=b.dep;exact om6 this
 show A.frames.map (Q:: ·)=some (Q::fs);rw [b.fr];rfl
section
variable {c:Cfg}{G N:cB}{n i:Nat}{fa:b7}{fn:Fn}{sc:cD}{Y:List cw}{ns:List a6}{cq:a4×a6}
theorem Ea(p:oM fn k=some f):kB G fn k=(exs G fn.body f).bind λr=>match r.1 with
   | .ret v=>(back fn r.2).bind λb=>.ok (v,b)
   | .next=>(back fn r.2).bind λb=>.ok (.d .none,b)
   | .brk=>.x:=by unfold kB;rw [p];rfl
inductive Dfl(c:Cfg)(fn:Fn)(fd:lN)(s:bM):Prop
 | mk (ds:List a4) (h:∀O h,DRs c O h fn.dflt ds) (q:∀{M:fg} {A:cy} {E:bZ} {Q:Option (Array a4)->bM->Prop},Q (if ds.isEmpty then none else some ds.toArray) s->b8 M A (seqItems? fd.defaults) Q E s)
theorem dfl(j:GI c O s.heap)(z:zQ c fd.defaults fn.dflt):Dfl c fn fd s:=by
 rcases z with ⟨p,y⟩ | ⟨T,f,vs,m,p,y,w,r,t⟩
 .refine ⟨[],λO h=>by rw [p];rfl,λk=>?_⟩;rw [y];exact bX k
 refine ⟨vs.toList,t,λk=>a5 (j.base T f y) λg u l=>?_⟩;have v:=(l.same (.inl ⟨(λh=>by injection h),λh=>by injection h⟩) (.inr λvs q=>by rw [w] at q;injection q)).trans w;rw [p];refine mR u v ?_;have:vs.toList.isEmpty=false:=by
  induction q:vs.toList using bO with
  | nil=>exfalso;apply r;rw [<-om,q];rfl
  | cons=>rfl
 rw [this] at k;simpa using k
def nU(O:Ow)(L:b7)(n:Nat)(k:List b7)(h:bP):Ow:=λb=>if b=L then .lo else if n< b/\(h.get? b).isSome then .cl else O b
theorem PF(q:VRs c O h 1 p vals)(z:DRs c O h dd ds)(w:∀v∈p,dI v=false) : VRs c O h 1 (p++(dd.drop k).map eA) (vals++ds.drop k)/\∀y,dI ((p++(dd.drop k).map eA).getD y .u)=false:=by
 refine ⟨q.append λU=>(z.drop _).aY,λy=>?_⟩;rw [fC];induction e:(p++(dd.drop k).map eA)[y]? with
 | none=>rfl
 | some v=>exact (mZ.mp (kR e)).elim (w v) (wi v)
theorem HJ(h:a+20+5*(n+2)< pB):a< pB:=gV (cW (kS ..) (kS ..)) h
theorem OD(k:a<=n)(p:n<=a+d):a+(d -(d -(n -a)))=n:=by rw [Ce (Jc.mpr p),pH k]
theorem NH(h:n<=a+d)(k:d< n):a≠0:=λe=>by rw [e,iH] at h;exact nh.mpr h k
set_option tactic.hygienic true in
theorem Ub(H:Gd c)(NL:c.B.NoLimit)(F:FunG c fa fn cq sc Y ns)(hb:∀A X env,Ctx c n fn.bor cq sc (ju ns) (mi ns.length fn.nslots) A X env->nS X (ju ns)->TSS c G A X env fn.body Y)(hG:N i=kB G fn):ll c N (n+2) (.ref fa) i fn.bor:=by
 intro A fs s O args vals cb nl j vrs hk M;rw [hG] at M ⊢;refine xE (Out.aG (oz M)) λf hf=>?_;have t:=Ea (G:=G) hf;refine dm (Di hf) λh1 h2 ef=>hB F.at_ λo fd ho hd e1 e2 ρ=>qE ρ λe3 e4 e5 P hcd σ=>dm σ λhct dok hcq=>a5 (j.gi.base fa o ho) λo' ho' lk=>?_;have hd2:=(lk.same (.inl ⟨(λh=>by injection h),λh=>by injection h⟩) (.inr λvs q=>by rw [hd] at q;injection q)).trans hd;obtain ⟨ds,hds,hseq⟩:=dfl j.gi dok;have hnl:(ns.take fn.npar).length=fn.npar:=by rw [xw,Jk F.npar]
 have va:=vrs.len;have hdl:=(hds O s.heap).len;rw [va,hdl] at h2;rw [va] at h1;have hdl0:=F.dl;rw [hdl] at hdl0;have kk:=F.kind;rw [<-e1] at kk;refine IC (HJ cb.dep) ho' hd2 kk.2.1 kk.2.2 e2 (j.gi.code hcd hct) ?_;rw [e1,e3,e4,e5];refine y7 P hseq (by rw [hnl];exact h1) (by rw [hnl];exact h2) (by rw [hnl];exact hdl0) ?_;rw [hnl];refine xA (PF (k:=ds.length -(fn.npar -vals.length)) vrs (hds O s.heap) hk) λvw kf=>?_;have Q:(vals++ds.drop (ds.length -(fn.npar -vals.length))).length=fn.npar:=by rw [ey,xx];exact OD h1 h2
 have hhd:∀r,vals.head? =some r->(vals++ds.drop (ds.length -(fn.npar -vals.length)))[0]? =some r:=λr e=>by
  clear vrs h1 h2 va vw kf Q;induction vals using bO with
  | nil=>injection e
  | cons a b=>exact e
 rw [va,hdl] at ef;have hvb:fn.bor=true->∃r0 rest,vals=r0::rest:=λl=>by
  have h0:=F.bor0 l;rw [hdl] at h0;clear vrs h1 ef va vw kf Q hhd;induction vals using bO with
  | nil=>exact absurd rfl (NH h2 h0)
  | cons a b=>exact (ix a b rfl)
 generalize vals++ds.drop (ds.length -(fn.npar -vals.length))=ws at vw Q hhd ⊢;generalize args++(fn.dflt.drop (ds.length -(fn.npar -vals.length))).map eA=vv at vw kf ef;have rdf:∀y,rd f y=vv.getD y .u:=λy=>by rw [ef];exact Ap
 rw [PK (by rw [Q];exact fj _)];have I:∀nm∈ns,sc.names.lookup nm≠some .local->sc.names.lookup nm=some .cell/\((xi (s.heap.objs.size+1) sc.names []).lookup nm).isSome=true:=λnm hn C=>⟨(F.visk nm hn).resolve_left C,CM (.inl (ya ((F.visk nm hn).resolve_left C)))⟩;refine wpAny_newFunctionEnv_cells F.kind.1 (λx hx=>?_) λenv he s₁ x=>⟨y6 (j.kp H x.toInCall.keep).gi NL,codeAny_func ?_⟩
 .have hn:=(C5 hx).1;exact (F.visk _ hn).imp id λq=>⟨q,CM (.inl (ya q))⟩
 have eloc:env.locals=s.heap.objs.size:=by rw [he];rfl
 have efr:env.frame=some env.locals:=by rw [he];rfl
 have esc:env.scope=sc:=by rw [he];rfl
 have ecl:env.cells=xi (s.heap.objs.size+1) sc.names []:=by rw [he];rfl
 have egl:env.globals=gR/\env.builtins=iB:=by rw [he];exact ⟨rfl,rfl⟩
 have ecq:(env.code,env.qual)=cq:=by rw [he,<-hcq];rfl
 rw [<-ecl] at I;clear he;have kd:∀nm,env.kindOf nm=sc.names.lookup nm:=λnm=>by unfold jp;rw [esc]
 have kp:Kp s.heap s₁.heap:=x.toInCall.keep;have sr:SameRest s s₁:=by refine fY x.toInCall.same λh' tk q=>?_;rw [q];exact ⟨rfl,rfl⟩
 have hns:=x.toInCall.ns;have newer:∀{b:b7} {o:cn},s.heap.get? b=some o->b< env.locals:=λe=>by rw [eloc];exact gX e
 have hO:∀b o,s.heap.get? b=some o->nU O env.locals env.locals [] s₁.heap b=O b:=λb o e=>by unfold nU;rw [if_neg (jl (newer e)),if_neg λw=>Nat.lt_asymm w.1 (newer e)]
 have tL:nU O env.locals env.locals [] s₁.heap env.locals= .lo:=if_pos rfl;have tC:∀nm a,env.cells.lookup nm=some a->nU O env.locals env.locals [] s₁.heap a= .cl:=λnm a e=>by have hlt:=x.above nm a (mem_of_lookup e);refine a5 (x.cell nm a e) λo eo _=>?_;unfold nU;rw [if_neg (xF hlt),if_pos ⟨hlt,by rw [eo];rfl⟩]
 have lvT:∀b,nU O env.locals env.locals [] s₁.heap b≠ .no->O b≠ .no\/∃o,s₁.heap.get? b=some o:=λb hb=>by
  unfold nU at hb;split at hb
  .rename_i w;rw [w];exact .inr (yE hns)
  split at hb
  .rename_i w;exact .inr (lS.mp w.2)
  exact .inl hb
 generalize nU O env.locals env.locals [] s₁.heap=g at hO tL tC lvT;have lk0:∀y nm,ns[y]? =some nm->(match (ns.zip ws).lookup nm with | some v=>some v | none=>(none:Option a4))=ws[y]?:=λy nm q=>by rw [xX F.nd q];induction ws[y]? using pO<;>rfl
 have hE:∀y nm,ns[y]? =some nm->Ent c sc g s₁.heap (bindL env.kindOf (ns.zip ws) λ_=>none) env.cells nm ws[y]? (rd f y):=λy nm q=>by
  have nk:dI (rd f y)=false:=by rw [rdf];exact kf y
  by_cases C:sc.names.lookup nm=some .local
  .exact .loc C nk ((Ml (by rw [kd];exact C) F.nd).trans (lk0 y nm q))
  refine xA (I nm (kR q) C) λhc hs=>xE (lS.mp hs) λa ha=>?_;have ic:=x.cell nm a ha;rw [show bindC env.kindOf (ns.zip ws) (λ_=>none) nm=ws[y]? from (Mk (by rw [kd];exact C) F.nd).trans (lk0 y nm q)] at ic;exact .cel a C (.inl hc) ha ic (by rw [nk];exact tC nm a ha)
 have hV:∀y,rd f y= .u\/∃r,ws[y]? =some r/\VR c g s₁.heap (y+1) (rd f y) r:=λy=>by rw [rdf];exact (vw.slot y).imp id λ⟨r,q1,q2⟩=>(a7 r q1 (q2.ext (kp.bL hO) λb k o z e=>⟨kp b o e,(hO b o e).trans z⟩))
 have hU:∀y,ns.length<=y->rd f y= .u:=λy hy=>(hV y).resolve_right λ⟨r,q,_⟩=>by rw [i6 (by rw [Q];exact cW F.npar hy)] at q;injection q
 have lf:f.length=fn.nslots:=by rw [ef,ey,IM,vw.len,Q];exact pH (cW F.npar F.nsl)
 have jX:J c ⟨env::fs,jy sc ns env.locals env.cells fn.nslots,if fn.bor then vals.head? else none⟩ ⟨f,g⟩ s₁.heap:=j.frame H kp hO lvT (by rw [esc,F.kind.1];exact λh=>by injection h) efr tL hns (lf.trans plL_len.symm) (Dh tL hns hE hU hV) (EB F.nd x.apart hE) λr e=>by
   induction l:fn.bor with
   | false=>rw [l] at e;injection e
   | true=>rw [l] at e;have h0:=hhd r e;have C:0< ns.length:=iG (Nat.zero_lt_of_lt (F.bor0 l)) F.npar;have q:ns[0]? =some ns[0]:=fD C;exact (a7 _ (pl_get.mpr ⟨iG C F.nsl,rfl⟩) (h0▸(hE 0 _ q).at hns q))
 have cx:Ctx c n fn.bor cq sc (ju ns) (mi ns.length fn.nslots) (A.deeper env) ⟨env::fs,jy sc ns env.locals env.cells fn.nslots,if fn.bor then vals.head? else none⟩ env:=⟨Fy esc F.kind.1 egl rfl rfl F.nsl hE,(dU env fs rfl rfl),vc cb,λy hy=>EC hy,λhb=>by show (if fn.bor then vals.head? else none)=none;rw [hb];rfl,ecq⟩;refine c6 (hb _ _ _ cx (Qw rfl) ⟨f,g⟩ s₁ jX (iZ M t)) (λfl s' p=>?_) λe s' p=>?_
 .obtain ⟨k,g',e,j',r,st'⟩:=p;rw [e] at t;cases r with
  | next=>exact yn H j nl hO kp sr hvb j' st' (v:=.d .none) rfl t M
  | brk=>exact absurd t M
  | ret vr=>exact yn H j nl hO kp sr hvb j' st' vr t M
 exact DM H j nl hO kp sr (vc (n:=n+1) cb).fr p (λm e=>by rw [t,e];rfl) λ_ q=>q
end
section
variable {c:Cfg}{G:cB}{A:cy}{X:Cx}{Y:cz}{sc scope:cD}{I:List (Nat×a6)}{g N Q:Gh}{h h':bP}{s s' O:bM}{M:fg}{q:Bool}{pos:c8}
theorem St.tk(st:St c q Q O g s){k:Nat}:St c q Q O g {s with toks:=k}:=⟨st.st,st.sr.trans ⟨rfl,rfl⟩⟩
inductive TD(c:Cfg)(G:cB)(A:cy)(X:Cx)(Y:cz):List Tx->List Internal.E->List (Option a8)->List a8->Prop
 | nil:TD c G A X Y [] [] [] []
 | cons {k ks ce ces kn kp x keys e es}:x=SS k->T c G A X Y ce e->TD c G A X Y ks ces keys es->TD c G A X Y (k::ks) (ce::ces) (some (.Constant (.str x) kn kp)::keys) (e::es)
theorem TD.len{k:List (Option a8)}{es:List a8}(t:TD c G A X Y ks p k es):k.length=es.length/\ks.length=es.length/\p.length=es.length/\k.all (·.isSome)=true:=by
 induction t with
 | nil=>exact ⟨rfl,rfl,rfl,rfl⟩
 | cons U U U y=>refine pk y λa b d e=>?_;exact ⟨by simp [a],by simp [b],by simp [d],by simpa using e⟩
theorem TD.go(H:Gd c){i:Type}{y:Out i}{K:List (a4×a4)->bM->Prop}{ks:List Tx}{u:List Internal.E}{z:List (Option a8)}{es:List a8}(t:TD c G A X Y ks u z es):∀{g s} {k:List D×Fr->Out i},J c X g s.heap->St c q Q O g s->y=(evs G u g.f).bind k->y≠ .x -> (∀ds N us vs s',J c X N s'.heap->DRs c N.O s'.heap ds us->Carries (strKind pw c.w) vs ((ks.map SS).zip us)->us.length=ks.length->St c q Q O N s'->St c false g s N s'->y=k (ds,N.f)->K vs s')->b8 (b9 pw c.w) A (evalPairs (pairTrees z es Y pos)) K (Pe c X q Q O y) s:=by
 induction t generalizing K with
 | nil=>exact λj st v ns h=>pairTrees_nil_walk (h [] _ [] [] _ j rfl trivial rfl st (.refl ..) v)
 | cons hx ta U ih=>intro g s k j st v ns h;subst hx;refine pairTrees_cons_walk (xc (ta.d H (k:=λp=>(evs G _ p.2).bind λq=>k (p.1::q.1,q.2)) j st.tk (v.trans ?_) ns λe g1 r1 s1 j1 v1 r m C=>ih j1 r C ns λds b us vs s2 j2 n o a l sx B=>h (e::ds) b (r1::us) _ s2 j2 (.cons (sx.dr v1) n) ⟨lL ..,rfl,o⟩ (by simp [a]) l (St.trans ⟨m.st,m.sr⟩ sx) B));show bt (bt _ _) _=_;simp only [dZ];rfl
theorem J.take(H:Gd c)(j:J c X g h){D:b7}{o:cn}(t:g.O D= .no)(e:h.get? D=some o):J c X ⟨g.f,cO g.O D (.own 0 0)⟩ h/\ZK c g.O h (cO g.O D (.own 0 0)) h:=⟨j.aF H (λb o e p=>⟨e,dB λw=>(ja p).2.2 (w▸t)⟩) λb k=>by
  by_cases w:b=D
  .rw [w];exact ⟨_,e⟩
  exact j.lv b λz=>k ((dB w).trans z),.tag λb z=>(dB λw=>by rw [w,t] at z;injection z).trans z⟩
theorem Tu(H:Gd c){ks:List Tx}{z:List Internal.E}{y:List (Option a8)}{es:List a8}(v:y.length<=15)(t:TD c G A X Y ks z y es):T c G A X Y (.dict ks z) (.Dict y es pos):=by
 intro g s j ns;have k0:Kp s.heap (s.heap.push {cls:=.type "dict",data:=.dict #[]}):=gm _ _;have d:s.heap.get? s.heap.objs.size=none:=ig _;have r:(s.heap.push {cls:=.type "dict",data:=.dict #[]}).get? s.heap.objs.size=some {cls:=.type "dict",data:=.dict #[]}:=dY _ rfl;cases t with
 | nil=>exact wpAny_Dict_empty ((OpR.dict (s':={s with heap:=s.heap.push {cls:=.type "dict",data:=.dict #[]}}) (ks:=[]) (ds:=[]) d k0 ⟨rfl,rfl⟩ r ⟨rfl,rfl,rfl⟩ rfl rfl ∅ rfl).pv H j (.refl ..) (if_pos (c:=(true&&decide (jh []))=true) (t:=dS (V.od [] [],g.f)) (e:=.x) ∅))
 | @cons k ks ce z kn kp x y e es hx ta ts=>
  have t:TD c G A X Y (k::ks) (ce::z) (some (.Constant (.str x) kn kp)::y) (e::es):=.cons hx ta ts;generalize hks:k::ks=p at t ns ⊢;generalize hces:ce::z=i at t ns ⊢;generalize m:some (Expr.Constant (.str x) kn kp)::y=keyss at t v ⊢;generalize hes:e::es=ess at t ⊢;refine pk t.len λl1 l2 l3 l4=>?_;have tD:=j.aw d;refine wpAny_Dict_walk (knd:=strKind pw c.w) l4 l1 (by rw [<-m];simp) v ?_;generalize s.heap.objs.size=D at d r tD ⊢;refine t.go H (pos:=pos) (s:={s with heap:=s.heap.push {cls:=.type "dict",data:=.dict #[]}}) (j.kp H k0) ⟨k0.step c false _ _ λU U U=>rfl,rfl,rfl⟩ rfl ns λds n us vs s1 j1 d1 ca hl st1 sx e1=>?_;have u:(p.length==ds.length&&decide (jh p))=true:=by
   induction q:(p.length==ds.length&&decide (jh p)) with
   | true=>rfl
   | false=>rw [e1] at ns;exact absurd (show (if (p.length==ds.length&&decide (jh p))=true then _ else Out.x)= .x by rw [q];rfl) ns
  have e2:ev G (.dict p i) g.f= .ok (.od p ds,n.f):=e1.trans (show (if (p.length==ds.length&&decide (jh p))=true then _ else _)=_ from if_pos u);rw [dF,decide_eq_true_eq] at u;refine xA (sx.st.no tD r) λgD t1=>?_;have nd:((((p.map SS).zip us)).map (·.1)).Nodup:=by rw [xu (by simp;exact om7 l2 l3 hl)];exact u.2.2.map SS λa b C e=>C (mf e)
  refine (cF ((p.map SS).zip us) ca ⟨_,_,_,gD,⟨rfl,rfl,rfl⟩,rfl,λe he=>by simp at he,.nil,by simp⟩ (λh' l hs'=>?_));rw [merged_nil_of_nodup _ nd] at l;have kk:∀b o,b≠D->s1.heap.get? b=some o->h'.get? b=some o:=λb o hb e=>(hs'.2 b hb).trans e;have B:=l;exact d8 B λoo U U q1 U=>xA ((j1.aj H t1 kk).take H t1 q1) λjn zk=>⟨.od p ds,⟨n.f,cO n.O D (.own 0 0)⟩,e2,jn,(a7 us (DcA.mk' l hl.symm fR u.2) ((d1.ext (qr t1 kk)).ext zk)),(st1.aj (s':={s1 with heap:=h',toks:=s1.toks+vs.length}) d kk ⟨rfl,rfl⟩).re λb o e=>dB λw=>by rw [w,d] at e;injection e⟩
end
section
variable {c:Cfg}{G:cB}{A:cy}{X:Cx}{Y:cz}{sc scope:cD}{Q:List (Nat×a6)}{g B N:Gh}{h h':bP}{s s' C:bM}{M:fg}{q:Bool}{pos:c8}{O O':Ow}
def rc(t i:Nat)(O:Ow):Ow:=λb=>match O b with
 | .own 0 0=>.own t i
 | u=>u
theorem QM(z:O b= .own 0 0):rc t i O b= .own t i:=by unfold rc;rw [z];rfl
theorem yp(z:O b≠ .own 0 0):rc t i O b=O b:=by
 show (match O b with | .own 0 0=>Tag.own t i | u=>u)=O b;generalize O b=u at z ⊢;induction u with
 | own x k=>rcases x with U | x<;>rcases k with U | k<;>first | exact absurd rfl z | rfl
 | _=>rfl
theorem Ud(z:rc t i O b≠ .no):O b≠ .no:=λq=>z ((yp (by rw [q];exact λh=>by injection h)).trans q)
theorem VR.r1{t:Nat}{v:V}(k:qP v=true)(x:VR c O h t v r):R1 c O h t 0 v r:=by induction v using bS<;>first | exact x | injection k
theorem J.field(H:Gd c)(j:J c X g h){x d a:Nat}{as l:List Nat}{vs:List V}{v:V}{us:List a4}{ad dx:b7}{p:Place}{w:a4}{O':Ow}(hp:X.pl[x]? =some p)(hh:Has h p (some (.ref ad)))(hx:rd g.f x= .oi d as vs) (k:∀b o,b≠dx->h.get? b=some o->h'.get? b=some o) (hd:g.O dx= .own (x+1) 1\/g.O dx= .own (x+1) (2+fU as a)) (hl:∃o,h'.get? dx=some o) (hO:∀b,O' b=g.O b\/(g.O b= .own 0 0)) (hN:∀b,O' b≠ .no->g.O b≠ .no) (F:RF c g.O h (x+1) 2 vs us) (len:as.length=vs.length) (I:InA c O' h' (.own (x+1) 0) (.own (x+1) 1) d l (.ref ad) (jP as us a w)) (r:ZK c g.O h O' h'->R1 c O' h' (x+1) (2+fU as a) v w) : J c X ⟨g.f.set x (.oi d l (dG as vs a v).2),O'⟩ h'/\Step c false g.O h O' h':=by
 have ow:∀{b:b7} {t:Tag},g.O b=t->t≠ .own 0 0->O' b=t:=λ{b t} e ht=>(hO b).elim (λw=>w.trans e) λw=>absurd (e.symm.trans w) ht;have nd:∀{b:b7} {t:Tag},g.O b=t->t≠ .own (x+1) 1->t≠ .own (x+1) (2+fU as a)->b≠dx:=λe n h2 w=>by
  rcases hd with z | z
  .exact n (by rw [<-e,w,z])
  exact h2 (by rw [<-e,w,z])
 have zk:ZK c g.O h O' h':=λb o z e=>(cF o (k b o (nd z (λh=>by injection h) (λh=>by injection h)) e) (ow z (λh=>by injection h)) (.refl ..));have al:∀b o,h.get? b=some o->∃o',h'.get? b=some o':=λb o e=>by
  by_cases m:b=dx
  .rw [m];exact hl
  exact ⟨o,k b o m e⟩
 refine j.bw H (j.aq hp) (λb o e h0 n=>⟨k b o (λw=>?_) e,(hO b).resolve_right (h0 0)⟩) al (λb m=>?_) rfl (by rw [hx];rfl) (by rw [hx];exact λh=>by injection h) λp' r' hp' hh' vr=>?_
 .rcases hd with z | z<;>exact n _ (w▸z)
 .exact xE (j.lv b (hN b m)) λo e=>al b o e
 obtain rfl:=bv (hp.symm.trans hp');clear vr;obtain rfl:=bv (hh.inj hh');exact (a7 _ I (F.put len (λi v u hi hne y=>y.move zk λb o z e=>⟨k b o (nd z (by intro q;injection q with _ q;exact om8 hi q) (by intro q;injection q with _ q;exact hne q)) e,ow z (by intro q;injection q with q _;exact I8 q)⟩) (r zk)))
theorem J.flip(H:Gd c)(j:J c X g h){dx:b7}{I:cn}(z:g.O dx= .z)(d:h.get? dx=some I){x:Data}(a:FlipD I.data x)(hn:h'.get? dx=some {I with data:=x})(k:∀b o,b≠dx->h.get? b=some o->h'.get? b=some o):J c X g h'/\Step c q g.O h g.O h':=by
 have st:Step c q g.O h g.O h':=λb o e=>by
  by_cases w:b=dx
  .clear k;subst w;rw [d] at e;obtain rfl:=bv e;exact (cF _ hn (.inl rfl) (.inr ⟨rfl,rfl,λU U=>rfl,.inr (.inl ⟨.inl z,a⟩)⟩))
  exact (cF o (k b o w e) (.inl rfl) (.inr (.refl ..)))
 refine fY a.dict λes n m=>?_;have l:∀(y:Nat) (p:Place) ov,X.pl[y]? =some p->Has h p ov->Has h' p ov:=λy p ov e f=>j.has e f λb o U v=>by
  by_cases w:b=dx
  .clear k;subst w;rw [d] at v;obtain rfl:=bv v;exact (a7 _ hn (.inr (dU es n m z)))
  exact (a7 o (k b o w v) (.inl rfl))
 have ne:∀{b:b7} {t:Tag},g.O b=t->t≠ .z->b≠dx:=λe ht w=>ht (by rw [<-e,w,z]);refine ⟨⟨j.lf,λy p e=>(j.slot y p e).ext st.zk (λb i o zz e=>⟨k b o (ne zz λh=>by injection h) e,zz⟩) (λU U=>rfl) λov=>l y p ov e,j.gr,λb hb=>?_,λe he=>?_,j.inj,λr e=>?_,j.gi.bu H j.gr λb o e u=>⟨k b o (λw=>?_) e,rfl⟩⟩,st⟩
 .exact xE (j.lv b hb) λo e=>a5 (st b o e) λo' e' U=>⟨o',e'⟩
 .exact kq (j.ff e he) λkd L e1 t o v m=>(qh kd L e1 t o (k L o (by rcases t with t | t<;>exact ne t λh=>by injection h) v) m)
 .exact a5 (j.pin r e) λp q f=>(a7 p q (l 0 p _ q f))
 rcases u with u | ⟨U,vs,u⟩
 .rw [w,z] at u;injection u
 rw [w,d] at e;obtain rfl:=bv e;rw [m] at u;injection u
inductive AsgI(f:Fr)(x a:Nat)(v:V)(out:Out (Ctl×Fr)):Prop
 | oi (cl:Nat) (as:List Nat) (vs:List V) (h:rd f x= .oi cl as vs) (l:as.length< 100) (hf:qP v=true) (e:out= .ok (.next,f.set x (.oi cl (dG as vs a v).1 (dG as vs a v).2)))
 | y (k i y:D) (b:Bool) (h:rd f x= .d (.y k i y)) (ha:a=3) (hv:v= .d (.bool b)) (e:out= .ok (.next,f))
def Ys(f:Fr)(x a:Nat)(v:V):V->Out (Ctl×Fr)
 | .oi c as vs=>if as.length< 100&&qP v then .ok (.next,f.set x (.oi c (dG as vs a v).1 (dG as vs a v).2)) else .x
 | .d (.y ..)=>match a,v with
  | 3,.d (.bool _)=>.ok (.next,f)
  | _,_=>.x
 | _=>.x
theorem AA(e:out=Ys f x a v (rd f x))(ns:out≠ .x):AsgI f x a v out:=by
 induction z:rd f x using bS with
 | oi r as vs=>
  rw [z] at e;by_cases p:(as.length< 100&&qP v)=true
  .have e:=e.trans (if_pos p);rw [dF,decide_eq_true_eq] at p;exact .oi r as vs z p.1 p.2 e
  exact absurd (e.trans (if_neg p)) ns
 | d y=>
  rw [z] at e;induction y using c7 with
  | y k i u=>
   by_cases w:a=3
   .subst w;induction v using bS with
    | d y=>induction y using c7 with
     | bool b=>exact .y k i u b z rfl rfl e
     | _=>exact absurd e ns
    | _=>exact absurd e ns
   exact absurd (e.trans (by rcases a with U | U | U | U | a<;>first | exact absurd rfl w | rfl)) ns
  | _=>exact absurd e ns
 | _=>rw [z] at e;exact absurd e ns
theorem PU(H:Gd c)(eo:EO c X Y sc Q){ce:Internal.E}(hc:jJ e=true)(hv:(x,nm)∈Q)(hn:eE nm=true)(ha:a< 10)(t:T c G A X Y ce e) : TS c G A X Y (.sA x a ce) (.Assign [.Attribute (.Name nm np) (an a) ap] e pos):=λg s j ns=>Iu (t.v j (.refl ..) rfl ns λv g1 r s1 hv1 j1 vr1 m e1=>by
  cases AA e1 ns with
  | oi cl as vs hx hl hf e2=>
   obtain ⟨p,r0,hp,hh,vr,hlx⟩:=j1.val (λq=>by rw [hx] at q;injection q);rw [hx] at vr;refine a5 vr λus I F=>?_;have len:=I.len.trans F.len.symm;obtain ⟨ad,dx,o,od,es,n,rfl,z1,z2,q1,q2,q3,q4,q5,q6,q7,kr,rfl⟩:=I;refine h9 eo hv hn hp hh (Ec (j1.gi.kin H) (H.cls cl) ⟨q1,q2,by unfold pP;rw [q4],by rw [q3];exact q5⟩ q3 ha (by rw [q7]) ⟨_,sK ha kr⟩ (by have:=kr.len;simp at this;rw [om];exact YZ hl len this) λh' n' h1 h2=>?_);have u:∀b o,b≠dx->s1.heap.get? b=some o->h'.get? b=some o:=λb o hb e=>(h2.2 b hb).trans e;have nad:ad≠dx:=λw=>by rw [w,z2] at z1;cases z1
   refine xA (S5 (v:=v) (r:=r) (t:=s1.toks+1) ha kr len) λk1 k2=>?_;have f:∀{b:b7} {i:Nat},g1.O b= .own (x+1) i->rc (x+1) (2+fU as a) g1.O b= .own (x+1) i:=λe=>(yp (by rw [e];intro q;injection q with q _;exact I8 q)).trans e;obtain ⟨jn,stn⟩:=j1.field H hp hh hx u (.inl z2) ⟨_,h1⟩ (λb=>(uX (g1.O b= .own 0 0)).elim .inr λw=>.inl (yp w)) (λb=>Ud) F len ⟨ad,dx,o,_,_,n',rfl,f z1,f z2,u ad o nad q1,q2,q3,q4,h1,q6,rfl,by simpa using k1,by simpa using k2⟩ λzk=>(vr1.r1 hf).move zk λb o z e=>⟨u b o (λw=>by rw [w,z2] at z;cases z) e,QM z⟩;exact ⟨.next,_,e2,jn,.next,⟨m.st.trans stn.up,m.sr.trans ⟨rfl,rfl⟩⟩⟩
  | y k i y b0 hx h3 hb e2=>
   clear ha ns;subst h3 hb;obtain rfl:=show r= .bool b0 from vr1;obtain ⟨p,r0,hp,hh,vr,hlx⟩:=j1.val (λq=>by rw [hx] at q;injection q);rw [hx] at vr;refine gv vr λkv iv av bb σ=>a5 σ λb' ρ U=>?_;obtain ⟨ad,dx,o,od,es,n,rfl,z1,z2,q1,q2,q3,q4,q5,q6,q7,⟨t0,v0,U,d,t1',v1,U,rfl,t2,v2,U,rfl,t3,v3,U,rfl,t4,v4,U,rfl,kn⟩,l⟩:=ρ;obtain rfl:=show _=([]:List fy) from kn;rw [d] at l;injection l with w0 l;injection l with w1 l;injection l with w2 l;injection l with w3 l
   dsimp only at w3;subst w3;obtain ⟨es⟩:=es;dsimp only at d;subst d;refine h9 eo hv hn hp hh (Ec (j1.gi.kin H) (H.cls 0) ⟨q1,q2,by unfold pP;rw [q4],by rw [q3];exact q5⟩ q3 ∅ q7 ?_ (by simp) λh' n' h1 h2=>?_)
   .exact ⟨some (.bool bb),by
     unfold jG;simp only [List.find?_cons,DO,qt (show 3< 10 by decide)]
     rfl⟩
   obtain ⟨jn,stn⟩:=j1.flip H z2 q5 (by
    rw [q7];refine .mk _ _ _ _ ⟨ib c.w.params (SS (gO 3)),.str (SS (gO 3)) t3,.bool bb⟩ b0 ?_ rfl rfl (dU _ t0 rfl ?_)
    .unfold putL;simp only [DO,qt (show 3< 10 by decide),putL];rfl
    rw [wb 0 ∅]) h1 λb o hb e=>(h2.2 b hb).trans e
   exact ⟨.next,g1,e2,jn,.next,⟨m.st.trans stn,m.sr.trans ⟨rfl,rfl⟩⟩⟩) (nA hc)
end
section
variable {a k:Tx}{ks:List Tx}{v d:D}{vs:List D}
theorem yz(h:(a==k)=true):dO (a::ks) (v::vs) k d=(a::ks,d::vs):=if_pos h
theorem yy(h:(a==k)=false):dO (a::ks) (v::vs) k d=(a::(dO ks vs k d).1,v::(dO ks vs k d).2):=rf h
theorem D5(p:ks.length=vs.length)(h:x∈(dO ks vs k d).1):x∈ks\/x=k:=by
 induction ks generalizing vs with
 | nil=>induction vs using bO with
  | nil=>exact .inr (fh.mp h)
  | cons=>injection p
 | cons a ks z=>induction vs using bO with
  | nil=>injection p
  | cons v vs=>
   induction y:a==k with
   | true=>rw [yz y] at h;exact .inl h
   | false=>
    rw [yy y] at h;cases h with
    | head=>exact .inl (.head _)
    | tail U h=>exact (z (iX p) h).imp (.tail _) id
theorem MW(p:ks.length=vs.length)(nd:ks.Nodup):(dO ks vs k d).1.Nodup:=by
 induction ks generalizing vs with
 | nil=>induction vs using bO with
  | nil=>exact jZ.mpr ⟨(by cases ·),nd⟩
  | cons=>injection p
 | cons a ks z=>induction vs using bO with
  | nil=>injection p
  | cons v vs=>
   induction y:a==k with
   | true=>rw [yz y];exact nd
   | false=>refine xA (jZ.mp nd) λu w=>?_;rw [yy y];exact jZ.mpr ⟨λq=>(D5 (iX p) q).elim u λq=>ne_of_beq_false y q,z (iX p) w⟩
end
theorem Pw{u v:a4}{r:List (a6×a4)}(h:∀y∈r,y.1≠k):mV ((k,u)::r) k v=(k,v)::r:=by unfold mV;rw [C7,decide_eq_true rfl,Bool.true_or,if_pos rfl,eZ,if_pos rfl];exact congrArg _ ((IR λy p=>if_neg (h y p)).trans (List.map_id' r))
theorem Pu{u v:a4}{r:List (a6×a4)}(h:¬a=k):mV ((a,u)::r) k v=(a,u)::mV r k v:=by unfold mV;rw [C7,decide_eq_false h,Bool.false_or,eZ,if_neg h];exact (apply_ite (List.cons (a,u)) _ _ _).symm
section
variable {c:Cfg}{G:cB}{A:cy}{X:Cx}{Y:cz}{sc scope:cD}{Q:List (Nat×a6)}{g C N:Gh}{h h':bP}{s s' I:bM}{M:fg}{q:Bool}{pos:c8}{O O':Ow}
theorem LW{r:a4}(l:DR c O h d r){ks:List Tx}{vs:List D}{us:List a4}(e:DRs c O h vs us)(z:ks.length=vs.length)(nd:ks.Nodup) : ∃p,mV ((ks.map SS).zip us) (SS k) r=((dO ks vs k d).1.map SS).zip p/\DRs c O h (dO ks vs k d).2 p/\(dO ks vs k d).1.length=p.length:=by
 induction ks generalizing vs us with
 | nil=>induction vs using bO with
  | nil=>obtain rfl:=show us=[] from e;exact (cF [r] rfl (.cons l rfl) rfl)
  | cons=>injection z
 | cons a ks m=>induction vs using bO with
  | nil=>injection z
  | cons v vs=>
   refine c0 e λu us H B rs=>?_;clear e;subst H;refine xA (jZ.mp nd) λo n=>?_;induction y:a==k with
   | true=>clear m;obtain rfl:=eq_of_beq y;rw [yz y];exact (cF (r::us) (Pw λx t q=>o (by refine a5 (cM.mp (C5 t).1) λb w e=>?_;rw [<-mf (e.trans q)];exact w)) (.cons l rs) (z.trans (congrArg pK rs.len)))
   | false=>refine ck (m rs (iX z) n) λp j i f=>?_;rw [yy y];exact (cF (u::p) ((Pu λe=>ne_of_beq_false y (mf e)).trans (congrArg _ j)) (.cons B i) (congrArg pK f))
theorem FT{us:List a4}{E:bZ}(x:DcA c O s.heap t ks (.ref a) us)(rs:DRs c O s.heap ds us)(f:ks.length<=df)(m:k≠jr)(o:DR c O s.heap d r) : b8 (b9 pw c.w) A (setItem (.ref a) (.str (SS k) tk) r) (λU s'=>(∃p,DcA c O s'.heap t (dO ks ds k d).1 (.ref a) p/\DRs c O s.heap (dO ks ds k d).2 p)/\jm a s.heap s'.heap/\SameRest s s') E s:=by
 refine jN x.of λU e z b i=>?_;obtain rfl:=ez e;have l:jh ks:=by obtain ⟨U,U,U,U,U,U,U,U,U,U,U,l⟩:=x;exact l
 refine wpAny_setItem_pairs (lL ..) b (λh' u j=>?_) (by unfold df at f;rw [fH];simp;exact Z0 f i);have y:=i.trans rs.len.symm;refine ck (LW (k:=k) o rs y l.2) λp n B H=>?_;rw [n] at u;exact ⟨(a7 p (DcA.mk' u H z ⟨λhm=>(D5 y hm).elim l.1 λq=>m q.symm,MW y l.2⟩) B),j,rfl,rfl⟩
theorem RS{xs:List D}{j:Int}{E:bZ}(x:SqA O s.heap t "list" (.ref a) vs)(rs:DRs c O s.heap xs vs.toList)(H:0<=j)(hj:j.toNat< xs.length)(hz:xs.length<=df)(dr:DR c O s.heap d r) : b8 (b9 pw c.w) A (setItem (.ref a) (.int j tk) r) (λU s'=>(∃us,SqA O s'.heap t "list" (.ref a) us/\DRs c O s.heap (xs.set j.toNat d) us.toList)/\jm a s.heap s'.heap/\SameRest s s') E s:=by
 obtain ⟨U,o,m,e,z,B,bo,f⟩:=x;obtain rfl:=ez e;have b:s.heap.IsList a vs:=(nK o B bo.1 m f);have n:xs.length=vs.size:=by rw [rs.len];simp
 unfold df at hz;unfold setItem;try with_reducible refine gQ ?_
 first | refine a9 (bX ?_) | skip
 refine a9 (wpAny_sequenceKey b.typeIs ∅ (a9 (o0 b.typeIs slot_list_setitem (lK slot_list_setitem b.typeIs entry_list_setitem ?_ (args_list_setitem _ _ _)))));show b8 _ _ (Builtin.List.listSubscript? (.int j tk) >>=_) _ _ s;refine a9 (wpAny_listSubscript_int (fitsIndex_of H (by omega)) (xE (Int.eq_ofNat_of_zero_le H) λi ρ=>?_));clear H;subst ρ;have hi:i< vs.size:=by rw [<-n];simpa using hj
 have hx':=JJ hi;refine a9 (a9 (wpAny_seqItemAt B f (bX ?_)));rw [hx'];refine xE (Obj.data_mapSeq f (·.setIfInBounds i r)) λn' l=>?_;have y:=kU _ B (Obj.isFreed_of_seq l);have p:nM (Obj.mapSeq (·.setIfInBounds i r) o) "list" :=by obtain ⟨oc,od,oda,osl⟩:=o;refine dm bo λb1 b2 b3=>?_;dsimp only at b1 b2 b3 f;subst b1 b2 b3 f;exact ⟨rfl,rfl,rfl⟩
 have u:=DRs.set dr i rs;refine a9 (wpAny_setSeqItemAt B f ?_);first
  | exact a9 (bX (bX ⟨.none,rfl,bX ⟨⟨_,⟨a,_,n',rfl,z,y,p,l⟩,by simpa using u⟩,lW ..,rfl,rfl⟩⟩))
  | exact bX ⟨.none,rfl,bX ⟨⟨_,⟨a,_,n',rfl,z,y,p,l⟩,by simpa using u⟩,lW ..,rfl,rfl⟩⟩
inductive KeyI(ks:List Tx)(di:D)(k:Tx):Prop
 | mk (hi:di= .str k) (hk:k≠jr) (hl:ks.length<=df)
theorem Hv{k:Tx}{p a:Out (Ctl×Fr)}(e:p=if (k==jr||decide (df< ks.length))=true then .x else a)(ns:p≠ .x):KeyI ks (.str k) k/\p=a:=by
 by_cases y:(k==jr||decide (df< ks.length))=true
 .rw [if_pos y] at e;exact absurd e ns
 rw [if_neg y] at e;rw [xK,not_or,decide_eq_true_eq] at y;exact ⟨⟨rfl,λq=>y.1 (by rw [q];exact beq_self_eq_true _),i7 y.2⟩,e⟩
inductive AsgII(f:Fr)(x:Nat)(d di:D)(out:Out (Ctl×Fr)):Prop
 | mk (ks:List Tx) (vs:List D) (k:Tx) (h:rd f x= .od ks vs) (hk:KeyI ks di k) (e:out= .ok (.next,f.set x (.od (dO ks vs k d).1 (dO ks vs k d).2)))
theorem Wb(e:out=match rd f x,y with
  | .od ks vs,.str k=>if k==jr||decide (df< ks.length) then .x else .ok (.next,f.set x (.od (dO ks vs k d).1 (dO ks vs k d).2))
  | _,_=>.x) (ns:out≠ .x):AsgII f x d y out:=by
 induction p:rd f x using bS with
 | od ks vs=>
  rw [p] at e;induction y using c7 with
  | str k=>refine xA (Hv e ns) λz u=>?_;exact ⟨ks,vs,k,p,z,u⟩
  | _=>exact absurd e ns
 | _=>rw [p] at e;exact absurd e ns
theorem PV(H:Gd c)(eo:EO c X Y sc Q){ci ce:Internal.E}(hc:jJ e=true)(hv:(x,nm)∈Q)(hn:eE nm=true)(ti:T c G A X Y ci ie)(t:T c G A X Y ce e) : TS c G A X Y (.sI x ci ce) (.Assign [.Subscript (.Name nm np) ie ap] e pos):=λg s j ns=>Iz (t.d H j (.refl ..) rfl ns λd g1 r s1 j1 d1 st1 U i=>by
  induction b:lG (rd g1.f x) with
  | true=>rw [b] at i;exact absurd i ns
  | false=>
   rw [b] at i;obtain ⟨p,r0,B,hh,U,hx⟩:=j1.val (λq=>by rw [q] at b;injection b);refine h9 eo hv hn B hh (ti.d H j1 st1 i ns λdi g2 ri s2 j2 d2 st2 sx e2=>?_);obtain ⟨ks,ds,k,y,⟨rfl,hkk,hz⟩,e3⟩:=Wb e2 ns;have m:rd g2.f x≠ .u:=λq=>by rw [y] at q;injection q
   obtain ⟨p2,r2,hp2,l,vr,hlx⟩:=j2.val m;obtain rfl:=bv (B.symm.trans hp2);obtain rfl:=bv (l.inj (sx.has j1 B hh)).symm;rw [y] at vr;refine a5 vr λus dc rs=>?_;have dc':=dc;obtain ⟨a,o,es,n,rfl,z,ga,U⟩:=dc';refine fx d2 λU tk ρ=>?_;subst ρ;refine c6 (FT (E:=λU U=>False) dc rs hz hkk (sx.dr d1)) (λU s3 o=>dm o λρ sb sr=>?_) λU U q=>q.elim;obtain ⟨us',w,rs3⟩:=ρ;have dc4:=w;obtain ⟨U,U,U,U,e4,U,g3,U⟩:=dc4;obtain rfl:=ez e4;obtain ⟨j3,st3,zk⟩:=j2.aX (v:=.od (dO ks ds k d).1 (dO ks ds k d).2) H st2 hlx z sb ⟨_,g3⟩ sr rfl (by rw [y];rfl) m λzk U p' r' hp' hh' U=>by obtain rfl:=bv (B.symm.trans hp');obtain rfl:=bv (l.inj hh');exact (a7 us' w (rs3.ext zk))
   exact ⟨.next,_,e3,j3,.next,st3⟩) (nA hc)
end
section
variable {c:Cfg}{G:cB}{A:cy}{X:Cx}{Y:cz}{sc scope:cD}{C:List (Nat×a6)}{g B Q:Gh}{h h':bP}{s s' N:bM}{M:fg}{q:Bool}{pos:c8}{O O':Ow}
theorem InA.keep{p:Nat}{as:List Nat}{v:a4}(I:InA c O h t z p as v vs)(k:∀b o,O b=t\/O b=z->h.get? b=some o->h'.get? b=some o):InA c O h' t z p as v vs:=by obtain ⟨a,d,o,y,es,n,v,u,zd,r,l,m,j,i,f,e,H,w⟩:=I;exact ⟨a,d,o,y,es,n,v,u,zd,k a o (.inl u) r,l,m,j,k d y (.inr zd) i,f,e,H,w⟩
theorem InA.same{e y a:Nat}{as p:List Nat}(I:InA c O h t t' e as v vs)(f:InA c O' h' u u' y p v j)(k:Kp h h')(i:a< 10):gu as vs a=gu p j a:=by obtain ⟨x,d,o,od,es,n,rfl,U,U,H,U,b,U,e5,U,e7,kk,rfl⟩:=I;obtain ⟨x',d',o',od',es',n',v',U,U,z,U,w,U,r,U,l,m,rfl⟩:=f;obtain rfl:=ez v';obtain rfl:=bv ((k _ _ H).symm.trans z);obtain rfl:=bv (b.symm.trans w);obtain rfl:=bv ((k _ _ e5).symm.trans r);cases e7.symm.trans l;exact bv ((sK i kk).symm.trans (sK i m))
theorem R1.frz{t k:Nat}(x:R1 c O h t k v r):∃d,iS v=some d:=by induction v using bS<;>first | exact ⟨_,rfl⟩ | exact x.elim
theorem EG(H:Gd c)(j:J c X g s.heap)(st:St c q Q N g s){us:List a4}{ad b:b7}(hp:X.pl[x]? =some p)(d:Has s.heap p (some (.ref ad)))(hx:rd g.f x= .oi y as vs)(I:InA c g.O s.heap (.own (x+1) 0) (.own (x+1) 1) y as (.ref ad) us)(F:RF c g.O s.heap (x+1) 2 vs us) (i:gu as us a=some (.ref b)) (l:g.O b= .own (x+1) (2+fU as a)) (m:jm b s.heap s'.heap) (n:∃o,s'.heap.get? b=some o) (sr:SameRest s s') (r:ZK c g.O s.heap g.O s'.heap->R1 c g.O s'.heap (x+1) (2+fU as a) v (.ref b)) : J c X ⟨g.f.set x (.oi y as (dG as vs a v).2),g.O⟩ s'.heap/\St c q Q N ⟨g.f.set x (.oi y as (dG as vs a v).2),g.O⟩ s':=by have e:=Du i;obtain ⟨jn,t⟩:=j.field H hp d hx (λk o u e=>(m.2 k u).trans e) (.inr l) n (λU=>.inl rfl) (λU h=>h) F (I.len.trans F.len.symm) (by rw [e];exact I.keep λk o z e=>(m.2 k λw=>by rw [w,l] at z;rcases z with z | z<;>(injection z with _ z;omega)).trans e) r;exact ⟨jn,st.st.trans t.up,st.sr.trans sr⟩
inductive AsgPI(f:Fr)(x a:Nat)(d di:D)(out:Out (Ctl×Fr)):Prop
 | od (cl:Nat) (as:List Nat) (vs:List V) (ks:List Tx) (ds:List D) (k:Tx) (h:rd f x= .oi cl as vs) (hf:gu as vs a=some (.od ks ds)) (hk:KeyI ks di k) (e:out= .ok (.next,f.set x (.oi cl as (dG as vs a (.od (dO ks ds k d).1 (dO ks ds k d).2)).2)))
 | ol (cl:Nat) (as:List Nat) (vs:List V) (xs:List D) (j:Int) (h:rd f x= .oi cl as vs) (hf:gu as vs a=some (.ol xs)) (hi:di= .int j) (h0:0<=j) (hj:j.toNat< xs.length) (hz:xs.length<=df) (e:out= .ok (.next,f.set x (.oi cl as (dG as vs a (.ol (xs.set j.toNat d))).2)))
def Gk(f:Fr)(x a c:Nat)(as:List Nat)(vs:List V)(d p:D)(u:Option V):Out (Ctl×Fr):=match u,p with
 | some (.od ks ds),.str k=>if k==jr||decide (df< ks.length) then .x else .ok (.next,f.set x (.oi c as (dG as vs a (.od (dO ks ds k d).1 (dO ks ds k d).2)).2))
 | some (.ol xs),.int j=>if 0<=j&&decide (j.toNat< xs.length)&&decide (xs.length<=df) then .ok (.next,f.set x (.oi c as (dG as vs a (.ol (xs.set j.toNat d))).2)) else .x
 | _,_=>.x
def Wf(f:Fr)(x a:Nat)(d k:D):V->Out (Ctl×Fr)
 | .oi c as vs=>Gk f x a c as vs d k (fk as vs a)
 | _=>.x
theorem Wd(e:out=Wf f x a d z (rd f x))(ns:out≠ .x):AsgPI f x a d z out:=by
 induction u:rd f x using bS with
 | oi w as vs=>
  rw [u] at e;have e:out=Gk f x a w as vs d z (fk as vs a):=e;induction y:fk as vs a with
  | none=>rw [y] at e;exact absurd e ns
  | some v=>
   rw [y] at e;rw [fieldAt_G] at y;induction v using bS with
   | od ks ds=>induction z using c7 with
    | str k=>refine xA (Hv e ns) λt l=>?_;exact .od w as vs ks ds k u y t l
    | _=>exact absurd e ns
   | ol xs=>induction z using c7 with
    | int j=>
     by_cases p:(decide (0<=j)&&decide (j.toNat< xs.length)&&decide (xs.length<=df))=true
     .have r:=e.trans (if_pos p);simp only [dF,decide_eq_true_eq] at p;exact .ol w as vs xs j u y rfl p.1.1 p.1.2 p.2 r
     exact absurd (e.trans (if_neg p)) ns
    | _=>exact absurd e ns
   | _=>exact absurd e ns
 | _=>rw [u] at e;exact absurd e ns
theorem PW(H:Gd c)(eo:EO c X Y sc C){x a:Nat}{nm:a6}{ci ce:Internal.E}{ie e:a8}{np ap ap':c8}(hc:jJ e=true)(hv:(x,nm)∈C)(hn:eE nm=true)(ha:a< 10)(hb:eN ci=false)(ti:TQ c G A X Y ci ie)(t:T c G A X Y ce e) : TS c G A X Y (.sP x a ci ce) (.Assign [.Subscript (.Attribute (.Name nm np) (an a) ap) ie ap'] e pos):=λg s j ns=>Iz (t.d H j (.refl ..) rfl ns λd g1 r s1 j1 d1 st1 U e1=>by
  induction hu:Bt (rd g1.f x) a with
  | false=>rw [hu] at e1;exact absurd e1 ns
  | true=>
   rw [hu] at e1;have e1':=e1;induction l:rd g1.f x using bS with
   | oi cl1 as1 vs1=>
    rw [l] at hu;refine xE (lS.mp hu) λv1 hv1=>?_;obtain ⟨p,r0,hp,hh,vr1,U⟩:=j1.val (λq=>by rw [l] at q;injection q);rw [l] at vr1;refine a5 vr1 λus1 I1 F1=>a5 (F1.get (fieldAt_G.symm.trans hv1)) λr1 q1 q2=>xE q2.frz λd0 hd0=>rS (h9 eo hv hn hp hh (ny H (j1.gi.kin H) ha I1 q1 (q2.ai (λU U=>rfl) (λU U=>rfl) hd0).kd.handed (ti.go j1 st1.tk (e1'.trans (by rw [wm hb];rfl)) ns λdi g2 ri s2 j2 d2 U st2 sx kp e2=>?_)));have sx:St c false g1 s1 g2 s2:=⟨sx.st,sx.sr⟩;have kp:=kp;have key:∀{cl as vs v},rd g2.f x= .oi cl as vs->gu as vs a=some v->∃us ad b,r0= .ref ad/\Has s2.heap p (some (.ref ad))/\InA c g2.O s2.heap (.own (x+1) 0) (.own (x+1) 1) cl as (.ref ad) us/\RF c g2.O s2.heap (x+1) 2 vs us/\gu as us a=some r1/\R1 c g2.O s2.heap (x+1) (2+fU as a) v r1:=λ{cl as vs v} y hf=>by obtain ⟨p2,r2,hp2,u,vr2,U⟩:=j2.val (λq=>by rw [y] at q;injection q);obtain rfl:=bv (hp.symm.trans hp2);obtain rfl:=bv (u.inj (sx.has j1 hp hh)).symm;rw [y] at vr2;refine a5 vr2 λus2 m F2=>a5 (F2.get hf) λr2 q3 q4=>?_;have:=bv (q1.symm.trans ((I1.same m kp ha).trans q3));subst this;have I3:=m;obtain ⟨ad,U,U,U,U,U,rfl,U⟩:=I3;exact (ix us2 ad ⟨0,rfl,u,m,F2,q3,q4⟩)
    cases Wd e2 ns with
    | od cl as vs ks ds k y hf hk e3=>refine gq (key y hf) λus ad U w u m σ=>dm σ λF2 q3 q4=>?_;subst w;obtain ⟨rfl,hkk,hz⟩:=hk;refine a5 q4 λus' dc rs=>?_;have dc':=dc;obtain ⟨b,o,es,n,rfl,z,ga,U⟩:=dc';refine fx d2 λU tk w=>?_;subst w;refine c6 (FT (E:=λU U=>False) dc rs hz hkk (sx.dr d1)) (λU s3 o=>dm o λw sb sr=>?_) λU U q=>q.elim;obtain ⟨us3,dc3,I⟩:=w;have dc4:=dc3;obtain ⟨U,U,U,U,e4,U,g3,U⟩:=dc4;obtain rfl:=ez e4;exact xA (EG (v:=.od (dO ks ds k d).1 (dO ks ds k d).2) H j2 st2 hp u y m F2 q3 z sb ⟨_,g3⟩ sr λzk=>(a7 us3 dc3 (I.ext zk))) λj3 st3=>⟨.next,_,e3,j3,.next,st3⟩
    | ol cl as vs xs i y hf hi h0 hj hz e3=>refine gq (key y hf) λus ad U w u m σ=>dm σ λF2 q3 q4=>?_;subst w;subst hi;refine a5 q4 λus' sq rs=>?_;have sq':=sq;obtain ⟨b,o,n,rfl,z,ga,U⟩:=sq';refine xE d2 λtk w=>?_;subst w;refine c6 (RS (E:=λU U=>False) sq rs h0 hj hz (sx.dr d1)) (λU s3 o=>dm o λw sb sr=>?_) λU U q=>q.elim;obtain ⟨us3,sq3,I⟩:=w;have sq4:=sq3;obtain ⟨U,U,U,e4,U,g3,U⟩:=sq4;obtain rfl:=ez e4;exact xA (EG (v:=.ol (xs.set i.toNat d)) H j2 st2 hp u y m F2 q3 z sb ⟨_,g3⟩ sr λzk=>(a7 us3 sq3 (I.ext zk))) λj3 st3=>⟨.next,_,e3,j3,.next,st3⟩
   | _=>rw [l] at hu;injection hu) (nA hc)
end
def ly:List a4:=[.type "Exception",.type "BaseException",.type "object"]
def Hh(K:Frag)(C p Y:b7):Bool:=(K.lookup C).any λo=>match o.data with
 | .cls k=>o.cls== .type "type" &&o.slots.size==6&&o.slots[4]? ==some (some (.builtin "Exception.__new__"))&&k.mro== .ref C:: .ref p::ly&&!k.hasDel&&k.hasDict&&nsOkIn K k.ns&&nsIn K k.ns "__init__" ==some (some (.ref Y))&&tailIn K ly (.ref p::ly)
 | _=>false
inductive XcI(h:bP)(C Y:b7):Prop
 | mk (nm q:a6) (N A0:b7) (bs:List a4) (mN:a6->Option a4) (sn:List a6) (sub:List a4) (ab:Bool) (col:Option Bool) (dd:Option b7) (k0 k1 k2 k3 k5:Option a4)
  (hC:h.get? C=some (xg nm q C N bs (.ref A0::ly) true sn sub ab col dd k0 k1 k2 k3 k5 "Exception.__new__")) (hn:h.Ns N mN) (hi:mN "__init__" =some (.ref Y)) (T:OwnTail h ly (.ref A0::ly))
set_option tactic.hygienic true in
theorem LV{K:Frag}{k:a6->Option a4}(X:K.In h)(G:h.Ns N k)(e:nsIn K N n=some (some v)):k n=some v:=by
 refine gq G λo es w u y _ z=>?_;unfold nsIn at e;split at e
 .rename_i c d p r l q;have:=X _ _ q;rw [u] at this;obtain rfl:=bv this.symm;cases y;split at e
  .rename_i en he;obtain rfl:=bv (bv e);rw [<-z];unfold nsFind findBy;rw [<-Array.find?_toList,he];rfl
  split at e<;>cases e
 injection e
theorem six{α:Type}{a:Array α}(h:a.size=6):∃k0 k1 k2 k3 k4 k5,a= #[k0,k1,k2,k3,k4,k5]:=by
 obtain ⟨l⟩:=a;rcases l with U | ⟨k0,U | ⟨k1,U | ⟨k2,U | ⟨k3,U | ⟨k4,U | ⟨k5,U | ⟨k6,l⟩⟩⟩⟩⟩⟩⟩
 case cons.cons.cons.cons.cons.cons.nil=>exact ⟨k0,k1,k2,k3,k4,k5,rfl⟩
 all_goals exact absurd h (by simp [xq])
theorem Aw{K:Frag}{h:bP}{C y Y:b7}(X:K.In h)(e:Hh K C y Y=true):XcI h C Y/\∃cd,clsIn K C=some cd/\cd.mro= .ref C:: .ref y::ly/\cd.hasDict=true:=by
 refine a5 (any_some e) λo r e=>?_;obtain ⟨H,dd,n,x⟩:=o;induction n with
 | cls cd=>
  simp only [dF,beq_iff_eq,jF] at e;refine xA e λv i=>?_;obtain ⟨⟨⟨⟨⟨⟨⟨rfl,j⟩,m⟩,u⟩,k⟩,hdct⟩,p⟩,w⟩:=v;have z:clsIn K C=some cd:=by unfold clsIn;rw [r]
  refine (tw ?_ cd z u hdct);obtain ⟨nm,bs,f,ns,s,I,sn,sub,ab,col,l⟩:=cd;dsimp only at u k hdct p w;subst u k hdct;refine gv (six j) λk0 k1 k2 k3 Q=>fY Q λB k5 v=>?_;subst v;cases m;have G:h.Ns ns _:=.of_isNs (isNs_of_in X p);exact ⟨nm,s,ns,y,bs,_,sn,sub,ab,col,dd,k0,k1,k2,k3,k5,X _ _ r,G,LV X G w,tail_of_in X i⟩
 | _=>injection e
section
variable {c:Cfg}{A:cy}{E:bZ}{M:fg}{h:bP}{g:Array GenState}{d:Drawn}{t:Nat}{os:dA}{nm q:a6}{C N:b7}{bs O:List a4}{hdct:Bool}{sn:List a6}{sub:List a4}{ab:Bool}{col:Option Bool}{dd:Option b7}{k0 k1 k2 k3 k5:Option a4}{newId:String}{Y:b7}
theorem LX{x:Sem a4}{Q:Flow->bM->Prop}(k:O.contains (.type "BaseException")=true)(r:A.handled=none) (h:b8 M A x (λv s₁=>∃e t y,v= .ref e/\s₁.heap.get? C=some (xg nm q C N bs O hdct sn sub ab col dd k0 k1 k2 k3 k5 newId) /\ s₁.heap.get? e=some {cls:=.ref C,dict:=some y,data:=.fields #[.ref t,.none,.none,.none,.bool false,.none]}/\E (.ref e) s₁) E s) : b8 M A (raiseStmt u (some x) none) Q E s:=by
 have p:(fP C::O).contains (.type "BaseException")=true:=by rw [C3,k,Bool.or_true]
 unfold raiseStmt;refine a9 (c6 h (λv s₁ h₁=>gq h₁ λe t y l z he w=>?_) λU U x=>x);subst l;clear h₁;obtain ⟨m,g,d,tk,os⟩:=s₁;repeat (first | with_reducible refine ut he ?_ | with_reducible refine ut z ?_ | (with_reducible refine IG z ?_;rw [p]) | wp_step)
 exact wpAny_raiseNew_none r w
theorem KA{mN:a6->Option a4}{oI:cn}{Q:Fin->bM->Prop}(T:OwnTail h ly O)(l:h.get? C=some (xg nm q C N bs O hdct sn sub ab col dd k0 k1 k2 k3 k5 newId))(m:newId= "Exception.__new__")(hn:h.Ns N mN)(B:mN "__init__" =some (.ref Y))(i:h.get? Y=some oI)(f:oI.cls= .type "function") (H:∀h' e,Jn h h' e (.ref C) rest->b8 (b9 pw c.w) A (call (.ref Y) (.ref e::rest)) (λr s'=>r= .none/\Q (.done (.ret (.ref e))) s') E ⟨h',g,d,t,os⟩) (u:rest.length<=o7:=by size_fits) : b8 (b9 pw c.w) A (Builtin.«type.__call__» ⟨.ref C::rest,[]⟩) Q E ⟨h,g,d,t,os⟩:=by
 subst m;have F:=PySem.F.excBase_Exception;repeat (first | with_reducible refine ut l ?_ | with_reducible refine wpAny_madeBy_exc l ?_ | wp_step)
 refine codeAny_call_builtin_code (JW _ F.quiet) (wpAny_check_new_subU F rfl T l (codeAny_exc_new_subU F rfl F T l ?_ u));have k:=cS {cls:=.ref C,data:=.fields #[.ref h.objs.size,.none,.none,.none,.bool false,.none]} (cS {cls:=.type "tuple",data:=.seq rest.toArray} l);have p:=cS {cls:=.ref C,data:=.fields #[.ref h.objs.size,.none,.none,.none,.bool false,.none]} (cS {cls:=.type "tuple",data:=.seq rest.toArray} i);have z:((h.push {cls:=.type "tuple",data:=.seq rest.toArray}).push {cls:=.ref C,data:=.fields #[.ref h.objs.size,.none,.none,.none,.bool false,.none]}).Ns N mN:=d8 hn λo es s e r=>(eM o es s (cS _ (cS _ e)) r);have y:((h.push {cls:=.type "tuple",data:=.seq rest.toArray}).push {cls:=.ref C,data:=.fields #[.ref h.objs.size,.none,.none,.none,.bool false,.none]}).get? (h.objs.size+1)=some {cls:=.ref C,data:=.fields #[.ref h.objs.size,.none,.none,.none,.bool false,.none]}:=by heap_get
 have j:(fP C::O).contains (.ref C)=true:=by simp
 have v:=T.keeps (h':=(h.push {cls:=.type "tuple",data:=.seq rest.toArray}).push {cls:=.ref C,data:=.fields #[.ref h.objs.size,.none,.none,.none,.bool false,.none]}) λb o e=>cS _ (cS _ e);unfold isInstance;repeat (first | with_reducible refine ut y ?_ | (with_reducible refine IG k ?_;rw [j]) | wp_step)
 refine wpAny_typeLookup_tail k z v F.mroIs F.init.lookup ?_;rw [B];refine gQ (a9 ?_);unfold bindSpecial;refine a9 (BY (a7 _ p f) ?_);rw [if_pos ∅];refine bX (a9 (c6 (H _ (h.objs.size+1) ⟨λb o G=>cS _ (cS _ G),xJ (kT _),h.objs.size,y,xJ (fj _),?_⟩) (λr s' n=>?_) λU U x=>x))
 .exact cS _ (Jm rfl rfl)
 refine xA n λa I=>?_;clear n;subst a
 wp_walk
 exact I
theorem O0{v:a6->Option a4}{oI:cn}{Q:bZ}(T:OwnTail h ly O)(p:h.get? C=some (xg nm q C N bs O hdct sn sub ab col dd k0 k1 k2 k3 k5 newId))(k:newId= "Exception.__new__")(hn:h.Ns N v)(l:v "__init__" =some (.ref Y))(y:h.get? Y=some oI)(z:oI.cls= .type "function") (j:∀h' e,Jn h h' e (.ref C) rest->b8 (b9 pw c.w) (A.under (.builtin "type.__call__" ⟨.ref C::rest,[]⟩)) (call (.ref Y) (.ref e::rest)) (λr s'=>r= .none/\Q (.ref e) s') E ⟨h',g,d,t,os⟩) (u:rest.length<=o7:=by size_fits) : b8 (b9 pw c.w) A (call (.ref C) rest) Q E ⟨h,g,d,t,os⟩:=by
 have f1:=tc_lookup;have i:=tc_bind (.ref C);refine rE (codeAny_of_tree ?_);repeat (any_goals (first | assumption | with_reducible refine ut p ?_ | wp_step))
 exact ⟨rfl,codeAny_call_builtin_at (JW _ (by decide +kernel)) entry_typeCall (wpAny_check_type_call_sub p (KA T p k hn l y z λh' e m=>j h' e m))⟩
end
structure Xc(c:Cfg)(M N:b7)(sc:cD)(G C B z:c8):Prop where
 nmx:c.mg c.xnm=some (.ref c.xa)
 keep:kZ c.K (.ref c.xa)=true
 chk:Hh c.K c.xa M N=true
 set:jo c.K (.ref c.xa) "__setattr__" =some (some (.builtin "object.__setattr__"))
 own:takerIn c.K c.xa (an 9)=some none
 obj:mroIn c.K c.xa (.type "object")=some true
 get:jo c.K (.ref c.xa) "__getattribute__" =some (some (.builtin "BaseException.__getattribute__"))/\jo c.K (.ref c.xa) "__getattr__" =some none/\mroIn c.K c.xa (.type "BaseException")=some true
 dict:hasDictIn c.K c.xa=true
 own9:jo c.K (.ref c.xa) (an 9)=some none
 fn:∃o fd,c.B.get? N=some o/\o.cls= .type "function" /\o.data= .func fd/\fd.scope=sc/\fd.body= .stmts [.Assign [.Attribute (.Name "self" G) (an 9) C] (.Name "message" B) z]/\fd.globals=gR/\fd.builtins=iB/\fd.closure=[]/\PlainP fd.params ["self","message"]/\c.B.CodeRec fd.code fd.qualname/\(∀b,fd.code= .ref b->¬c.tabs b)/\fd.defaults= .none
 kind:sc.kind= .function/\sc.isCoroutine=false/\sc.isGenerator=false
 nms:sc.names.lookup ("self" :a6)=some .local/\sc.names.lookup ("message" :a6)=some .local/\∀x∈sc.names,x.2≠ .cell
section
variable {c:Cfg}{A:cy}{E:bZ}{s:bM}{M N:b7}{sc:cD}{G C B z:c8}
theorem Qz(Y:Xc c M N sc G C B z)(X:c.K.In s.heap){R:rJ->bM->Prop}(t:s.heap.get? x=some {cls:=.ref c.xa,dict:=none,data:=.fields vs}) (h:∀h' n,h'.get? x=some {cls:=.ref c.xa,dict:=some s.heap.objs.size,data:=.fields vs}->h'.get? s.heap.objs.size=some {cls:=.type "dict",data:=.dict #[⟨ib c.w.params (an 9),.str (an 9) s.toks,v⟩] n}->(∀b o,b≠x->s.heap.get? b=some o->h'.get? b=some o)->R (.ok (.ret .none)) {s with heap:=h',toks:=s.toks+1}) : mU (b9 pw c.w) A (.call (.builtin "object.__setattr__") ⟨[.ref x,.str (an 9) tk,v],[]⟩) R s:=by
 have I:InstAt s.heap x {cls:=.ref c.xa,dict:=none,data:=.fields vs} c.xa none:=⟨t,rfl,rfl,trivial⟩;refine tG (Aw X Y.chk) λU f j y hdct=>?_;have q:=PySem.F.store_object;have sub:Looks (b9 pw c.w) s.heap (isInstance (.ref x) (.type "object")) true:=I.type.andThen (looks_mroIn X Y.obj);refine IE q.slot.plain q.entry (@check_slot (b9 pw c.w) _ _ s "object.__setattr__" "object" "__setattr__" (.ref x) [.str (an 9) tk,v] [] _ q.kind q.split sub (q.args (.ref x) (.str (an 9) tk) v) (a5 (gZ.mp Y.own) λattr m O=>?_));have Q:Looks (b9 pw c.w) s.heap (mroOf (.ref c.xa)) f.mro:=(Cs X j).andThen .now;have i:Looks (b9 pw c.w) s.heap (a1r attr) none:=by
  clear m;induction attr with
  | none=>exact .now
  | some a=>
   refine a5 (iW.mp O) λb r e=>(looks_takesIn X r).andThen ?_;clear r;induction b with
   | false=>exact .now
   | true=>injection e
 rw [osa_eq,refuse_eq];refine a9 (a9 (I.type.here (a9 (Q.here ?_))));rw [y,refuseLoop_ref,refuseLoop_ref,show refuseLoop (.ref x) "__setattr__" ly=pure () from PySem.F.store_Exception.passes _];refine bX (a9 (I.type.here (a9 ((xM X m).here (a9 (i.here (a9 (bX (a9 (a9 (BV t (a9 ((Cs X j).here ?_)))))))))))));rw [hdct];dsimp only;rw [if_neg ∅,if_neg (by simp [typeHasDict])];refine a9 (wpAny_alloc ?_);have k:=cS {cls:=.type "dict",data:=.dict #[]} t;have u:=jl (gX t);refine a9 (wpAny_update k (bX ?_));have d:((s.heap.push {cls:=.type "dict",data:=.dict #[]}).update x λo=>{o with dict:=some s.heap.objs.size}).get? s.heap.objs.size=some {cls:=.type "dict",data:=.dict #[]}:=(Jl _ _ _ _ u.symm).trans (Jm rfl rfl);have p:((s.heap.push {cls:=.type "dict",data:=.dict #[]}).update x λo=>{o with dict:=some s.heap.objs.size}).get? x=some {cls:=.ref c.xa,dict:=some s.heap.objs.size,data:=.fields vs}:=kU _ k rfl;exact Ii d rfl ⟨_,rfl⟩ (by simp) λh' H g l=>h h' H ((l.2 x u).trans p) g λb o r e=>(l.2 b (jl (gX e))).trans ((Jl _ _ _ _ r).trans (cS _ e))
theorem QA(Y:Xc c M N sc G C B z)(X:c.K.In s.heap){Q:Unit->bM->Prop}(k:s.heap.get? x=some {cls:=.ref c.xa,dict:=none,data:=.fields vs}) (h:∀h' n,h'.get? x=some {cls:=.ref c.xa,dict:=some s.heap.objs.size,data:=.fields vs}->h'.get? s.heap.objs.size=some {cls:=.type "dict",data:=.dict #[⟨ib c.w.params (an 9),.str (an 9) (s.toks+1),v⟩] n}->(∀b o,b≠x->s.heap.get? b=some o->h'.get? b=some o)->Q () {s with heap:=h',toks:=s.toks+2}) : b8 (b9 pw c.w) A (setAttr (.ref x) (an 9) v) Q E s:=
 have I:InstAt s.heap x {cls:=.ref c.xa,dict:=none,data:=.fields vs} c.xa none:=⟨k,rfl,rfl,trivial⟩
 set_plain X I Y.set (Qz (s:={s with toks:=s.toks+1}) Y X k h)
theorem GB:(([("self",a),("message",b)]:List (a6×a4)).reverse.lookup ("self" :a6)=some a)/\(([("self",a),("message",b)]:List (a6×a4)).reverse.lookup ("message" :a6)=some b):=by
 have h:(("self" :a6)==("message" :a6))=false:=∅
 show List.lookup _ [(("message" :a6),b),(("self" :a6),a)]=_/\List.lookup _ [(("message" :a6),b),(("self" :a6),a)]=_;rw [gU,h,gU,beq_self_eq_true,gU,beq_self_eq_true];exact ⟨rfl,rfl⟩
theorem NZ(H:Gd c)(NL:c.B.NoLimit)(Y:Xc c M N sc G C B z)(I:GI c O s.heap)(g:A.depth< pB){vs:Array a4}{v:a4}{Q:bZ}(hx:s.heap.get? x=some {cls:=.ref c.xa,dict:=none,data:=.fields vs}) (h:∀h' d n t k,h'.get? x=some {cls:=.ref c.xa,dict:=some d,data:=.fields vs}->s.heap.get? d=none->h'.get? d=some {cls:=.type "dict",data:=.dict #[⟨ib c.w.params (an 9),.str (an 9) t,v⟩] n}->(∀b o,b≠x->s.heap.get? b=some o->h'.get? b=some o)->Q .none {s with heap:=h',toks:=k}) : b8 (b9 pw c.w) A (call (.ref N) [.ref x,v]) Q E s:=by
 refine hB Y.fn λo fd ho hcl hd e1 ρ=>qE ρ λe2 e3 e4 e5 P σ=>dm σ λhcd hct hdf=>dm Y.kind λk1 k2 k3=>dm Y.nms λn1 n2 n3=>a5 (I.base N o ho) λo' ho' lk=>?_;have hd2:=(lk.same (.inl ⟨(λh=>by injection h),λh=>by injection h⟩) (.inr λvs q=>by rw [hd] at q;injection q)).trans hd;refine rE (IC g ho' hd2 (by rw [e1];exact k2) (by rw [e1];exact k3) e2 (I.code hcd hct) ?_);rw [e1,e3,e4,e5];refine y7 (ds:=[]) P (λhQ=>by rw [hdf];exact bX hQ) (by simp) (by simp) (by simp) ?_;refine BN n3 (λy hy=>?_) (λh₁ i f=>⟨(y6 I NL).fresh _ f,codeAny_func ?_⟩) k1
 .rcases dp.mp hy with rfl | hy
  .exact n1
  rw [fh.mp hy];exact n2
 generalize hL:s.heap.objs.size=L at i f ⊢;have nL:s.heap.get? L=none:=by rw [<-hL];exact ig _
 have kp:Kp s.heap h₁:=λb o e=>(f.2 b λw=>by rw [w,nL] at e;injection e).trans (cS _ e);generalize l:({s with heap:=h₁,toks:=_}:bM)=s₁;generalize r:newEnv sc L gR [] _ _ _ _ _=j;have m:j.scope=sc:=by rw [<-r];rfl
 have el:j.locals=L:=by rw [<-r];rfl
 have eo:EO c ⟨[],[.loc L ("self" :a6),.loc L ("message" :a6)],none⟩ j sc [(0,("self" :a6)),(1,("message" :a6))]:=by
  refine ⟨by rw [m];exact k1,m,by rw [<-r];rfl,by rw [<-r];rfl,λp hp=>?_⟩;rcases dp.mp hp with rfl | hp
  .exact (a7 _ rfl ⟨rfl,el,by unfold jp;rw [m];exact n1⟩)
  rw [fh.mp hp];exact (a7 _ rfl ⟨rfl,el,by unfold jp;rw [m];exact n2⟩)
 have u:s₁.heap=h₁:=by rw [<-l]
 refine xd (Iu (h9 eo (.tail _ (.head _)) ∅ rfl (a7 _ (by rw [u];exact i) GB.2) (h9 eo (.head _) ∅ rfl (a7 _ (by rw [u];exact i) GB.1) (QA Y (by rw [u];exact λa o e=>kp a o (I.kin H a o e)) (by rw [u];exact kp x _ hx) λh' n q1 q2 q3=>ry ?_))) (nA rfl));have fr:=kp.gone (by rw [<-u];exact ig _);have k3:∀b o,b≠x->s.heap.get? b=some o->h'.get? b=some o:=λb o hb e=>q3 b o hb (by rw [u];exact kp b o e);clear u q3;subst l;exact h h' _ n _ _ q1 fr q2 k3
end
section
variable {c:Cfg}{G:cB}{A:cy}{X:Cx}{O:cz}{sc M:cD}{I:List (Nat×a6)}{g:Gh}{s:bM}{n:Nat}{z B:b7}{r p m i pos Q u y:c8}
theorem Nn(H:Gd c)(NL:c.B.NoLimit)(Y:Xc c z B M r p m i)(eo:EO c X O sc I)(cb:CB A X.fs (n+1)){l:Tx}{x:a6}{k:Nat}(hn:f7 sc c.xnm=true)(hx:x=SS l)(hk:cI l=true) : TS c G A X O (.raise (.str l)) (.Raise (some (.Call (.Name c.xnm u) [.Constant (.str x) k y] [] Q)) none pos):=by
 intro g s j ns;subst hx;obtain ⟨nm,q,N,A1,bs,mN,sn,sub,ab,col,dd,k0,k1,k2,k3,k5,hC,hN,hi,T⟩:=(Aw (j.gi.kin H) Y.chk).1;refine c0 Y.fn λo fd ho hcl U=>a5 (j.gi.base B o ho) λoI hI lk=>?_;have cb1:=D8 (C:=c.xa) (rest:=[.str (SS l) s.toks]) (kw:=[]) (cb.mono (Zn));rw [arm_exec_Raise];refine a9 (o3 (LX (C:=c.xa) (nm:=nm) (q:=q) (N:=N) (bs:=bs) (hdct:=true) (sn:=sn) (sub:=sub) (ab:=ab) (col:=col) (dd:=dd) (k0:=k0) (k1:=k1) (k2:=k2) (k3:=k3) (k5:=k5) (newId:="Exception.__new__") (T.hasType rfl) cb.hh (a9 (c6 (l0 (x:=c.xnm) rfl (oC H j.gi eo hn Y.nmx (og (P:=λh=>Keeps (b9 pw c.w) h (.ref c.xa)) rfl (λh x=>x) ?_))) (λv s3 h3=>a9 (o3 (bX h3))) λU U x=>x))));rw [iK (λU U h=>by injection h)];refine on (oq (xc (pS ⟨.of (j.gi.kin H) Y.keep,?_⟩)));obtain ⟨hp,a,dr,tk,os⟩:=s;refine O0 T hC rfl hN hi hI (lk.cls.trans hcl) λh1 e hm=>?_;obtain ⟨ke,f,t,he,ht,hgt⟩:=hm;have gi1:GI c g.O h1:=(j.kp H ke).gi;refine NZ (s:=⟨h1,a,dr,_,os⟩) H NL Y gi1 (gV (cW (kS _ 20) (kS _ _)) cb1.dep) he λh2 d n2 tk2 k2' q1 q2 q3 q4=>⟨rfl,e,t,d,rfl,?_,q1,l,rfl,?_⟩
 .exact q4 _ _ (λw=>by rw [w,f] at hC;injection hC) (ke _ _ hC)
 have kp:Kp hp h2:=λb o eb=>q4 b o (λw=>by rw [w] at eb;rw [show hp.get? e=none from f] at eb;injection eb) (ke b o eb);have fd:hp.get? d=none:=by
  induction w:hp.get? d with
  | none=>rfl
  | some o=>rw [ke d o w] at q2;injection q2
 exact ⟨g.O,kp.step c true _ _ λU U U=>rfl,⟨rfl,rfl⟩,(j.kp H kp).base,e,_,d,_,_,n2,tk2,_,rfl,q1,rfl,rfl,rfl,by simp,q3,rfl,rfl,f,fd,j.aw f,j.aw fd,.inl rfl⟩
end
section
variable {prog:rF}{w:cQ}{A:cy}{E:bZ}{s:bM}{K:Frag}{x C:b7}{O:cn}{U:Option cn}{Y:a6}{expr:Bool}{Q:bZ}
theorem Oe{Q:Unit->bM->Prop}(X:K.In s.heap)(I:InstAt s.heap x O C U)(y:mroIn K C (.type "BaseException")=some true)(u:Q () s):b8 M A (checkBuiltinCall "BaseException.__getattribute__" ⟨[.ref x,p],[]⟩) Q E s:=by
 have q:builtinKind "BaseException.__getattribute__" =some .slot:=by decide +kernel
 have k:splitId "BaseException.__getattribute__" =some ("BaseException","__getattribute__"):=by decide +kernel
 have L:Looks M s.heap (isInstance (.ref x) (.type "BaseException")) true:=(I.type).andThen (looks_mroIn X y);clear X I;obtain ⟨z,g,d,t,os⟩:=s;simp only [checkBuiltinCall,q,k];refine a9 (L.at ?_);repeat (any_goals (first | assumption | wp_step))
theorem Of{Q:Fin->bM->Prop}(X:K.In s.heap)(I:InstAt s.heap x O C U)(k:findObj K C U Y=some (.value v))(p:Q (.done (.ret v)) s):b8 (b9 prog w) A (Builtin.«object.__getattribute__» ⟨[.ref x,.str Y tk],[]⟩) Q E s:=by have L0:=I.type (M:=b9 prog w);have L1:=looks_find (M:=b9 prog w) X I k;clear X I;obtain ⟨q,g,d,t,os⟩:=s;unfold Builtin.«object.__getattribute__»;exact a9 (bX (a9 (bX (a9 (L0.at (a9 (L1.at (bX p))))))))
theorem QI(X:K.In s.heap)(I:InstAt s.heap x O C U)(k:jo K (.ref C) "__getattribute__" =some (some (.builtin "BaseException.__getattribute__")))(p:jo K (.ref C) "__getattr__" =some none) (l:mroIn K C (.type "BaseException")=some true) (u:findObj K C U Y=some (.value v)) (r:handedIn v=true) (h:Q v {s with toks:=s.toks+1}):b8 (b9 prog w) A (uD (.ref x) Y expr) Q E s:=by
 have y:(rQ "BaseException.__getattribute__" ==rQ "object.__getattribute__")=false:=by decide +kernel
 have q:(expr&&onTheHeap (rQ "BaseException.__getattribute__"))=false:=by induction expr using dj<;>rfl
 obtain ⟨m,g,d,t,os⟩:=s;have L0:=I.type (M:=b9 prog w);have L1:=xM (M:=b9 prog w) X k;have z:=xM (M:=b9 prog w) X p;unfold uD getAttrBy;refine a9 (wpAny_mkText (gQ (a9 (L0.at (a9 (L1.at ?_))))));show b8 _ _ (if (onTheHeap (fP C)&&rQ "BaseException.__getattribute__" ==rQ "object.__getattribute__")=true then _ else _) _ _ _;rw [y,Bool.and_false,if_neg ∅];unfold getAttrByItsOwn;refine a9 ?_;unfold hookBefore;rw [if_pos (by rfl)];refine z.at (a9 ?_);unfold callGetattribute;rw [q];rw [if_neg ∅];unfold boundAndCalled;refine o4 (gQ ?_);rw [show bindSpecial (.builtin "BaseException.__getattribute__") (.ref x)=pure (.builtin "BaseException.__getattribute__",[.ref x]) from Jz.ga.bind _];refine a9 (bX (rE (IE Jz.ga.plain F.entry_bexc_ga (Oe X I l (Of X I u ?_)))));show b8 _ _ (handedOut v) _ _ _;rw [handedOut_of r];exact bX h
end
section
variable {c:Cfg}{G:cB}{A:cy}{X:Cx}{I:cz}{sc B:cD}{C:List (Nat×a6)}{g:Gh}{s s':bM}{h h':bP}{n:Nat}{z i:b7}{p1 p2 p3 p4 pos u np cp:c8}{O:Ow}{fs:List cz}{M:fg}
theorem J.aJ(H:Gd c)(j:J c (X0 fs) (g0 O) h){L:b7}{m:a6->Option a4}(d:O L= .lo)(f:jm L h h')(hn:h'.Ns L m):J c (X0 fs) (g0 O) h'/\Step c true O h O h':=by
 refine kA hn λl es Y t Q U=>?_;have v:∀b o,b≠L->h.get? b=some o->h'.get? b=some o:=λb o k e=>(f.2 b k).trans e;refine ⟨j.re H 0 (λb=>b=L) rfl (λU U=>rfl) (λb o e U k=>⟨v b o k e,rfl⟩) (λb k=>by clear f hn v;subst k;exact ⟨.inl d,rfl,l,t,λvs q=>by rw [Q] at q;injection q⟩) (λy q N U e=>by simp [X0] at e) (λr p U e=>by simp [X0] at e) (λb k=>?_) λp e=>by simp [X0] at e,λb o e=>?_⟩
 .refine xE (j.lv b k) λo e=>?_;by_cases w:b=L
  .rw [w];exact ⟨l,t⟩
  exact ⟨o,v b o w e⟩
 by_cases w:b=L
 .clear f hn v;subst w;exact (cF l t (.inl rfl) (.inl (by rw [d];rfl)))
 exact (cF o (v b o w e) (.inl rfl) (.inr (.refl ..)))
theorem J.un(j0:J c (X0 X.fs) (g0 O) h){L:b7}{m:a6->Option a4}(q:∀(y:Nat) (p:Place),X.pl[y]? =some p->p= .off\/∃nm,p= .loc L nm)(l:O L= .lo)(hn:h.Ns L m)(inj:∀(x y:Nat) (p:Place),X.pl[x]? =some p->X.pl[y]? =some p->p≠ .off->x=y)(v:X.pin=none){f:Fr}(k:f.length=X.pl.length):J c X ⟨f.map λU=>.u,O⟩ h:=by
 have t:∀y,rd (f.map λU=>V.u) y= .u:=λy=>by unfold rd;rw [fC,iV];induction f[y]? using pO<;>rfl
 refine ⟨by simpa using k,λy p e=>?_,j0.gr,j0.lv,j0.ff,inj,(λr e=>by rw [v] at e;injection e),j0.gi⟩;rw [t];rcases q y p e with rfl | ⟨nm,rfl⟩
 .exact ⟨λU=>rfl,(λL nm e=>by injection e),(λa e=>by injection e),λe=>absurd rfl e⟩
 exact ⟨λU=>rfl,λj w e=>by cases e;exact ⟨l,rfl⟩,(λa e=>by injection e),λU=>(a7 _ (a7 m hn rfl) (.inl rfl))⟩
theorem OT{m:Tx}{f:Fr}{k:Out (Ctl×Fr)}(p:k=if cI m then .ok (.ret (.d (.str m)),f) else .x)(ns:k≠ .x):cI m=true/\k= .ok (.ret (.d (.str m)),f):=by
 induction q:cI m with
 | true=>exact ⟨rfl,p.trans (if_pos q)⟩
 | false=>exact absurd (p.trans (if_neg (by rw [q];exact gG))) ns
theorem EO.locs(y:EO c X I sc C)(w:∀p∈C,sc.names.lookup p.2=some .local){p:Nat×a6}(v:p∈C):X.pl[p.1]? =some (.loc I.locals p.2):=by
 refine a5 (y.res p v) λq t r=>?_;induction q with
 | off=>exact r.elim
 | loc L n=>refine dm r λa b U=>?_;subst a b;exact t
 | cel a=>refine xA r λk U=>?_;unfold jp at k;rw [y.scope,w p v] at k;rcases k with k | k<;>cases k
theorem EO.cells(r:EO c X I sc C)(k:nS X C)(v:∀p∈C,sc.names.lookup p.2=some .local)(y:Nat)(p:Place)(q:X.pl[y]? =some p):p= .off\/∃nm,p= .loc I.locals nm:=by
 by_cases w:p= .off
 .exact .inl w
 exact xE (k y p q w) λnm t=>.inr ⟨nm,bv (q.symm.trans (r.locs v t))⟩
theorem Step.lo{m:a6->Option a4}(st:Step c false O h O' h')(j:O L= .lo)(r:h.Ns L m):O' L= .lo/\h'.Ns L m:=by
 refine kA r λo es v eL y f=>ck (st _ _ eL) λp k q l=>?_;rw [j] at q l;have t:=l.resolve_left λw=>by injection w
 exact ⟨q.resolve_right λw=>(by rcases w with w | ⟨w,U⟩<;>injection w),p,es,v,k,(t.same (.inl ⟨(λh=>by injection h),λh=>by injection h⟩) (.inl λh=>by injection h)).trans y,f⟩
theorem M9(H:Gd c)(Y:Xc c z i B p1 p2 p3 p4)(y:EO c X I sc C){fs:List cz}{O:Ow}{m:a6->Option a4}{en:a6}{m1:Tx}{v:a4}{s s3:bM}{xp ep fp rp hpos:c8}{P:Flow->bM->Prop}{Q:bZ}(hen:sc.names.lookup en=some .local)(hok:eE en=true)(hn:f7 sc c.xnm=true) (tL:O I.locals= .lo) (hN:s.heap.Ns I.locals m) (f:Er c fs false O s m1 v s3) (tb3:HasTb s3.heap v) (fin:∀(j:Ow) (m6:a6->Option a4) (t:fA) (s6:bM),J c (X0 fs) (g0 j) s6.heap->j I.locals= .lo->s6.heap.Ns I.locals m6->Step c true O s.heap j s6.heap->SameRest s s6->P (.ret (.str (SS m1) t)) s6) : b8 (b9 pw c.w) A (handleBy v I [.ExceptHandler (some (.Name c.xnm xp)) (some en) [.Return (some (.Attribute (.Name en ep) (an 9) fp)) rp] hpos]) P Q s3:=by
 have o:=f;obtain ⟨O3,st3,sr3,j3,a,oe,d,od,vs,n3,t3,t3',rfl,ga,ec,ed,ev,sz,gd,dc,dd,U⟩:=o;have kl:I.kindOf en=some .local:=by unfold jp;rw [y.scope];exact hen
 have x:(I.scope.kind== .class||(I.scope.kind== .module&&I.locals !=I.globals))=false:=by rw [y.kind];rfl
 refine wpAny_handleBy_cons (codeAny_handlers_test (oC H j3.gi y hn Y.nmx ?_)) (by intro q;injection q);obtain ⟨U,q,N,A1,bs,mN,sn,sub,ab,col,dd',k0,k1,k2,k3,k5,hC,U,U,T⟩:=(Aw (j3.gi.kin H) Y.chk).1;obtain ⟨hp3,gens,dr,tk,os⟩:=s3;refine wpAny_excMatches_sub_self hC ga ec (T.hasType rfl) (codeAny_handlers_suite_as ?_);clear T hC k0 k1 k2 k3 k5 dd dc gd sz ev ed ec ga j3 sr3 st3 hn;refine c6 (rZ (E:=λU U=>False) H f tb3) (λU s4 r4=>?_) λU U h=>h.elim;obtain ⟨j,st4,sr4,j4,a',oe',d',od',vs',n4,t4,t4',e4,ga,ec,ed,ev,sz,gd,dc,dd,U,U,oa,oo,U⟩:=r4.1;obtain rfl:=ez e4;refine xA (st4.lo tL hN) λk hN4=>?_;have ne:∀{b:b7},j b= .no->b≠I.locals:=λe w=>by rw [w,k] at e;injection e
 refine IA kl hN4 (λh5 r l=>xA (j4.aJ H k l r) λj5 st5=>?_) x;have ga5:=(l.2 a (ne oa)).trans ga;have gd5:=(l.2 d' (ne oo)).trans gd;have eo5:EO c ⟨[],[.loc I.locals en],none⟩ I sc [(0,en)]:=⟨y.kind,y.scope,y.glob,y.blt,λp hp=>by rw [fh.mp hp];exact (a7 _ rfl ⟨rfl,rfl,kl⟩)⟩;have ht:=wb 9 ∅;refine xd (wpAny_Return_some (rS (h9 eo5 (.head _) hok rfl (a7 _ r (by simp)) (QI (j5.gi.kin H) ⟨ga5,ec,by unfold pP;rw [ev],by rw [ed];exact gd5⟩ Y.get.1 Y.get.2.1 Y.get.2.2 (findObj_own Y.dict Y.own9 rfl (show lookIn (an 9) od'=some (some (.str (SS m1) t4')) from ?_)) rfl ?_))))
 .unfold lookIn;rw [dd];exact sK (a:=9) (as:=[9]) ∅ (eM t4 _ [] (by rw [ht]) rfl)
 exact wpAny_nameGoes kl r x λh6 m6 hn6 sb6=>xA (j5.aJ H k sb6 hn6) λj6 st6=>fin j m6 t4' _ j6 k hn6 ((st4.up.trans st5).trans st6) (sr4.trans ⟨rfl,rfl⟩)
theorem Q0(H:Gd c)(Y:Xc c z i B p1 p2 p3 p4)(ca:CA A X)(fo:qL X I)(eo:EO c X I sc C)(o:nS X C)(al:∀p∈C,sc.names.lookup p.2=some .local)(b:X.pin=none){x:Nat}{nm en:a6}{l:Internal.E}{e:a8}{y xp ep fp rp a:c8}(hv:(x,nm)∈C)(Q:sc.names.lookup en=some .local)(N:eE en=true)(hn:f7 sc c.xnm=true)(hc:jJ e=true)(t:T c G A X I l e) : TS c G A X I (.tryA x l) (.Try [.Assign [.Name nm np] e y] [.ExceptHandler (some (.Name c.xnm xp)) (some en) [.Return (some (.Attribute (.Name en ep) (an 9) fp)) rp] a] [] [] pos):=by
 intro g s j ns;have hf:(sc.names.lookup nm==some .free)=false:=by rw [al _ hv];rfl
 have k:ex G (.tryA x l) g.f=match ev G l g.f with
  | .ok r=>(eh r).bind λr=>(put r.2 x r.1).bind λf=>.ok (.next,f)
  | .err m=>if cI m then .ok (.ret (.d (.str m)),g.f.map λU=>.u) else .x
  | .x=>.x:=rfl
 generalize ex G (.tryA x l) g.f=out at k ns ⊢;have hx:=eo.locs al hv;have sl:=j.slot x _ hx;refine wpAny_Try_except (xd (wpAny_Assign_Name (c6 (t g s j λq=>?_) (λr s1 p=>?_) λe1 s1 p=>?_) (nA hc)))
 .rw [q] at k;exact ns k
 .clear sl hx o Y Q hn N al;obtain ⟨v,g1,e1,j1,vx,st1⟩:=p;rw [e1] at k;have hh:qI v=true:=se (f:=g1.f) λq=>ns (by rw [k];show (eh (v,g1.f)).bind _=_;rw [q];rfl);have k:out=(put g1.f x v).bind λf=>.ok (.next,f):=k.trans (by show (eh (v,g1.f)).bind _=_;rw [sd _ hh];rfl);exact c6 (yj (E:=λU U=>False) H eo j1 st1.up hv hf (yI hh) (.inl b) (vx.vr (EJ hh)) k ns) (λU s2 w=>ry (ry w)) λU U q=>q.elim
 refine a5 p λm1 e1 er=>?_;rw [e1] at k;refine xA (OT k ns) λhm1 k=>a5 (sl.val λw=>by injection w) λU ρ U=>?_;obtain ⟨m,hN,U⟩:=ρ;exact cU fo λenv₀ outer h1 h2=>c6 (v9 (E:=λU U=>False) H ca.fr h1 h2 er) (λU s2 r2=>c6 (rZ (E:=λU U=>False) H r2.1 r2.2) (λU s3 r3=>M9 H Y eo Q N hn (sl.loc _ _ rfl).1 hN r3.1 r3.2 λO4 m6 t s6 j6 tL4 hn6 st sr=>⟨_,⟨g.f.map λU=>.u,O4⟩,k,J.un j6 (eo.cells o al) tL4 hn6 j.inj b j.lf,.ret (v:=.d (.str m1)) (iT hm1 t rfl),⟨st,sr⟩⟩) λU U h=>h.elim) λU U h=>h.elim
end
theorem NO(q:List (a6×b7)):∀(y:List (a6×iD)) (acc:List (a6×b7)),gf q y acc=((y.filter (·.2== .free)).reverse.map λp=>(p.1,(q.lookup p.1).getD 0))++acc:=by
 intro y;induction y with
 | nil=>exact λU=>rfl
 | cons p r v=>
  intro acc;obtain ⟨n,k⟩:=p;show (if (k== .free)=true then gf q r ((n,(q.lookup n).getD 0)::acc) else gf q r acc)=_;induction z:k==pT with
  | true=>rw [if_pos rfl,v,List.filter_cons_of_pos (by simpa using z)];simp
  | false=>rw [if_neg (by simp),v,List.filter_cons_of_neg (by simpa using z)]
def qH(sc:cD):List a6:=(sc.names.filter (·.2== .free)).reverse.map (·.1)
theorem Mt(k:List (a6×b7))(sc:cD):gf k sc.names []=(qH sc).zip ((qH sc).map λn=>(k.lookup n).getD 0):=by
 rw [NO,n9];unfold qH;rw [uJ];induction (sc.names.filter (·.2== .free)).reverse with
 | nil=>rfl
 | cons a l p=>rw [eZ,eZ,eZ,iE,p];rfl
structure Lf(c:Cfg):Prop where
 inj:∀l l' T T',c.lam l=some T->c.lam l'=some T'->l≠l'->c.ltb l≠c.ltb l'
 bm:∃bm o,c.mg "__builtins__" =some (.ref bm)/\bm≠iB/\bm≠gR/\c.B.get? bm=some o/\o.cls= .type "module" /\o.dict=some iB/\o.data= .plain
section
variable {c:Cfg}{G:cB}{A:cy}{X:Cx}{I:cz}{sc scope:cD}{C:List (Nat×a6)}{g u Y:Gh}{h h':bP}{s s' N:bM}{M:fg}{n:Nat}{bor:Bool}{B:a4×a6}{Q:List Nat}{pos:c8}{O O':Ow}
theorem J.cap(H:Gd c)(j:J c X g h){x:Nat}{a:b7}{d:D}(hp:X.pl[x]? =some (.cel a))(m:rd g.f x= .d d\/rd g.f x= .k d):J c X ⟨g.f.set x (.k d),cO g.O a .z⟩ h/\Step c false g.O h (cO g.O a .z) h/\∃v,h.IsCell a (some v)/\DR c (cO g.O a .z) h d v:=by
 have hxl:=j.aq hp;have sl:=j.slot x _ hp;have ta:g.O a= .cl\/g.O a= .z:=by
  have:=sl.cel a rfl;split at this
  .exact .inr this
  exact .inl this
 have hu:rd g.f x≠ .u:=λq=>by rw [q] at m;rcases m with m | m<;>injection m
 refine a5 (sl.val λw=>by injection w) λov hh w=>a5 (w.resolve_left hu) λv ρ vr=>?_;subst ρ;have dr:DR c g.O h d v:=by rcases m with m | m<;>(rw [m] at vr;exact vr)
 have ne:∀{b:b7} {t:Tag},g.O b=t->t≠ .cl->t≠ .z->b≠a:=λe h1 h2 w=>by
  rcases ta with q | q<;>rw [<-w,e] at q
  .exact h1 q
  exact h2 q
 have r:∀{b:b7} {t:Tag},g.O b=t->t≠ .cl->cO g.O a .z b=t:=λ{b t} e h1=>by
  by_cases w:b=a
  .rw [w,fR];rw [w] at e;rcases ta with q | q
   .exact absurd (e.symm.trans q) h1
   exact q.symm.trans e
  exact (dB w).trans e
 have zk:ZK c g.O h (cO g.O a .z) h:=.tag λb z=>r z λh=>by injection h
 have l:=dr.ext zk;refine ⟨⟨by simpa using j.lf,λy p e=>?_,λb i=>r (j.gr b i) (λh=>by injection h),λb i=>?_,λe he=>?_,j.inj,j.pin,j.gi.kp H j.gr λb o e hz=>⟨e,?_⟩⟩,λb o e=>(cF o e ?_ (.inr (.refl ..))),v,hh,l⟩
 .show SlotR c (cO g.O a .z) h y p (rd (g.f.set x (.k d)) y);by_cases q:y=x
  .clear m sl hu vr w;subst q;obtain rfl:=bv (hp.symm.trans e);rw [sQ _ hxl];exact ⟨(λw=>by injection w),(λL nm w=>by injection w),(λa' w=>by obtain rfl:=Place.cel.inj w;exact fR),λU=>(a7 _ hh (.inr (a7 v rfl l)))⟩
  rw [oW _ q];refine (j.slot y p e).ext zk (λb k o z e=>⟨e,r z λh=>by injection h⟩) (λb i=>dB λw=>?_) λU hh=>hh;clear sl hh ne r zk l;subst w;induction p with
  | off=>exact i
  | loc L nm=>cases i;have:=((j.slot y _ e).loc _ _ rfl).1;rcases ta with q | q<;>rw [q] at this<;>injection this
  | cel a'=>cases i;exact q (j.inj y x _ e hp λw=>by injection w)
 .by_cases w:b=a
  .clear hp sl ta ne r zk l i;subst w;exact a5 hh λo e U=>⟨o,e⟩
  exact j.lv b λz=>i ((dB w).trans z)
 .exact tG (j.ff e he) λk L e1 t w=>(tw k L e1 (t.imp (λt=>r t λh=>by injection h) (λt=>r t λh=>by injection h)) w)
 .rcases hz with hz | hz<;>exact (r hz λh=>by injection h).trans hz.symm
 by_cases w:b=a
 .clear hp sl hh ne r zk l;subst w;rw [fR];rcases ta with q | q
  .rw [q];exact .inr (.inr ⟨rfl,rfl⟩)
  rw [q];exact .inl rfl
 rw [dB w];exact .inl rfl
inductive Cap(c:Cfg)(X:Cx)(g:Gh)(h:bP)(as:List b7)(ds:List D)(f':Fr):Prop
 | mk (O':Ow) (vs:List a4) (j:J c X ⟨f',O'⟩ h) (st:Step c false g.O h O' h) (cr:CRs O' h as vs) (dr:DRs c O' h ds vs)
theorem NJ{p:Type}{k:D->Option p}{r:p}(e:H7 v k=some r):∃d,(v= .d d\/v= .k d)/\k d=some r:=by
 induction v using bS with
 | d d=>exact (a7 d (.inl rfl) e)
 | k d=>exact (a7 d (.inr rfl) e)
 | _=>exact eH e
theorem LJ(H:Gd c)(p:Nat->b7){xs:List Nat}{g:Gh}{ds:List D}{f':Fr}(j:J c X g h)(t:∀x∈xs,X.pl[x]? =some (.cel (p x)))(e:vJ g.f xs=some (ds,f')):Cap c X g h (xs.map p) ds f':=by
 induction xs generalizing g ds f' with
 | nil=>cases e;exact ⟨g.O,[],j,Step.refl c false g.O h,rfl,rfl⟩
 | cons x xs ih=>refine a5 (NJ e) λd hx e=>a5 (iW.mp e) λw b a=>?_;obtain ⟨i,f1⟩:=w;cases a;refine dm (j.cap H (t x (.head _)) hx) λj1 z w=>a5 w λv hv m=>?_;obtain ⟨O',vs,j2,k,l,q⟩:=ih j1 (λy hy=>t y (.tail _ hy)) b;exact a5 hv λo r ed=>ck (k.zk (p x) o fR r) λU U z' U=>⟨O',v::vs,j2,z.trans k,(lp v vs rfl z' (a7 o r ed) l),.cons (m.ext k.zk) q⟩
end
section
variable {c:Cfg}{G:cB}{A:cy}{X:Cx}{Y:cz}{sc scope:cD}{Q:List (Nat×a6)}{g v I:Gh}{h h':bP}{s s' B:bM}{M:fg}{n l:Nat}{bor:Bool}{q0:a6}{N:List Nat}{pos:c8}{O O':Ow}{L:LamT}
theorem J.tabs(H:Gd c)(F:Lf c)(j:J c X g h){ps u:Array a4}{k:b7}(hl:c.lam l=some L)(m:rL (c.ltb l) h h')(hP:h.get? (c.ltb l)=some (tabObj ps))(C:h'.get? (c.ltb l)=some (tabObj (ps++u)))(hO:∀b o,h.get? b=some o->O' b=g.O b) (lv:∀b,O' b≠ .no->g.O b≠ .no\/∃o,h'.get? b=some o) (am:codeAmong L.pos (ps++u).toList=some (.ref k)) (kz:O' k= .z) (kc:h'.CodeRec (.ref k) L.qual) (tr:TriplesOk (ps++u).toList):J c X ⟨g.f,O'⟩ h'/\Step c false g.O h O' h':=by
 have tP:=j.gr _ (H.lam l L hl).2;have ne:∀{b:b7} {t:Tag},g.O b=t->t≠ .gr->b≠c.ltb l:=λe ht w=>ht (by rw [<-e,w,tP]);have lk:Like c .gr (c.ltb l) (tabObj ps) (tabObj (ps++u)):=⟨rfl,rfl,λU U=>rfl,.inr (.inr ⟨rfl,(dU l L hl rfl),.mk ps u⟩)⟩;have st:Step c false g.O h O' h':=λb o e=>by
  by_cases w:b=c.ltb l
  .subst w;obtain rfl:=bv (hP.symm.trans e);exact (cF _ C (.inl (hO _ _ hP)) (.inr (by rw [tP];exact lk)))
  exact (cF o (m b o w e) (.inl (hO b o e)) (.inr (.refl ..)))
 refine ⟨⟨j.lf,λy p e=>(j.slot y p e).ext st.zk (λb i o z e=>⟨m b o (ne z λh=>by injection h) e,(hO b o e).trans z⟩) (λb hb=>?_) λov hh=>st.has j e hh,λb hb=>?_,λb hb=>?_,λe he=>?_,j.inj,λr e=>?_,⟨λb o e=>?_,λl' T' hl'=>?_⟩⟩,st⟩
 .have t:=(j.slot y p e).place hb;exact xE (j.lv b (by rcases t with t | t | t<;>rw [t]<;>exact λh=>by injection h)) λo eo=>hO b o eo
 .have q:=j.gr b hb;exact xE (j.lv b (by rw [q];exact λh=>by injection h)) λo e=>(hO b o e).trans q
 .rcases lv b hb with q | q
  .exact xE (j.lv b q) λo e=>a5 (st b o e) λo' e' U=>⟨o',e'⟩
  exact q
 .exact kq (j.ff e he) λk L' e1 t o e2 w=>(qh k L' e1 (by show O' L'=_\/O' L'=_;rw [hO L' o e2];exact t) o (m L' o (by rcases t with t | t<;>exact ne t λh=>by injection h) e2) w)
 .exact a5 (j.pin r e) λp q hh=>(a7 p q (st.has j q hh))
 .refine a5 (j.gi.base b o e) λo' e' r=>?_;by_cases w:b=c.ltb l
  .clear e;subst w;obtain rfl:=bv (hP.symm.trans e');exact (a7 _ C (r.trans lk))
  exact (a7 o' (m b o' w e') r)
 refine ck (j.gi.tab l' T' hl') λps' ρ q w=>?_;obtain ⟨⟨o1,vs,t1,r1⟩,t2⟩:=ρ;have x:c.lcd l'≠c.ltb l:=λw=>by rw [w,hP] at t1;obtain rfl:=bv t1;injection r1.1
 refine gv q λo ws file tf ρ=>gv ρ λd tg inF text σ=>hB σ λtt op a r1' r2 r3 υ=>qE υ λr4 r5 r6 b bd χ=>xA χ λtr' nn=>?_;by_cases w':l'=l
 .clear tP ne lk;subst w';obtain rfl:=bv (hl.symm.trans hl');cases hP.symm.trans t2;exact (cF (ps++u) ⟨(dU o1 vs (m _ _ x t1) r1),C⟩ ⟨o,ws,file,tf,d,tg,inF,text,tt,_,m _ _ x a,r1',r2,r3,r4,r5,r6,C,rfl,tr,nn⟩ (.inr (cF k am kz kc)))
 have nt:=F.inj l' l T' L hl' hl w';refine (cF ps' ⟨(dU o1 vs (m _ _ x t1) r1),m _ _ nt t2⟩ ⟨o,ws,file,tf,d,tg,inF,text,tt,op,m _ _ x a,r1',r2,r3,r4,r5,r6,m _ _ nt b,bd,tr',nn⟩ (w.imp id ?_));rintro ⟨kk,h1,z,hc⟩;have hc':=hc;refine sG hc' λa o vs t q1 e1 d1 U=>?_;obtain rfl:=ez q1;exact (cF kk h1 ((hO kk o e1).trans z) (sg hc λb o' q g=>by obtain rfl:=ez q;exact m _ _ (ne z λh=>by injection h) g))
theorem Wh(H:Gd c)(F:Lf c)(f:GI c O h){P:b7}(e:h.get? P=some (tabObj b)):h.BuiltinsAt c.mg P:=by refine hB F.bm λy o u r t m x=>dm x λj i z=>a5 (f.base y o m) λC p k=>?_;have d:=(k.same (.inl ⟨(λh=>by injection h),λh=>by injection h⟩) (.inr λvs q=>by rw [z] at q;injection q)).trans z;exact ⟨y,C,u,r,t,(λw=>by rw [w,e] at p;clear k;obtain rfl:=bv p;injection d),p,k.cls.trans j,k.dict.trans i,d⟩
def kD(X:Cx)(x:Nat):b7:=match X.pl[x]? with | some (.cel a)=>a | _=>0
theorem Ev(e:X.pl[x]? =some (.cel a)):kD X x=a:=by unfold kD;rw [e]
theorem ZK.trans(x:ZK c O h O' h')(y:ZK c O' h' k h''):ZK c O h k h'':=λb o z e=>by exact ck (x b o z e) λt w m l=>ck (y b t m w) λq p u r=>(cF q p u (l.trans r))
theorem VZ(H:Gd c)(F:Lf c){xs:List Nat}(cx:Ctx c n bor (.ref (c.lcd l),q0) sc Q N A X Y)(hl:c.lam l=some L)(hq:L.qual=q0++ "<lambda>")(hcaps:L.caps=qH L.scope)(hd:∀Y,defaultsOf L.params Y=([],[])) (u:xs.length=L.caps.length) (hnd:xs.Nodup) (hxs:∀(i x:Nat) (nm:a6),xs[i]? =some x->L.caps[i]? =some nm->(x,nm)∈Q/\sc.names.lookup nm=some .cell):T c G A X Y (.lam l xs) (.Lambda L.params L.body L.scope L.pos):=by
 intro g s j ns;have eo:=cx.eo;refine a5 (fF ns rfl) λρ hcap e1=>?_;obtain ⟨ds,f'⟩:=ρ;have ecd:=pU cx.cq;have cel:∀(x:Nat) (nm:a6),(x,nm)∈Q->sc.names.lookup nm=some .cell->∃a,X.pl[x]? =some (.cel a)/\Y.cells.lookup nm=some a:=λx nm hv hk=>by
  refine a5 (eo.res _ hv) λq e1 r=>?_;induction q with
  | off=>exact r.elim
  | loc L nm=>
   refine dm r λU U k=>?_;unfold jp at k;rw [eo.scope] at k;dsimp only at k;rw [hk] at k;cases k
  | cel a=>exact (a7 a e1 r.2)
 have hca:∀x∈xs,X.pl[x]? =some (.cel (kD X x)):=λx hx=>by
  refine xE (IL.mp hx) λi hi=>?_;have m:i< L.caps.length:=by rw [<-u];exact (gS.mp hi).1
  refine xA (hxs i x _ hi (fD m)) λhv hk=>a5 (cel x _ hv hk) λa e1 U=>?_;rw [e1,Ev e1]
 have hcn:(xs.map (kD X)).Nodup:=by unfold List.Nodup;rw [xr];refine hnd.imp_of_mem λ{x y} hx hy hne e=>?_;have p:=hca x hx;rw [e] at p;exact hne (j.inj x y _ p (hca y hy) λw=>by injection w)
 have hcells:xs.map (kD X)=L.caps.map λn=>(Y.cells.lookup n).getD 0:=by
  apply xt;intro i;rw [iV,iV];by_cases hi:i< xs.length
  .have m:i< L.caps.length:=by rw [<-u];exact hi
   rw [fD hi,fD m];refine xA (hxs i _ _ (fD hi) (fD m)) λhv hk=>a5 (cel _ _ hv hk) λa e1 e2=>?_;show some (kD X xs[i])=some ((Y.cells.lookup L.caps[i]).getD 0);rw [Ev e1,e2];rfl
  rw [i6 (Zo u hi),i6 (Zp u hi)];rfl
 have hclo:xh L.scope Y=pure (L.caps.zip (xs.map (kD X))):=by
  rw [hcells,hcaps,<-Mt];refine CP λy hy hf=>?_;have hm:y.1∈L.caps:=by rw [hcaps];exact cM.mpr (a7 y (IY.mpr (mY.mpr ⟨hy,by rw [hf];rfl⟩)) rfl)
  refine xE (IL.mp hm) λi hi=>?_;have m:i< xs.length:=by rw [u];exact (gS.mp hi).1
  refine xA (hxs i _ _ (fD m) hi) λhv hk=>a5 (cel _ _ hv hk) λa U e2=>?_;rw [e2];rfl
 obtain ⟨O1,vs,j1,st1,cr,dr⟩:=LJ H (kD X) j hca hcap;refine ck (j1.gi.tab l L hl) λps tA iC hit=>?_;have C:=CodeHd.of iC tA;have tr:TriplesOk ps.toList:=by refine gv iC λU U U U ρ=>gv ρ λU U U U σ=>hB σ λU op U U U U υ=>qE υ λU U U b bd χ=>xA χ λtr U=>?_;clear υ;obtain rfl:=bv (tA.2.symm.trans b);cases bd;exact tr
 have hb:=Wh H F j1.gi tA.2;have hg:=j1.gi.ns H.gns;refine kla_eval (hd Y) ?_;rw [ecd.2,<-hq];have fin:∀{p:bP} {O2:Ow} {k:b7} {ctv:a4} {tk:fA},J c X ⟨f',O2⟩ p->Step c false g.O s.heap O2 p->ZK c O1 s.heap O2 p->O2 k= .z->p.CodeRec (.ref k) L.qual -> Pv c X g s (ev G (.lam l xs) g.f) (.ref p.objs.size) {s with heap:=p.push {cls:=.type "function",data:=.func (kla_fn "<lambda>" L.qual L.params L.body L.scope (L.caps.zip (xs.map (kD X))) ((c.mg "__name__").getD .none) (.ref k) ctv)},toks:=tk}:=λ{p O2 k ctv tk} j2 st2 zk kz kc=>by
  have n1:p.get? p.objs.size=none:=ig _;have kp:=gm p {cls:=.type "function",data:=.func (kla_fn "<lambda>" L.qual L.params L.body L.scope (L.caps.zip (xs.map (kD X))) ((c.mg "__name__").getD .none) (.ref k) ctv)};have old:∀b o,p.get? b=some o->cO O2 p.objs.size .z b=O2 b:=qp (s:={s with heap:=p}) n1;have zk2:=zk.trans (oR (t:=.z) n1 kp);have kz':cO O2 p.objs.size .z k= .z:=by refine eK kc λU o U U q ρ=>xA ρ λe U=>?_;clear ρ;obtain rfl:=ez q;exact (old k o e).trans kz
  refine ⟨.d (.clo l ds),⟨f',cO O2 p.objs.size .z⟩,e1,j2.aF H (λb o e U=>⟨kp b o e,old b o e⟩) (λb hb=>?_),(a7 vs ⟨p.objs.size,_,L,_,xs.map (kD X),k,rfl,fR,hl,dY _ rfl,rfl,rfl,rfl,rfl,rfl,rfl,rfl,rfl,rfl,rfl,rfl,kz',sg kc λb o U e=>kp b o e,cr.ext zk2,by rw [cR];exact u.symm,hcn⟩ (dr.ext zk2)),⟨st2.trans (kp.step c false _ _ old),rfl,rfl⟩⟩;by_cases w:b=p.objs.size
  .rw [w];exact ⟨_,dY _ rfl⟩
  exact xE (j2.lv b λz=>hb ((dB w).trans z)) λo e=>⟨o,kp b o e⟩
 rcases hit with hn | ⟨k,hk,kz,kc⟩
 .refine kla_makeFunction hclo eo.glob hg ecd.1 C tA.2 tr hn (λw=>?_) hb λc' ctv p tk eb hsz hlt hcr hP'=>?_
  .refine kA hg λo es ep e d U=>?_;rw [w,tA.2] at e;obtain rfl:=bv e;injection d
  have nc:=xJ hsz;have lv:∀b,cO O1 c' .z b≠ .no->O1 b≠ .no\/∃o,p.get? b=some o:=λb hb=>by
   by_cases w:b=c'
   .refine eK hcr λU o U U q ρ=>xA ρ λe U=>?_;clear ρ;obtain rfl:=ez q;rw [w];exact .inr ⟨o,e⟩
   left;exact λz=>hb ((dB w).trans z)
  exact xA (j1.tabs H F hl eb tA.2 hP' (λb o e=>dB λw=>by rw [w,nc] at e;injection e) lv (by rw [Cz];exact codeAmong_snoc _ tr hn) fR hcr (by rw [Cz];exact TriplesOk_snoc _ _ _ _ tr)) λj2 st2=>fin j2 (st1.trans st2) st2.zk fR hcr
 exact kla_makeFunctionHit hclo eo.glob hg ecd.1 C tA.2 tr hk hb λctv p tk kp U=>fin (j1.kp H kp) (st1.trans (Kp.step kp c false _ _ λU U U=>rfl)) (Kp.zk kp λU z=>z) kz (sg kc λb o U e=>kp b o e)
end
structure LamG(c:Cfg)(l:Nat)(L:LamT)(fn:Fn)(Y:List a6):Prop where
 hl:c.lam l=some L
 P:PlainP L.params Y
 bor:fn.bor=false/\fn.dflt=[]
 npar:Y.length+L.caps.length=fn.npar
 nsl:fn.npar<=fn.nslots
 kind:L.scope.kind= .function/\L.scope.isCoroutine=false/\L.scope.isGenerator=false
 cell:∀y∈L.scope.names,y.2≠ .cell
 par:∀nm∈Y,L.scope.names.lookup nm=some .local
 cap:∀nm∈L.caps,L.scope.names.lookup nm=some .free
 nd:(Y++L.caps).Nodup
theorem LU{Y:List a6}:∀{ws:List a4},Y.Nodup->(Y.zip ws).reverse.lookup nm=(Y.zip ws).lookup nm:=by
 induction Y with
 | nil=>intro ws _;rfl
 | cons n Y k=>
  intro ws nd;induction ws using bO with
  | nil=>rfl
  | cons w ws=>
   refine xA (jZ.mp nd) λhn nd=>?_;have k:=k (ws:=ws) nd;rw [iE,C4,gU];induction p:nm==n with
   | true=>rw [sf (by rw [k];exact v6 (by rw [beq_iff_eq.mp p];exact hn)),gU,p]
   | false=>
    induction q:(Y.zip ws).lookup nm with
    | none=>rw [sf (by rw [k];exact q),gU,p];rfl
    | some v=>rw [Kh (by rw [k];exact q)]
section
variable {c:Cfg}{G Q:cB}{n l:Nat}{fn:Fn}{L:LamT}{Y:List a6}{h h':bP}{O O':Ow}
theorem CRs.get:∀{vs:List a4} {i:Nat} {a:b7},CRs O h as vs->as[i]? =some a->∃v,vs[i]? =some v/\O a= .z/\h.IsCell a (some v):=by
 induction as with
 | nil=>intro _ _ _ _ e;injection e
 | cons b as k=>
  intro vs i a x e;obtain ⟨v,r,rfl,z,ic,x⟩:=x;induction i using gF with
  | zero=>cases e;exact (cF v rfl z ic)
  | succ i=>exact k (i:=i) x e
theorem CRs.len:∀{vs:List a4},CRs O h as vs->as.length=vs.length:=by
 induction as with
 | nil=>intro vs e;obtain rfl:vs=[]:=e;rfl
 | cons b as k=>intro vs x;obtain ⟨v,r,rfl,z,ic,x⟩:=x;exact congrArg (·+1) (k x)
theorem DRs.bj:∀{k:Nat} {vs:List a4},DRs c O h ds vs->VRs c O h k (ds.map .k) vs:=by
 induction ds with
 | nil=>intro k vs e;exact e
 | cons d ds p=>intro k vs x;refine c0 x λv r q a s=>?_;clear x;subst q;exact (d6 v r rfl a (p s))
theorem Nj{as:List b7}{ns:List a6}(nd:as.Nodup)(k:ns.length=as.length):(ns.zip as).Pairwise λx y=>x.2≠y.2:=xr.mp (by rw [List.map_snd_zip (gW k.symm)];exact nd)
theorem WQ{k:Type}{a b:List k}{y:Nat}{x:k}(h:y< a.length)(e:(a++b)[y]? =some x):a[y]? =some x:=by rw [xk h] at e;exact e
theorem WR{k:Type}{a b:List k}{y:Nat}{x:k}(h:¬y< a.length)(e:(a++b)[y]? =some x):b[y -a.length]? =some x:=by rw [xj (i7 h)] at e;exact e
theorem Qo{sc:cD}{r:List a6}{p:List b7}{ds e:List D}{vals us:List a4}{f:Fr}{k:Nat}(nd:(Y++r).Nodup)(C:∀nm∈Y,sc.names.lookup nm=some .local)(o:∀nm∈r,sc.names.lookup nm=some .free) (hn:r.length=p.length) (M:ds.length=Y.length) (N:vals.length=Y.length) (lc:e.length=p.length) (H:CRs O h p us) (b:f=(ds.map eA++e.map V.k)++iF k .u) (t:∀a v,O a= .z->h.IsCell a (some v)->O' a= .z/\h'.IsCell a (some v)) (y:Nat) (nm:a6) (q:(Y++r)[y]? =some nm) : Ent c sc O' h' (λx=>(Y.zip vals).reverse.lookup x) (r.zip p) nm (vals++us)[y]? (rd f y):=by
 rw [b,Ap,fC];refine dm (IU.mp nd) λj I U=>?_;by_cases m:y< Y.length
 .have q:=WQ m q;have i:y< (ds.map eA).length:=by rw [cR,M];exact m
  rw [xk i,xk (by rw [N];exact m),fD i,J0];exact .loc (C nm (kR q)) rfl ((LU j).trans (xX j q))
 have q:=WR m q;have g:=(gS.mp q).1;rw [hn] at g;have i:¬y< (ds.map eA).length:=by rw [cR,M];exact m
 have hc:y -(ds.map eA).length< (e.map V.k).length:=by rw [cR,cR,M,lc];exact g
 have B:=o nm (kR q);refine ck (H.get (fD g)) λv A z ic=>xA (t _ _ z ic) λz' s=>?_;rw [xj (i7 i),xj (by rw [N];exact i7 m),fD hc,J0,N,A];exact .cel _ (by rw [B];exact λw=>by cases w) (.inr B) ((xX I q).trans (fD g)) s z'
theorem U3(H:Gd c)(NL:c.B.NoLimit)(F:LamG c l L fn Y){ce:Internal.E}(hbody:fn.body=[.ret ce])(hb:∀A X env cq,Ctx c n false cq L.scope (ju (Y++L.caps)) (mi (Y++L.caps).length fn.nslots) A X env->T c G A X env ce L.body)(hG:Q l=kB G fn):zP c Q (n+2) l:=by
 intro A fs s O v cs ds vals cb nl j dr drs nst;rw [hG] at nst ⊢;refine xE (Out.aG (oz nst)) λf hf=>?_;have M:=Ea (G:=G) hf;refine dm (Di hf) λh1 h2 ef=>xA F.bor λb1 b2=>?_;rw [b2,List.drop_nil,xz,n9] at ef;rw [b2] at h2;have i:=Cf h1 h2;rw [ey,cR,cR,<-F.npar] at i;refine a5 dr λus ρ dcs=>?_;obtain ⟨a,o,T,fd,t,kk,rfl,za,hl,ea,ec,ed,p1,p2,p3,p4,p5,p6,p7,p8,kc,kz,hcd,cr,hn,ndc⟩:=ρ;obtain rfl:=bv (F.hl.symm.trans hl);have lcs:=dcs.len.trans cr.len.symm;rw [lcs,hn] at i;have lds:=Nat.add_right_cancel i;have C:=drs.len.symm.trans lds;refine kla_callFunE (HJ cb.dep) ea ed (by rw [p3];exact F.kind.2.1) (by rw [p3];exact F.kind.2.2) p2 hcd ?_;rw [p3,p4,p5,p8];refine y7 (ds:=[]) (by rw [p1];exact F.P) (λhQ=>by rw [p6];exact bX hQ) (gW C) (by rw [C];exact fj _) (dR _) ?_;rw [List.drop_nil,n9];refine BN F.cell (λx hx=>F.par _ (C5 (show (x.1,x.2)∈Y.zip vals from hx)).1) (λh₁ I hsb=>⟨(y6 j.gi NL).fresh _ hsb,kla_codeExpr ?_⟩) F.kind.1;generalize hL:s.heap.objs.size=N at I hsb ⊢;have nL:s.heap.get? N=none:=by rw [<-hL];exact ig _
 have kp:Kp s.heap h₁:=λb o e=>(hsb.2 b λw=>by rw [w,nL] at e;injection e).trans (cS _ e);have hO:∀b o,s.heap.get? b=some o->cO O N .lo b=O b:=qp nL;have zk:ZK c O s.heap (cO O N .lo) h₁:=oR nL kp;have hE:∀y nm,(Y++L.caps)[y]? =some nm->Ent c L.scope (cO O N .lo) h₁ (λx=>(Y.zip vals).reverse.lookup x) (L.caps.zip t) nm (vals++us)[y]? (rd f y):=Qo F.nd F.par F.cap hn lds C lcs cr ef λa v z ⟨o,e,d⟩=>(tO ((hO a o e).trans z) o (kp a o e) d);have vw:VRs c O s.heap 1 (ds.map eA++cs.map V.k) (vals++us):=drs.aY.append λU=>dcs.bj;have rdf:∀y,rd f y=(ds.map eA++cs.map V.k).getD y .u:=λy=>by rw [ef];exact Ap
 have hV:∀y,rd f y= .u\/∃r,(vals++us)[y]? =some r/\VR c (cO O N .lo) h₁ (y+1) (rd f y) r:=λy=>by rw [rdf];exact (vw.slot y).imp id λ⟨r,q1,q2⟩=>(a7 r q1 (q2.ext zk λb k o z e=>⟨kp b o e,(hO b o e).trans z⟩))
 have hU:∀y,(Y++L.caps).length<=y->rd f y= .u:=λy hy=>(hV y).resolve_right λ⟨r,q,_⟩=>by rw [i6 (by rw [ey,C,<-cr.len,<-hn,<-ey];exact hy)] at q;injection q
 have hnl:(Y++L.caps).length<=fn.nslots:=by rw [ey,F.npar];exact F.nsl
 have lf:f.length=fn.nslots:=by rw [ef,ey,IM,ey,cR,cR,lds,lcs,<-hn,F.npar];exact pH F.nsl
 have jX:J c ⟨newEnv L.scope N gR (L.caps.zip t) (fd.qualname++ ".<locals>.") (some a) fd.code none iB::fs,jy L.scope (Y++L.caps) N (L.caps.zip t) fn.nslots,none⟩ ⟨f,cO O N .lo⟩ h₁:=j.frame H kp hO (λb hb=>(uX (b=N)).elim (λw=>.inr (w▸yE I)) λw=>.inl (by rw [dB w] at hb;exact hb)) (by show L.scope.kind≠_;rw [F.kind.1];exact λh=>by injection h) rfl fR I (lf.trans plL_len.symm) (Dh fR I hE hU hV) (EB F.nd (Nj ndc hn) hE) λr e=>by injection e
 have M:kB G fn (ds.map eA++cs.map V.k)=(ev G ce f).bind λr=>(eh r).bind λr=>(back fn r.2).bind λb=>.ok (r.1,b):=M.trans (by
  rw [hbody];show bt (bt (bt _ _) _) _=_;simp only [dZ]
  rfl)
 refine c6 ((hb _ _ _ _ ⟨Fy rfl F.kind.1 ⟨rfl,rfl⟩ rfl rfl hnl hE,(dU _ fs rfl rfl),vc cb,λy hy=>EC hy,λU=>rfl,rfl⟩).v (g:=⟨f,cO O N .lo⟩) (q:=true) jX (.refl ..) M nst λv g' r s' hv j' vr st' e1=>?_) (λU U w=>w) λe s' p=>?_
 .have:=yn (fn:=fn) (vals:=vals) (s₁:={s with heap:=h₁,toks:=_}) H j nl hO kp ⟨rfl,rfl⟩ (λw=>by rw [b1] at w;injection w) (by rw [b1];exact j') st' vr e1 nst;rw [b1] at this;exact this
 exact DM (s₁:={s with heap:=h₁,toks:=_}) H j nl hO kp ⟨rfl,rfl⟩ (vc (n:=n+1) cb).fr p (λm e=>e) λU q=>q
end
abbrev u8(a:a6)(t:fA):cn:={cls:=.type "str_ascii_iterator",data:=.fields #[.str a t,.int 0 0]}
abbrev x7(h:bP)(a b:a6)(t u:fA):bP:=(h.push (u8 a t)).push (u8 b u)
abbrev x8(h:bP)(a b:a6)(t u:fA):bP:=(x7 h a b t u).push {cls:=.type "tuple",data:=.seq #[.ref h.objs.size,.ref (h.push (u8 a t)).objs.size]}
abbrev x9(h:bP)(a b:a6)(t u:fA):bP:=(x8 h a b t u).push {cls:=.type "tuple",data:=.seq #[.none,.none]}
abbrev rt(h:bP)(a b:a6)(t u:fA):bP:=(x9 h a b t u).push {cls:=.type "zip",data:=.fields #[.none,.bool false,.bool false,.ref (x7 h a b t u).objs.size,.ref (x8 h a b t u).objs.size]}
set_option maxHeartbeats 4000000 in
theorem VI(t u:fA)(q:a.cps.all (·< 128)=true)(y:b.cps.all (·< 128)=true) : Meets (Builtin.«zip.__new__» ⟨[.type "zip",.str a t,.str b u],[]⟩) (λU R s=>R (.ok (.ret (.ref (x9 s.heap a b t u).objs.size))) {s with heap:=rt s.heap a b t u}):=.of_wp λprog w A R s h=>by
  obtain ⟨v,g,d,tk,os⟩:=s;have p:=sub_zip
  wp_walk using BO q,BO y
  exact (a7 _ rfl h)
abbrev nR(f0 f1:a4)(TI TO:b7):cn:={cls:=.type "zip",dict:=none,data:=.fields #[f0,f1,.bool false,.ref TI,.ref TO],slots:=#[]}
structure ZS(h:bP)(z TI TO O Y:b7)(a b:a6)(t u:fA)(k:Nat):Prop where
 hz:∃f0 f1,h.get? z=some (nR f0 f1 TI TO)/\(f0= .none\/∃T o,f0=i5 (T:Nat)/\h.get? T=some o/\T≠z/\T≠TO/\T≠O/\T≠Y)
 hTI:IsPair h TI (.ref O) (.ref Y)
 hTO:∃x y,IsPair h TO x y
 h1:h.IsStrIter O "str_ascii_iterator" a t k
 h2:h.IsStrIter Y "str_ascii_iterator" b u k
structure ZD(z TI TO O Y:b7):Prop where
 TIz:TI≠z
 TOz:TO≠z
 i1z:O≠z
 i2z:Y≠z
 TITO:TI≠TO
 TIi1:TI≠O
 TIi2:TI≠Y
 TOi1:TO≠O
 TOi2:TO≠Y
 i12:O≠Y
section
variable {c:Cfg}{A:cy}{E:bZ}{s:bM}{z TI TO O Y:b7}{a b:a6}{t u:fA}{k:Nat}
theorem jg{h h':bP}{i:b7}(x:h.IsStrIter i "str_ascii_iterator" a t k)(e:∀o,h.get? i=some o->h'.get? i=some o):h'.IsStrIter i "str_ascii_iterator" a t k:=a5 x λo p r=>(a7 o (e o p) r)
theorem a1s{a:b7}{Q:Option cn->bM->Prop}(h:Q (s.heap.get? a) s):b8 M A (xf a) Q E s:=λq p U=>h
theorem ua{q p:Type}{a:q}{as:List q}{b:p}{f:q->p->Sem (ForInStep p)}{Q:p->bM->Prop}(h:b8 M A (f a b >>=λr=>ForInStep.casesOn (motive:=λU=>Sem p) r pure λb=>forIn as b f) Q E s):b8 M A (forIn (a::as) b f) Q E s:=by rw [C6];refine cast (congrArg (λk=>b8 M A (f a b >>=k) Q E s) (funext λr=>?_)) h;cases r<;>rfl
theorem fnn{q p:Type}{b:p}{f:q->p->Sem (ForInStep p)}{Q:p->bM->Prop}(h:Q b s):b8 M A (forIn ([]:List q) b f) Q E s:=by rw [J8];exact bX h
theorem HX{q p:Type}{xs:Array q}{b:p}{f:q->p->Sem (ForInStep p)}{Q:p->bM->Prop}(h:b8 M A (forIn xs.toList b f) Q E s):b8 M A (forIn xs b f) Q E s:=by rw [<-Array.forIn_toList];exact h
theorem Fm{T:b7}{Q:Option cn->bM->Prop}(e:s.heap.get? T=some o)(h:Q (some o) s):b8 M A (xf T) Q E s:=by rw [<-e] at h;exact λq p U=>h
theorem H1{T:Nat}{v:Bool->bM->Prop}(l:s.heap.get? z=some (nR (i5 T) f1 TI TO))(r:∀h₁ y,h₁.get? z=some (nR (i5 T) y TI TO)->jm z s.heap h₁->v false {s with heap:=h₁}):b8 (b9 pw c.w) A (if (f1 !=Value.bool true)=true then do setField (.ref z) 1 (.bool true);pure false else pure false) v E s:=by
 split
 .exact a9 (ru l (by simp) λh₁ q p=>bX (r h₁ _ q p))
 exact bX (r s.heap f1 l (.refl ..))
theorem SV(D:ZD z TI TO O Y)(S:ZS s.heap z TI TO O Y a b t u k){x y:Nat}(hx:a.cps[k]? =some x)(hy:b.cps[k]? =some y){Q:bZ} (hQ:∀h' P tk t1 t2,s.heap.get? P=none->IsPair h' P (.str ⟨#[x]⟩ t1) (.str ⟨#[y]⟩ t2)->ZS h' z TI TO O Y a b t u (k+1)->(∀c o,c≠z->c≠TO->c≠O->c≠Y->s.heap.get? c=some o->h'.get? c=some o)->Q (.ref P) {s with heap:=h',toks:=tk}) : b8 (b9 pw c.w) A (Builtin.«zip.__next__» ⟨[.ref z],[]⟩) (λfin s'=>∃v,fin= .done (.ret v)/\Q v s') E s:=by
 obtain ⟨⟨f0,f1,hz,hf⟩,hTI,⟨x0,y0,hTO⟩,h1,h2⟩:=S;show b8 _ _ (lO (.ref z) 2 >>=_) _ _ _;refine a9 (eD hz rfl rfl ?_);refine a9 (eD hz rfl rfl (a9 (mR hTI rfl ?_)));refine a9 ?_;unfold JM;rcases hf with rfl | ⟨T,oT,rfl,hT,T1,T2,T3,T4⟩
 .refine a9 (eD hz rfl rfl (bX (wpAny_ite_true rfl (a9 (o5 (a9 (eD hz rfl rfl (a9 (ru hz (by simp) λh₁ f p=>?_)))))))));replace f:h₁.get? z=some (nR .ellipsis f1 TI TO):=f;refine a9 (ua (a:=(fP O,0)) (as:=[(fP Y,1)]) (a9 (a9 (BW ?_))));show b8 _ _ (rT (.ref O) >>=_) _ _ _;refine a9 (xb (jg h1 λo e=>p.extBut _ o D.i1z e) hx λh₂ n q=>bX ?_);have I:=q.extBut _ _ D.TOi1 (p.extBut _ _ D.TOz hTO);refine a9 (mR I rfl (a9 (ID I λg hTO₃ r=>a9 (xe (bX (ua (as:=[]) (a9 (a9 (BW ?_)))))))));show b8 _ _ (rT (.ref Y) >>=_) _ _ _;refine a9 (xb (jg h2 λo e=>r.extBut _ o D.TOi2.symm (q.extBut _ o D.i12.symm (p.extBut _ o D.i2z e))) hy λh₄ h2₄ j=>bX ?_);have G:=j.extBut _ _ D.TOi2 hTO₃;refine a9 (mR G rfl (a9 (ID G λl m i=>?_)));replace m:IsPair l TO (.str ⟨#[x]⟩ s.toks) (.str ⟨#[y]⟩ (s.toks+1)):=m;refine a9 (xe (bX (fnn (a9 (mR m rfl (a9 (wpAny_newTuple ?_)))))));have kp₅:∀c o,c≠z->c≠TO->c≠O->c≠Y->s.heap.get? c=some o->l.get? c=some o:=λc o c1 c2 c3 c4 e=>i.extBut _ _ c2 (j.extBut _ _ c4 (r.extBut _ _ c2 (q.extBut _ _ c3 (p.extBut _ _ c1 e))));have d:=i.extBut _ _ D.TOz.symm (j.extBut _ _ D.i2z.symm (r.extBut _ _ D.TOz.symm (q.extBut _ _ D.i1z.symm f)));have H:=jg n λo e=>i.extBut _ o D.TOi1.symm (j.extBut _ o D.i12 (r.extBut _ o D.TOi1.symm e));have h:=jg h2₄ λo e=>i.extBut _ o D.TOi2.symm e;have sz₅:l.objs.size=s.heap.objs.size:=by rw [i.1,j.1,r.1,q.1,p.1]
  have nP:s.heap.get? l.objs.size=none:=by rw [sz₅];exact ig _
  have C:∀{c:b7} {o:cn},l.get? c=some o->l.objs.size≠c:=λe=>xF (gX e);refine a9 ?_;unfold a1q;have hz₆:=cS {cls:=.type "tuple",data:=.seq #[.str ⟨#[x]⟩ s.toks,.str ⟨#[y]⟩ (s.toks+1)]} d;refine a9 (ru hz₆ (by simp) λh₇ M hs₇=>?_);replace M:h₇.get? z=some (nR (i5 l.objs.size) f1 TI TO):=M;refine ru M (by simp) λh₈ N hs₈=>?_;replace N:h₈.get? z=some (nR (i5 l.objs.size) (.bool false) TI TO):=N;have B:∀c o,c≠z->l.get? c=some o->h₈.get? c=some o:=λc o c1 e=>hs₈.extBut _ _ c1 (hs₇.extBut _ _ c1 (cS _ e));have hT₈:=hs₈.extBut _ _ (C d) (hs₇.extBut _ _ (C d) (dY _ rfl));have l1:∃o,l.get? O=some o:=a5 H λo e U=>⟨o,e⟩;have l2:∃o,l.get? Y=some o:=a5 h λo e U=>⟨o,e⟩;refine xE l1 λU l1=>xE l2 λU l2=>bX (a7 _ rfl (hQ h₈ _ _ _ _ nP hT₈ ⟨(dU _ _ N (.inr (vm _ _ rfl hT₈ (C d) (C m) (C l1) (C l2)))),B _ _ D.TIz (kp₅ _ _ D.TIz D.TITO D.TIi1 D.TIi2 hTI),(ix _ _ (B _ _ D.TOz m)),jg H λo e=>B _ o D.i1z e,jg h λo e=>B _ o D.i2z e⟩ λc o c1 c2 c3 c4 e=>B c o c1 (kp₅ c o c1 c2 c3 c4 e)))
 refine a9 (eD hz rfl rfl ?_);show b8 _ _ (xf T >>=_) _ _ _;refine a9 (Fm hT (rx rfl (a9 (eD hz rfl (x:=f1) rfl (H1 hz λh₁ f1' f p=>rx rfl (a9 (HX (ua (as:=[fP Y]) (a9 (a9 (gQ ?_)))))))))));show b8 _ _ (rT (.ref O) >>=_) _ _ _;refine a9 (xb (jg h1 λo e=>p.extBut _ o D.i1z e) hx λh₂ n q=>bX (bX (a9 (a9 (gQ ?_)))));show b8 _ _ (rT (.ref Y) >>=_) _ _ _;refine a9 (xb (jg h2 λo e=>q.extBut _ o D.i12.symm (p.extBut _ o D.i2z e)) hy λg h2₃ r=>bX (bX (bX (a9 (wpAny_newTuple ?_ (hsz:=show 2<=o7 by decide))))));have kp:∀c o,c≠z->c≠O->c≠Y->s.heap.get? c=some o->g.get? c=some o:=λc o c1 c3 c4 e=>r.extBut _ _ c4 (q.extBut _ _ c3 (p.extBut _ _ c1 e));have B:∀{o':cn} (c:b7) (o:cn),g.get? c=some o->(g.push o').get? c=some o:=λc o e=>cS _ e;have sz:g.objs.size=s.heap.objs.size:=by rw [r.1,q.1,p.1]
 have hz₃:g.get? z=some (nR (i5 (T:Nat)) f1' TI TO):=r.extBut _ _ D.i2z.symm (q.extBut _ _ D.i1z.symm f);exact bX (a7 _ rfl (hQ _ _ _ _ _ (by rw [sz];exact ig _) (dY _ rfl) ⟨(dU _ _ (B _ _ hz₃) (.inr (vm T oT rfl (B _ _ (kp _ _ T1 T3 T4 hT)) T1 T2 T3 T4))),B _ _ (kp _ _ D.TIz D.TIi1 D.TIi2 hTI),(ix x0 y0 (B _ _ (kp _ _ D.TOz D.TOi1 D.TOi2 hTO))),jg n λo e=>B _ o (r.extBut _ o D.i12 e),jg h2₃ λo e=>B _ o e⟩ λc o c1 U c3 c4 e=>B c o (kp c o c1 c3 c4 e)))
end
theorem PM:entryFor table "zip.__getattribute__" =some Builtin.«object.__getattribute__»:=entryFor_alias (id':="object.__getattribute__") ⋯ (by decide +kernel) (by decide +kernel) ⋯
theorem PN(z:b7)(vs:Array a4)(u:fA):Meets (Builtin.«object.__getattribute__» ⟨[.ref z,.str "keys" u],[]⟩) (λA R s=>s.heap.get? z=some {cls:=.type "zip",dict:=none,data:=.fields vs,slots:=#[]}/\raisesAttr (.ref z) "keys" A R s):=.of_wp λprog w A R s hs=>by
  obtain ⟨p,g,d,tk,os⟩:=s;refine xA hs λq hs=>?_;have k:typeLookup (.type "zip") "keys" =pure none:=am_miss_of_fast (by decide +kernel);unfold Builtin.«object.__getattribute__»;repeat (any_goals (first | assumption | wp_step))
  exact wpAny_raiseAttrError hs.1 hs.2 (attrMsg_fits (by decide +kernel) (by size_fits))
section
variable {c:Cfg}{A:cy}{E:bZ}{s:bM}{z:b7}{vs:Array a4}
set_option maxRecDepth 8000 in
theorem SR(y:s.heap.get? z=some {cls:=.type "zip",dict:=none,data:=.fields vs,slots:=#[]})(u:A.handled=none){Q:Option a4->bM->Prop}(h:∀h' tk,Kp s.heap h'->Q none {s with heap:=h',toks:=tk}):b8 (b9 pw c.w) A (getAttr? (.ref z) "keys") Q E s:=by
 obtain ⟨v,g,d,tk,os⟩:=s;have q:∀p,(⟨v,g,d,p,os⟩:bM).TypeIs (.ref z) "zip" :=λU=>(a7 _ y rfl);have f1:=sub_AttributeError;have r:=Ct.lookup;have t:=Ct.bind (.ref z);have l:typeLookup (.type "zip") "__getattr__" =pure none:=am_miss_of_fast (by decide +kernel);unfold getAttr? getAttrBy? getAttrBy;repeat (any_goals (first | assumption | exact q _ | ((with_reducible show b8 _ _ (call (rQ "zip.__getattribute__") _ _) _ _ _);refine o6 Ct (q _) PM (F.args_zip_getattribute_2 _ _) (PN z vs _) ⟨y,u,λh' p e k=>?_⟩) | wp_step))
 refine fY k.there λm j he=>?_;unfold getattributeRaised;repeat (any_goals (first | assumption | wp_step))
 exact h _ _ k.keeps
end
theorem vg:plainId "dict.update.loop" =true:=by decide +kernel
theorem DJ:entryFor table "dict.update.loop" =some Builtin.«dict.update.loop»:=entryFor_of_fast ⋯
section
variable {c:Cfg}{A:cy}{E:bZ}{s:bM}{z TI TO Y O:b7}{a b:a6}{t u:fA}{k:Nat}
theorem VH(I:A.handled=none)(D:ZD z TI TO Y O)(S:ZS s.heap z TI TO Y O a b t u k)(G:a.cps[k]? =none){Q:Fin->bM->Prop} (N:∀h' e,(∀c o,c≠z->c≠TO->c≠Y->c≠O->s.heap.get? c=some o->h'.get? c=some o)->(∃o,h'.get? e=some o/\o.cls= .type "StopIteration")->E (.ref e) {s with heap:=h'}) : b8 (b9 pw c.w) A (Builtin.«zip.__next__» ⟨[.ref z],[]⟩) Q E s:=by
 obtain ⟨⟨f0,f1,l,h⟩,d,⟨x0,y0,H⟩,M,h2⟩:=S;show b8 _ _ (lO (.ref z) 2 >>=_) _ _ _;refine a9 (eD l rfl rfl ?_);refine a9 (eD l rfl rfl (a9 (mR d rfl ?_)));refine a9 ?_;unfold JM;rcases h with rfl | ⟨T,oT,rfl,B,T1,T2,T3,T4⟩
 .refine a9 (eD l rfl rfl (bX (wpAny_ite_true rfl (a9 (o5 (a9 (eD l rfl rfl (a9 (ru l (by simp) λh₁ y p=>?_)))))))));replace y:h₁.get? z=some (nR .ellipsis f1 TI TO):=y;refine a9 (ua (a9 (a9 (BW ?_))));refine a9 (Iw I (jg M λo e=>p.extBut _ o D.i1z e) G λm e q he=>a5 he λoe j i=>?_);have r:=q _ _ D.i1z.symm y;have n:e≠z:=λx=>by subst x;rw [r] at j;obtain rfl:=bv j;simp at i
  exact ru r (by simp) λf U v=>N f e (λc o c1 U g U x=>v.extBut _ _ c1 (q _ _ g (p.extBut _ _ c1 x))) (a7 oe (v.extBut _ _ n j) i)
 refine a9 (eD l rfl rfl ?_);refine a9 (Fm B (rx rfl (a9 (eD l rfl rfl (H1 l λh₁ C y p=>rx rfl (a9 (HX (ua (a9 (a9 (gQ ?_)))))))))));exact a9 (Iw I (jg M λo e=>p.extBut _ o D.i1z e) G λm e q he=>N m e (λc o c1 U g U x=>q _ _ g (p.extBut _ _ c1 x)) he)
theorem ZS.ty(S:ZS s.heap z TI TO Y O a b t u k):s.TypeIs (.ref z) "zip" :=cU S.hz λU U e U=>(a7 _ e rfl)
theorem Nk(D:ZD z TI TO Y O)(S:ZS s.heap z TI TO Y O a b t u k)(i:a.cps[k]? =some x)(f:b.cps[k]? =some y){Q:Option a4->bM->Prop} (j:∀h' P tk p q,s.heap.get? P=none->IsPair h' P (.str ⟨#[x]⟩ p) (.str ⟨#[y]⟩ q)->ZS h' z TI TO Y O a b t u (k+1)->(∀c o,c≠z->c≠TO->c≠Y->c≠O->s.heap.get? c=some o->h'.get? c=some o)->Q (some (.ref P)) {s with heap:=h',toks:=tk}) : b8 (b9 pw c.w) A (gE (.ref z)) Q E s:=by unfold gE;exact a9 (o4 (o0 S.ty uV (lK uV S.ty F.entry_zip_next (SV D S i f λh' P tk p q v r l m=>bX (j h' P tk p q v r l m)) (JH _))))
theorem KG(y:A.handled=none)(D:ZD z TI TO Y O)(S:ZS s.heap z TI TO Y O a b t u k)(l:a.cps[k]? =none){Q:Option a4->bM->Prop} (p:∀h',(∀c o,c≠z->c≠TO->c≠Y->c≠O->s.heap.get? c=some o->h'.get? c=some o)->Q none {s with heap:=h'}):b8 (b9 pw c.w) A (gE (.ref z)) Q E s:=by unfold gE;exact a9 (o4 (o0 S.ty uV (lK uV S.ty F.entry_zip_next (VH (A:=A.in1) y D S l λh' e v he=>a5 he λo r q=>a9 (rv (a7 o r q) rz (bX (p _ v)))) (JH _))))
theorem yD(D:ZD z TI TO Y O)(S:ZS h z TI TO Y O a b t u k)(q:d≠z/\d≠TO/\d≠Y/\d≠O/\d≠TI)(g:∃o,h'.get? d=some o)(p:∀b o,b≠d->h.get? b=some o->h'.get? b=some o):ZS h' z TI TO Y O a b t u k:=by
 obtain ⟨⟨f0,f1,n,f⟩,y,⟨M,N,v⟩,m,j⟩:=S;refine ⟨(dU f0 f1 (p _ _ q.1.symm n) (f.imp id λ⟨T,o,e,i,r⟩=>?_)),p _ _ q.2.2.2.2.symm y,(ix M N (p _ _ q.2.1.symm v)),jg m λo=>p _ o q.2.2.1.symm,jg j λo=>p _ o q.2.2.2.1.symm⟩;by_cases w:T=d
 .exact xE g λQ l=>(d6 T Q e (by rw [w];exact l) r)
 exact (d6 T o e (p _ _ w i) r)
def wn(y:Tx)(us:List a4):Prop:=∀(j:Nat) (v:a4),us[j]? =some v->∃(p:Nat) (t:Nat),y[j]? =some p/\v= .str (SS [p]) t
abbrev lx(x:Tx):List a6:=x.map λp=>SS [p]
theorem M8{K:Type}[DecidableEq K]{y:List (K×a4)}{q:K}(w:q∉y.map (·.1))(v:a4):mV y q v=y++[(q,v)]:=by unfold mV;rw [if_neg];exact λh=>a5 (jY.mp h) λp r e=>w (cM.mpr (a7 p r (of_decide_eq_true e)))
theorem LL{x:Tx}{k:Nat}{us:List a4}{v:a4}(nd:x.Nodup)(p:k< x.length)(q:us.length=k):mV ((lx (x.take k)).zip us) (SS [x[k]]) v=(lx (x.take (k+1))).zip (us++[v]):=by
 have l:(lx (x.take k)).length=us.length:=by simp [lx];exact Zq p q
 rw [M8,List.take_succ_eq_append_getElem p]
 .simp only [lx,uI,eZ,xz];rw [List.zip_append l];rfl
 rw [xu (gW l)];intro m;obtain ⟨y,w,e⟩:=cM.mp m;have:y=x[k]:=by have:=mf e;simpa using this
 subst this;obtain ⟨i,r,e⟩:=List.mem_take_iff_getElem.mp w;have:=(J1 nd).mp e;exact Zr p q l r this
theorem Qu(hh:A.handled=none)(D:ZD z TI TO Y O){d:b7}(i:d≠z/\d≠TO/\d≠Y/\d≠O/\d≠TI){x y:Tx}(hl:x.length=y.length)(nd:x.Nodup)(hsz:x.length<=1048576){h₁:bP}{R:rJ->bM->Prop} (hR:∀h' tk us,(∀b o,b≠d->b≠z->b≠TO->b≠Y->b≠O->h₁.get? b=some o->h'.get? b=some o)->h'.DictOf (strKind pw c.w) d ((lx x).zip us)->us.length=x.length->wn y us->R (.ok (.ret .none)) {s with heap:=h',toks:=tk}) : ∀(m k:Nat) (h:bP) (tk:Nat) (us:List a4),x.length -k=m->k<=x.length->ZS h z TI TO Y O (SS x) (SS y) t u k->h.DictOf (strKind pw c.w) d ((lx (x.take k)).zip us)->us.length=k->(∀b o,b≠d->b≠z->b≠TO->b≠Y->b≠O->h₁.get? b=some o->h.get? b=some o)->wn y us -> mU (b9 pw c.w) A (.builtin "dict.update.loop" ⟨[.ref d,.ref z,i5 k,.none],[]⟩) R {s with heap:=h,toks:=tk}:=by
 intro m;induction m with
 | zero=>
  intro k h tk us f hk S I M kp H;have hx:(SS x).cps[k]? =none:=by simp [SS];exact xC f
  refine codeAny_builtin DJ ?_;rw [Around.under_plainId vg _];refine a9 (KG (A:=A.in1) hh D S hx λh' he=>?_);refine a9 (bX (bX (hR h' tk us (λb o b0 g n b3 b4 e=>he b o g n b3 b4 (kp b o b0 g n b3 b4 e)) ?_ (M.trans (Cf hk (xC f))) H)));rw [List.take_of_length_le (xC f)] at I;exact d8 I λo es G B r=>(eM o es G (he d o i.1 i.2.1 i.2.2.1 i.2.2.2.1 B) r)
 | succ m ih=>
  intro k h tk us f hk S I M kp H;have l:=Nat.sub_pos_iff_lt.mp (by rw [f];exact Ch _);have Q:=hl▸l;have hx:(SS x).cps[k]? =some x[k]:=by simp [SS,l]
  have hy:(SS y).cps[k]? =some y[k]:=by simp [SS,Q]
  refine codeAny_builtin DJ ?_;rw [Around.under_plainId vg _];refine a9 (Nk D S hx hy λh' P tk' t1 t2 hP hT S' he=>?_);have C:h'.DictOf (strKind pw c.w) d ((lx (x.take k)).zip us):=by exact d8 I λo es G B r=>(eM o es G (he d o i.1 i.2.1 i.2.2.1 i.2.2.2.1 B) r)
  refine a9 (gQ (a9 (wpAny_tryCatch ?_)));unfold Builtin.Dict.pairItems;refine a9 (BY (a7 _ hT rfl) ?_);rw [if_pos ∅];refine a9 (mR hT rfl (bX ?_));refine gQ (wpAny_dictSet_pairs (k:=SS [x[k]]) (lL ..) C (λh'' p hs=>?_) (by rw [fH];simp;exact cW (pI ..) (cW (xH l) (dh hsz rfl))));rw [LL nd l M] at p;refine bX ⟨plainId_quiet vg _,ih (k+1) _ _ _ (congrArg Nat.pred f) l (yD D S' i ?_ λb o hb e=>(hs.2 b hb).trans e) p (by simp [M]) (λb o b0 g n b3 b4 e=>(hs.2 b b0).trans (he b o g n b3 b4 (kp b o b0 g n b3 b4 e))) λj v e=>?_⟩
  .exact d8 p λo U U e U=>⟨o,e⟩
  rcases Nat.lt_or_ge j us.length with N | N
  .rw [xk N] at e;exact H j v e
  rw [xj N] at e;have:j -us.length=0:=by
   rcases Jh (j -us.length) with q | q
   .exact q
   rw [i6 (show [_].length<=_ from q)] at e;injection e
  rw [this] at e;cases e;exact (dU (y[k]) t2 (by rw [show j=k from (Cf (xC this) N).trans M];exact fD Q) rfl)
end
section
variable {c:Cfg}{A:cy}{E:bZ}{s:bM}{a b:a6}{t u:fA}
theorem SU(f:a.cps.all (·< 128)=true)(g:b.cps.all (·< 128)=true){Q:bZ} (h:∀h' n,s.heap.get? n=none->ZS h' (n+4) (n+2) (n+3) n (n+1) a b t u 0->(∀d,s.heap.get? (n+d)=none)->Kp s.heap h'->Q (.ref (n+4)) {s with heap:=h'}) : b8 (b9 pw c.w) A (call (.type "zip") [.str a t,.str b u]) Q E s:=by
 refine callType_new F.called_zip ∅ (F.typeCall_zip_2 _ _) (F.newCall_zip_2 _ _) (λq=>F.args_object_init_3 q _ _) F.entry_zip_new (VI t u f g) ?_;generalize s.heap=k at h ⊢;have y:(k.push (u8 a t)).objs.size=k.objs.size+1:=pL ..;have z:(x7 k a b t u).objs.size=k.objs.size+2:=by rw [pL,y]
 have v:(x8 k a b t u).objs.size=k.objs.size+3:=by rw [pL,z]
 have j:(x9 k a b t u).objs.size=k.objs.size+4:=by rw [pL,v]
 have p:(rt k a b t u).get? (x9 k a b t u).objs.size=some _:=dY _ rfl;have m:(rt k a b t u).get? (x8 k a b t u).objs.size=some _:=cS _ (dY _ rfl);have l:(rt k a b t u).get? (x7 k a b t u).objs.size=some _:=cS _ (cS _ (dY _ rfl));have r:(rt k a b t u).get? (k.push (u8 a t)).objs.size=some _:=cS _ (cS _ (cS _ (dY _ rfl)));have i:(rt k a b t u).get? k.objs.size=some _:=cS _ (cS _ (cS _ (cS _ (dY _ rfl))));rw [z,v,j] at p;rw [y,z] at l;rw [v] at m;rw [y] at r;rw [j];exact ⟨(a7 _ p rfl),h _ _ (ig _) ⟨(dU _ _ p (.inl rfl)),l,(ix _ _ m),(cF _ i rfl rfl),(cF _ r rfl rfl)⟩ (λd=>xJ (kS ..)) ((gm _ _).trans ((gm _ _).trans ((gm _ _).trans ((gm _ _).trans (gm _ _)))))⟩
theorem zd(n:Nat):ZD (n+4) (n+2) (n+3) n (n+1):=by constructor<;>(intro e;have e:(_:Nat)=_:=e;omega)
theorem Qs(N:A.handled=none){n:Nat}{x y:Tx}(S:ZS s.heap (n+4) (n+2) (n+3) n (n+1) (SS x) (SS y) t u 0)(B:x.length=y.length)(nd:x.Nodup)(hsz:x.length<=1048576){Q:bZ} (h:∀h' d tk us,s.heap.get? d=none->h'.DictOf (strKind pw c.w) d ((lx x).zip us)->us.length=x.length->wn y us->(∀b o,b≠n+4->b≠n+3->b≠n->b≠n+1->s.heap.get? b=some o->h'.get? b=some o)->Q (.ref d) {s with heap:=h',toks:=tk}) : b8 (b9 pw c.w) A (call (.type "dict") [.ref (n+4)]) Q E s:=by
 refine callType_codes (Q₁:=λl s₁=>l= .ref s.heap.objs.size/\s₁={s with heap:=s.heap.push {cls:=.type "dict",data:=.dict #[]}}) F.kt_called_dict (F.kt_typeCall_dict_1 _) F.entry_dict_init (kt_code_dict_new _ ⟨rfl,rfl⟩) ?_;rintro l s₁ ⟨rfl,rfl⟩;have g:s.heap.get? s.heap.objs.size=none:=ig _;generalize C:s.heap.objs.size=d at g ⊢;have f:Kp s.heap (s.heap.push {cls:=.type "dict",data:=.dict #[]}):=gm _ _;have k:(s.heap.push {cls:=.type "dict",data:=.dict #[]}).DictOf (strKind pw c.w) d []:=C▸Heap.DictOf.new s.heap;generalize s.heap.push {cls:=.type "dict",data:=.dict #[]}=h₁ at f k ⊢;have z:∀{q:b7} {o:cn},s.heap.get? q=some o->d≠q:=λe w=>by rw [<-w,g] at e;injection e
 have i:=yD (zd n) S ⟨cU S.hz λU U e U=>z e,fY S.hTO λU U e=>z e,a5 S.h1 λU e U=>z e,a5 S.h2 λU e U=>z e,z S.hTI⟩ (let ⟨o,_,_,e,_⟩:=k;⟨o,e⟩) λb o U=>f b o;have M:d≠n+4/\d≠n+3/\d≠n/\d≠n+1/\d≠n+2:=⟨cU S.hz λU U e U=>z e,fY S.hTO λU U e=>z e,a5 S.h1 λU e U=>z e,a5 S.h2 λU e U=>z e,z S.hTI⟩;refine ⟨k.typeIs,F.args_dict_init_2 _ _,?_⟩;unfold Builtin.«dict.__init__»;refine a9 ?_;unfold Builtin.Dict.selfAndRest;refine a9 (wpAny_notOrdered_dict k.typeIs ?_);show b8 _ _ (pure (d,[fP (n+4)])) _ _ _;refine bX ?_;show b8 _ _ (Builtin.Dict.updateFrom "dict.__init__" d (.ref (n+4)) [] .none) _ _ _;unfold Builtin.Dict.updateFrom;refine a9 (BY i.ty ?_);rw [if_pos ∅];refine cU (id i.hz) λf0 f1 H U=>a9 (SR (A:=A.in1.in1) H N λp tk k2=>?_);rw [if_pos (by rfl)];have m:=yD (d:=d) (h':=p) (zd n) i M (let ⟨o,_,_,e,_⟩:=k;⟨o,k2 _ _ e⟩) λb o U=>k2 b o;exact a9 (o5 (a9 (wpAny_pyIter_slot m.ty F.slot_zip_iter (lK F.slot_zip_iter m.ty F.entry_zip_iter (bX ⟨_,rfl,"zip",_,m.ty,uV.lookup,bX ⟨plainId_quiet vg _,Qu (A:=A.in1) N (zd n) M B nd hsz (h₁:=p) (λh' Y us q1 q2 q3 q4=>⟨rfl,h h' d Y us g q2 q3 q4 λb o I G b3 b4 e=>q1 b o (z e).symm I G b3 b4 (k2 b o (f b o e))⟩) _ 0 p tk [] rfl (dR _) m (d8 k λo es O e r=>(eM o es O (k2 _ _ e) r)) rfl (λU U U U U U U e=>e) λj v e=>by simp at e⟩⟩) (F.args_zip_iter_1 _)))))
end
theorem YC{u:Type}{k:List D×Fr->Out u}:(evs G [a,b] f).bind k=(ev G a f).bind λr=>(fz r).bind λp=>(ev G b p.2).bind λr=>(fz r).bind λq=>k ([p.1,q.1],q.2):=by
 show ((ev G a f).bind λr=>(fz r).bind λp=>(evs G [b] p.2).bind λq=>.ok (p.1::q.1,q.2)).bind k=_;generalize ev G a f=x;induction x with
 | ok r=>
  show ((fz r).bind λp=>(evs G [b] p.2).bind λq=>.ok (p.1::q.1,q.2)).bind k=(fz r).bind _;generalize fz r=y;induction y with
  | ok p=>
   show ((((ev G b p.2).bind λr=>(fz r).bind λq=>.ok ([q.1],q.2)).bind λq=>.ok (p.1::q.1,q.2)).bind k:Out u)=(ev G b p.2).bind _;generalize ev G b p.2=z;induction z with
   | ok r=>
    show ((((fz r).bind λq=>.ok ([q.1],q.2)).bind λq=>.ok (p.1::q.1,q.2)).bind k:Out u)=(fz r).bind _;generalize fz r=w;induction w using ou<;>rfl
   | _=>rfl
  | _=>rfl
 | _=>rfl
theorem Qt{x:Tx}(nd:x.Nodup):jh (x.map λk=>[k]):=by refine ⟨λh=>a5 (cM.mp h) λk U e=>?_,xr.mpr (List.Pairwise.imp (λh e=>h (CK e).1) nd)⟩;cases e
theorem Qv(z:cI y=true){us:List a4}(q:us.length=y.length)(u:wn y us):DRs c O h (y.map λk=>iJ [k]) us:=Dd y (sN z) us q λj v e=>u j v e
theorem Eo(h:x.all (·< 128)=true):(SS x).cps.all (·< 128)=true:=by simpa [SS] using h
def HV(f:Fr)(d e:D):Out (V×Fr):=match d,e with
 | .str x,.str y=>if nN x y then .ok (.od (x.map λc=>[c]) (y.map λc=>.str [c]),f) else .x
 | _,_=>.x
theorem U5(ns:k≠ .x)(h:k=HV f d e):∃x y,d= .str x/\e= .str y/\x.length=y.length/\x.Nodup/\x.all (·< 128)=true/\y.all (·< 128)=true/\x.length<=1048576/\k= .ok (.od (x.map λc=>[c]) (y.map λc=>.str [c]),f):=by
 induction d using c7 with
 | str x=>induction e using c7 with
  | str y=>
   have h:k=if nN x y=true then .ok (.od (x.map λc=>[c]) (y.map λc=>.str [c]),f) else .x:=h;induction q:nN x y with
   | false=>rw [q] at h;exact absurd h ns
   | true=>rw [q,if_pos rfl] at h;unfold nN at q;simp only [dF,beq_iff_eq,decide_eq_true_eq] at q;exact ⟨x,y,rfl,rfl,q.1,q.2.1,q.2.2.1,q.2.2.2.1,ee q.2.2.2.2,h⟩
  | _=>exact absurd h ns
 | _=>exact absurd h ns
section
variable {c:Cfg}{G:cB}{A:cy}{X:Cx}{N:cz}{sc:cD}{m:List (Nat×a6)}{M cb:E}{I C:a8}{p p' pos Y:c8}
theorem Wr{E:bZ}(hh:A.handled=none)(ra:DR c O s.heap (.str x) a)(rb:DR c O s.heap (.str y) b)(B:x.length=y.length)(nd:x.Nodup)(ax:x.all (·< 128)=true)(ay:y.all (·< 128)=true)(hsz:x.length<=1048576){Q:bZ} (h:∀z s1,b8 (b9 pw c.w) A (call (.type "dict") [.ref z]) (OpR c O s (.od (x.map λc=>[c]) (y.map λc=>.str [c]))) E s1->Q (.ref z) s1):b8 (b9 pw c.w) A (call (.type "zip") [a,b]) Q E s:=by
 refine fx ra λU t f=>?_;clear ra;subst f;refine fx rb λoy u f=>?_;clear rb;subst f;refine SU (Eo ax) (Eo ay) λh1 n hn S r kp=>h _ _ (Qs hh S B nd hsz λh2 d tk us g D H hv j=>?_);have v:s.heap.get? d=none:=by
  induction q:s.heap.get? d with
  | none=>rfl
  | some o=>rw [kp _ _ q] at g;injection g
 have k2:Kp s.heap h2:=λb o e=>by
  have i:∀k,b≠n+k:=λk w=>by rw [w,r k] at e;injection e
  exact j b o (i 4) (i 3) (λw=>by rw [w,hn] at e;injection e) (i 1) (kp b o e)
 have l:∃o,h2.get? d=some o:=by refine d8 D λo U U e U=>?_;exact ⟨o,e⟩
 exact .new v k2 ⟨rfl,rfl⟩ l (a7 us (DcA.mk' (by simpa [lx,JX] using D) (by simp [H]) fR (Qt nd)) (Qv oy (Zs B H) hv))
theorem Tw(H:Gd c)(B:Blt c)(i:CA A X)(b:EO c X N sc m)(hd:f7 sc "dict" =true)(hz:f7 sc "zip" =true)(t:TL c G A X N [M,cb] [I,C]) : T c G A X N (.z M cb) (.Call (.Name "dict" p) [.Call (.Name "zip" p') [I,C] [] Y] [] pos):=λg s j ns=>by
 have hs:∀a q,Expr.Call (.Name "zip" p') [I,C] [] Y≠ .Starred a q:=λU U q=>by injection q
 refine l0 rfl (qb H j.gi b hd (B.bi .dict) (og (yb (c:=c) (G:=G) (A:=A) (X:=X) hs .nil) (λh x=>x) ?_));rw [iK hs];refine on (oq ?_);have eq:ev G (.z M cb) g.f=(evs G [M,cb] g.f).bind λr=>HV r.2 (r.1[0]?.getD .none) (r.1[1]?.getD .none):=by rw [YC];rfl
 refine l0 rfl (qb H j.gi b hz B.zip (og (by rw [t.plain];rfl) (λh x=>x) ?_));have u:=pW (q:=false) (pos:=Y) (K:=λvs s'=>Keeps (b9 pw c.w) s'.heap (.type "zip")/\b8 (b9 pw c.w) A (call (.type "zip") ([]++vs)) (λv s1=>b8 (b9 pw c.w) A (spliced (mW pos (mS [] N))) (λvs s'=>Keeps (b9 pw c.w) s'.heap (.type "dict")/\b8 (b9 pw c.w) A (call (.type "dict") ([]++(v::vs))) (Pv c X g s (ev G (.z M cb) g.f)) (Pe c X false g s (ev G (.z M cb) g.f)) s') (Pe c X false g s (ev G (.z M cb) g.f)) s1) (Pe c X false g s (ev G (.z M cb) g.f)) s') H t j (.refl ..) eq ns λds g1 vs s1 j1 Q k n U O=>⟨.typ,?_⟩
 .cases t with
  | cons hs U U=>rw [iK hs] at u ⊢;exact on u
 refine hB (U5 ns O) λx y q1 q2 q3 q4 l=>pk l λq5 q6 q7 e2=>?_;rcases ds with U | ⟨d,U | ⟨e,U | ⟨U,U⟩⟩⟩
 .exact absurd k (by simp)
 .exact absurd k (by simp)
 .obtain rfl:=show d= .str x from q1;clear k O q1 l;obtain rfl:=show e= .str y from q2;refine c0 Q λv1 U l r1 χ=>c0 χ λv2 U σ r2 υ=>?_;subst l;subst σ;clear χ Q;subst υ;refine Wr i.hh r1 r2 q3 q4 q5 q6 q7 λz s2 w=>pS ⟨.typ,c6 w (λr s' o=>o.pv H j1 n e2) λU U h=>h⟩
 exact absurd k (by simp)
end
inductive Vx where
 | name (n:a6) (p:c8) | con (k:Const) (j:Nat) (p:c8) | b (l:a8) (o:mT) (r:a8) (p:c8) | un (o:UnaryOp) (x:a8) (p:c8) | boo (o:BoolOp) (xs:List a8) (p:c8)
 | c (l:a8) (os:List CmpOp) (rs:List a8) (p:c8) | i (t a b:a8) (p:c8) | t (xs:List a8) (k:Nat) (p:c8) | l (xs:List a8) (p:c8) | dic (ks:List (Option a8)) (vs:List a8) (p:c8)
 | att (o:a8) (a:a6) (p:c8) | sub (v i:a8) (p:c8) | slc (l u st:Option a8) (p:c8) | call (f:a8) (as:List a8) (ks:List pD) (p:c8) | lcp (e:a8) (gs:List uw) (sc:cD) (p:c8) | oth (e:a8)
def vx:a8->Vx
 | .Name n p=>.name n p
 | .Constant k j p=>.con k j p
 | .BinOp l o r p=>.b l o r p
 | .UnaryOp o x p=>.un o x p
 | .BoolOp o xs p=>.boo o xs p
 | .Compare l os rs p=>.c l os rs p
 | .IfExp t a b p=>.i t a b p
 | .Tuple xs k p=>.t xs k p
 | .List xs p=>.l xs p
 | .Dict ks vs p=>.dic ks vs p
 | .Attribute o a p=>.att o a p
 | .Subscript v i p=>.sub v i p
 | .Slice l u st p=>.slc l u st p
 | .Call f as ks p=>.call f as ks p
 | .ListComp e q sc p=>.lcp e q sc p
 | e=>.oth e
def xv:Vx->a8
 | .name n p=>.Name n p
 | .con k j p=>.Constant k j p
 | .b l o r p=>.BinOp l o r p
 | .un o x p=>.UnaryOp o x p
 | .boo o xs p=>.BoolOp o xs p
 | .c l os rs p=>.Compare l os rs p
 | .i t a b p=>.IfExp t a b p
 | .t xs k p=>.Tuple xs k p
 | .l xs p=>.List xs p
 | .dic ks vs p=>.Dict ks vs p
 | .att o a p=>.Attribute o a p
 | .sub v i p=>.Subscript v i p
 | .slc l u st p=>.Slice l u st p
 | .call f as ks p=>.Call f as ks p
 | .lcp e q sc p=>.ListComp e q sc p
 | .oth e=>e
theorem cV(e:a8):xv (vx e)=e:=by induction e using lX<;>rfl
def oV(k:a6->Bool):Vx->Bool
 | .name n _=>k n
 | _=>false
def VM(k:a6->Bool)(v:Vx):Prop:=∃n p,xv v= .Name n p/\k n=true
theorem pY{k:a6->Bool}(h:oV k v=true):VM k v:=by
 induction v with
 | name n p=>exact (dU n p rfl h)
 | _=>exact ff h
def Ao{k:Type}(p:a6->Option k):Vx->Option k
 | .name n _=>p n
 | _=>none
theorem Dm{k:Type}{q:a6->Option k}{r:k}(h:Ao q v=some r):∃n p,xv v= .Name n p/\q n=some r:=by
 induction v with
 | name n p=>exact (dU n p rfl h)
 | _=>exact eH h
def HC{k:Type}(p:List a8->Option k):Vx->Option k
 | .t xs _ _=>p xs
 | _=>none
theorem OM{q:Type}{y:List a8->Option q}{r:q}(h:HC y v=some r):∃xs k p,xv v= .Tuple xs k p/\y xs=some r:=by
 induction v with
 | t xs k p=>exact (eM xs k p rfl h)
 | _=>exact eH h
def Hr(p:Const->Bool):Vx->Bool
 | .con k _ _=>p k
 | _=>false
def Y7(q:Const->Bool)(v:Vx):Prop:=∃k j p,xv v= .Constant k j p/\q k=true
theorem Ov{q:Const->Bool}(h:Hr q v=true):Y7 q v:=by
 induction v with
 | con k j p=>exact (eM k j p rfl h)
 | _=>exact ff h
def Hq(k:a8->mT->a8->Bool):Vx->Bool
 | .b l o r _=>k l o r
 | _=>false
def Y4(k:a8->mT->a8->Bool)(v:Vx):Prop:=∃l o r p,xv v= .BinOp l o r p/\k l o r=true
theorem Ou{k:a8->mT->a8->Bool}(h:Hq k v=true):Y4 k v:=by
 induction v with
 | b l o r p=>exact (mh l o r p rfl h)
 | _=>exact ff h
def wU(k:UnaryOp->a8->Bool):Vx->Bool
 | .un o x _=>k o x
 | _=>false
def IUn(k:UnaryOp->a8->Bool)(v:Vx):Prop:=∃o x p,xv v= .UnaryOp o x p/\k o x=true
theorem yK{k:UnaryOp->a8->Bool}(h:wU k v=true):IUn k v:=by
 induction v with
 | un o x p=>exact (eM o x p rfl h)
 | _=>exact ff h
def AF(k:BoolOp->List a8->Bool):Vx->Bool
 | .boo o xs _=>k o xs
 | _=>false
def Y5(k:BoolOp->List a8->Bool)(v:Vx):Prop:=∃o xs p,xv v= .BoolOp o xs p/\k o xs=true
theorem DU{k:BoolOp->List a8->Bool}(h:AF k v=true):Y5 k v:=by
 induction v with
 | boo o xs p=>exact (eM o xs p rfl h)
 | _=>exact ff h
def AG(k:a8->List CmpOp->List a8->Bool):Vx->Bool
 | .c l os rs _=>k l os rs
 | _=>false
def Y6(k:a8->List CmpOp->List a8->Bool)(v:Vx):Prop:=∃l os rs p,xv v= .Compare l os rs p/\k l os rs=true
theorem DV{k:a8->List CmpOp->List a8->Bool}(h:AG k v=true):Y6 k v:=by
 induction v with
 | c l os rs p=>exact (mh l os rs p rfl h)
 | _=>exact ff h
def Ht(k:a8->a8->a8->Bool):Vx->Bool
 | .i t a b _=>k t a b
 | _=>false
def a0M(k:a8->a8->a8->Bool)(v:Vx):Prop:=∃t a b p,xv v= .IfExp t a b p/\k t a b=true
theorem Oy{k:a8->a8->a8->Bool}(h:Ht k v=true):a0M k v:=by
 induction v with
 | i t a b p=>exact (mh t a b p rfl h)
 | _=>exact ff h
def tR(k:List a8->Bool):Vx->Bool
 | .t xs _ _=>k xs
 | _=>false
def Yj(q:List a8->Bool)(v:Vx):Prop:=∃xs k p,xv v= .Tuple xs k p/\q xs=true
theorem yq{q:List a8->Bool}(h:tR q v=true):Yj q v:=by
 induction v with
 | t xs k p=>exact (eM xs k p rfl h)
 | _=>exact ff h
def AI(k:List a8->Bool):Vx->Bool
 | .l xs _=>k xs
 | _=>false
def Yd(k:List a8->Bool)(v:Vx):Prop:=∃xs p,xv v= .List xs p/\k xs=true
theorem DW{k:List a8->Bool}(h:AI k v=true):Yd k v:=by
 induction v with
 | l xs p=>exact (dU xs p rfl h)
 | _=>exact ff h
def Hs(k:List (Option a8)->List a8->Bool):Vx->Bool
 | .dic ks vs _=>k ks vs
 | _=>false
def Y8(k:List (Option a8)->List a8->Bool)(v:Vx):Prop:=∃ks vs p,xv v= .Dict ks vs p/\k ks vs=true
theorem Ox{k:List (Option a8)->List a8->Bool}(h:Hs k v=true):Y8 k v:=by
 induction v with
 | dic ks vs p=>exact (eM ks vs p rfl h)
 | _=>exact ff h
def p9(k:a8->a6->c8->Bool):Vx->Bool
 | .att o a p=>k o a p
 | _=>false
def Y2(k:a8->a6->c8->Bool)(v:Vx):Prop:=∃o a p,xv v= .Attribute o a p/\k o a p=true
theorem qa{k:a8->a6->c8->Bool}(h:p9 k v=true):Y2 k v:=by
 induction v with
 | att o a p=>exact (eM o a p rfl h)
 | _=>exact ff h
def tQ(k:a8->a8->Bool):Vx->Bool
 | .sub v i _=>k v i
 | _=>false
def Yh(k:a8->a8->Bool)(v:Vx):Prop:=∃w i p,xv v= .Subscript w i p/\k w i=true
theorem vn{k:a8->a8->Bool}(h:tQ k v=true):Yh k v:=by
 induction v with
 | sub v i p=>exact (eM v i p rfl h)
 | _=>exact ff h
def Hu(k:Option a8->Option a8->Option a8->Bool):Vx->Bool
 | .slc l u st _=>k l u st
 | _=>false
def a0N(k:Option a8->Option a8->Option a8->Bool)(v:Vx):Prop:=∃l u st p,xv v= .Slice l u st p/\k l u st=true
theorem OB{k:Option a8->Option a8->Option a8->Bool}(h:Hu k v=true):a0N k v:=by
 induction v with
 | slc l u st p=>exact (mh l u st p rfl h)
 | _=>exact ff h
def nY{k:Type}(p:k->Bool):List k->Bool
 | [a]=>p a
 | _=>false
def ug{k:Type}(p:k->k->Bool):List k->Bool
 | [a,b]=>p a b
 | _=>false
def Bz{k:Type}(p:k->List k->Bool):List k->Bool
 | a::as=>p a as
 | []=>false
theorem ql{k:Type}{p:k->Bool}{l:List k}(h:nY p l=true):∃a,l=[a]/\p a=true:=by
 induction l using bO with
 | nil=>exact ff h
 | cons a l=>induction l using bO with
  | nil=>exact (a7 a rfl h)
  | cons=>exact ff h
theorem vF{k:Type}{p:k->k->Bool}{l:List k}(h:ug p l=true):∃a b,l=[a,b]/\p a b=true:=by
 induction l using bO with
 | nil=>exact ff h
 | cons a l=>induction l using bO with
  | nil=>exact ff h
  | cons b l=>induction l using bO with
   | nil=>exact (dU a b rfl h)
   | cons=>exact ff h
theorem EZ{k:Type}{p:k->List k->Bool}{l:List k}(h:Bz p l=true):∃a as,l=a::as/\p a as=true:=by
 induction l using bO with
 | nil=>exact ff h
 | cons a l=>exact (dU a l rfl h)
def iP(k:a8->List a8->List pD->c8->Bool):Vx->Bool
 | .call f as ks p=>k f as ks p
 | _=>false
def VJ(k:a8->List a8->List pD->c8->Bool)(v:Vx):Prop:=∃f as ks p,xv v= .Call f as ks p/\k f as ks p=true
theorem j8{k:a8->List a8->List pD->c8->Bool}(h:iP k v=true):VJ k v:=by
 induction v with
 | call f as ks p=>exact (mh f as ks p rfl h)
 | _=>exact ff h
def AH(p:a8->List uw->cD->Bool):Vx->Bool
 | .lcp e k sc _=>p e k sc
 | _=>false
def Yc(q:a8->List uw->cD->Bool)(v:Vx):Prop:=∃e k sc p,xv v= .ListComp e k sc p/\q e k sc=true
theorem OA{k:a8->List uw->cD->Bool}(h:AH k v=true):Yc k v:=by
 induction v with
 | lcp e q sc p=>exact (mh e q sc p rfl h)
 | _=>exact ff h
structure Tb where
 fn:List a6
 gl:List a6
 cl:List a6
 me:List (a6×Nat)
 bo:List Bool
 xn:a6
structure Inf where
 sc:cD
 vis:List (Nat×a6)
 offs:List Nat
 bor:Bool
def md(e:a8):Bool:=match e with
 | .Starred .. =>false
 | _=>true
def YN(e:a8):Bool:=oV (λU=>true) (vx e)
def kP(I:Inf)(x:Nat)(e:a8):Bool:=oV (λn=>decide ((x,n)∈I.vis)&&eE n) (vx e)
def mI(I:Inf)(l:List a6)(i:Nat)(e:a8):Bool:=oV (λn=>decide (l[i]? =some n/\n≠("" :a6))&&f7 I.sc n) (vx e)
def mE(I:Inf)(m:a6)(e:a8):Bool:=oV (λn=>decide (n=m)&&f7 I.sc n) (vx e)
def mF(k:Const)(e:a8):Bool:=Hr (λp=>decide (p=k)) (vx e)
def BE(s:Tx)(e:a8):Bool:=cI s&&mF (.str (SS s)) e
def u9(I:Inf)(x a:Nat)(e:a8):Bool:=p9 (λo k U=>decide (k=an a/\a< 10)&&kP I x o) (vx e)
def oY(I:Inf)(k:E)(e:a8):Bool:=match k with
 | .bor x=>kP I x e
 | .v x=>kP I x e
 | .none=>mF .none e
 | .int i=>mF (.int i) e
 | .str s=>BE s e
 | .neg (.int i)=>wU (λo x=>decide (o= .USub)&&mF (.int i) x) (vx e)
 | .list []=>AI (λxs=>xs.isEmpty) (vx e)
 | .bf x a=>u9 I x a e
 | _=>false
def plain(b:Bool)(e:a8):Bool:=!b||yh e
def BK:List a8->Option (List a6)
 | []=>some []
 | e::es=>Ao (λn=>(BK es).map (n:: ·)) (vx e)
def BJ(e:a8):Option (List a6):=(Ao (λn=>some [n]) (vx e)).or (HC (λes=>(BK es).bind λns=>if ns.length=1 then none else some ns) (vx e))
def wI(I:Inf)(sc:cD)(xs:List (Nat×a6)):Bool:=
 decide (sc.kind= .function)&&sc.names.all (λy=>decide (y.2≠ .cell))&&sc.names.all (λy=>decide (y.2= .local->sc.names.lookup y.1=some .local))&&xs.all (λp=>decide (sc.names.lookup p.2=some .local)) &&
 sc.names.all (λy=>decide (y.2= .free->I.vis.any (λp=>p.2==y.1)=true/\(I.sc.names.lookup y.1=some .cell\/I.sc.names.lookup y.1=some .free)))&&decide (xs.map (·.1)).Nodup&&decide (xs.map (·.2)).Nodup&&!xs.isEmpty &&
 xs.all (λp=>decide (p.1∈I.offs/\(I.bor=true->p.1≠0)))
def wf(I:Inf)(sc:cD)(xs:List (Nat×a6)):Inf:=⟨kH sc I.sc,a0G I.vis sc xs,I.offs.filter λy=>!(xs.map (·.1)).contains y,I.bor⟩
def wd(I:Inf)(rg:Bool)(p:a8->Bool)(e:a8):Bool:=match rg with
 | false=>p e
 | true=>iP (λf as ks U=>nY (λa=>ks.isEmpty&&mE I "range" f&&(md a&&p a)) as) (vx e)
mutual
noncomputable def chk(p:Tb)(I:Inf)(b:Bool):E->a8->Bool
 | .bad,_=>true
 | .none,e=>plain b e&&mF .none e
 | .bool t,e=>plain b e&&mF (.bool t) e
 | .int i,e=>plain b e&&mF (.int i) e
 | .str s,e=>plain b e&&BE s e
 | .v x,e=>plain b e&&kP I x e
 | .mov x,e=>plain b e&&(decide (x≠0)&&kP I x e)
 | .f x a,e=>plain b e&&u9 I x a e
 | .fn f,e=>plain b e&&mI I p.fn f e
 | .gl i,e=>plain b e&&mI I p.gl i e
 | .b op x y,e=>plain b e&&Hq (λl o r=>decide (o=qU op)&&chk p I false x l&&chk p I false y r) (vx e)
 | .neg x,e=>plain b e&&wU (λo y=>decide (o= .USub)&&chk p I false x y) (vx e)
 | .not x,e=>wU (λo y=>decide (o= .Not)&&chk p I b x y) (vx e)
 | .and es,e=>AF (λo xs=>decide (o= .And)&&chkL p I b es xs) (vx e)
 | .or es,e=>AF (λo xs=>decide (o= .Or)&&chkL p I b es xs) (vx e)
 | .c Y x y,e=>AG (λl os rs=>nY (λo=>nY (λr=>decide (o=ik Y)&&!BX o r&&((oY I x l&&oY I y r)||(!eN x&&chk p I false x l&&(oY I y r||(!eN y&&chk p I false y r))))) rs) os) (vx e)
 | .cmp2 Y M x y z,e=>b&&AG (λl os rs=>ug (λo B=>ug (λr H=>decide (o=ik Y/\B=ik M)&&!lastMarks [o,B] [r,H]&&chk p I false x l&&chk p I false y r&&chk p I false z H) rs) os) (vx e)
 | .i t x y,e=>Ht (λet h eb=>chk p I true t et&&chk p I b x h&&chk p I b y eb) (vx e)
 | .t es,e=>plain b e&&tR (λxs=>decide (xs.length<=1000)&&chkL p I false es xs) (vx e)
 | .list es,e=>plain b e&&AI (λxs=>decide (xs.length<=1000)&&chkL p I false es xs) (vx e)
 | .dict ks es,e=>plain b e&&Hs (λq xs=>decide (q.length<=15)&&chkD p I ks es q xs) (vx e)
 | .attr x a,e=>plain b e&&p9 (λo Q U=>decide (Q=an a)&&t9 o&&chk p I false x o) (vx e)
 | .sub x i,e=>plain b e&&tQ (λv g=>su g&&((eN x&&!eN i&&oY I x v&&oY I i g)||(!eN x&&chk p I false x v&&chk p I false i g))) (vx e)
 | .slice x l u,e=>plain b e&&tQ (λv g=>chk p I false x v&&Hu (λle ue st=>st.isNone&&chkO p I l le&&chkO p I u ue) (vx g)) (vx e)
 | .call i es,e=>plain b e&&iP (λf as ks U=>ks.isEmpty&&decide (i< dP)&&mI I p.fn i f&&chkL p I false es as) (vx e)
 | .co i x es,e=>plain b e&&iP (λf as ks U=>Bz (λa as=>ks.isEmpty&&decide (i< dP)&&mI I p.fn i f&&md a&&chk p I false x a&&chkL p I false es as) as) (vx e)
 | .cb i x es,e=>plain b e&&iP (λf as ks U=>Bz (λa as=>ks.isEmpty&&decide (i< dP/\p.bo.getD i false=true)&&mI I p.fn i f&&kP I x a&&chkL p I false es as) as) (vx e)
 | .meth i x es,e=>plain b e&&iP (λf as ks pos=>ks.isEmpty&&decide (i< dP/\p.bo.getD i false=true/\as.length< 30)&&p9 (λo d w=>decide ((d,i)∈p.me/\(w.endLine==pos.line)=true)&&kP I x o) (vx f)&&chkL p I false es as) (vx e)
 | .cv x es,e=>plain b e&&iP (λf as ks U=>ks.isEmpty&&YN f&&chk p I false x f&&chkL p I false es as) (vx e)
 | .new ci es,e=>plain b e&&iP (λf as ks U=>ks.isEmpty&&decide (ci< 3/\nW ci< dP/\p.bo.getD (nW ci) false=true)&&mI I p.cl ci f&&chkL p I false es as) (vx e)
 | .isi x i,e=>plain b e&&iP (λf as ks U=>ug (λa k=>ks.isEmpty&&mE I "isinstance" f&&md a&&chk p I false x a&&((decide (i=0)&&mI I p.cl 0 k)||(decide (i=1)&&mE I "str" k))) as) (vx e)
 | .bi m es,e=>plain b e&&iP (λf as ks U=>ks.isEmpty&&mE I (sS m) f&&chkL p I false es as) (vx e)
 | .sm m x es,e=>plain b e&&iP (λf as ks pos=>ks.isEmpty&&decide (as.length< 30)&&p9 (λo d w=>decide (d=zE m/\(w.endLine==pos.line)=true)&&t9 o&&chk p I false x o) (vx f)&&chkL p I false es as) (vx e)
 | .lm m x es,e=>plain b e&&iP (λf as ks pos=>ks.isEmpty&&decide (as.length< 30)&&p9 (λo d w=>decide (d=zt m/\(w.endLine==pos.line)=true)&&kP I x o) (vx f)&&chkL p I false es as) (vx e)
 | .comp x xs rg it A,e=>plain b e&&AH (λN gs sc=>nY (λj=>decide (j.is_async=0)&&nB j.iter&&(BJ j.target).any λns=>decide (ns.length=xs.length)&&wI I sc (xs.zip ns)&&wd I rg (λa=>chk p I false it a) j.iter&&chkT p (wf I sc (xs.zip ns)) A j.ifs&&chk p (wf I sc (xs.zip ns)) false x N) gs) (vx e)
 | .z x y,e=>plain b e&&iP (λf as ks U=>nY (λa=>ks.isEmpty&&mE I "dict" f&&md a&&iP (λf' n G U=>G.isEmpty&&mE I "zip" f'&&ug (λO C=>md O&&chk p I false x O&&md C&&chk p I false y C) n) (vx a)) as) (vx e)
 | _,_=>false
noncomputable def chkL(k:Tb)(I:Inf)(b:Bool):List E->List a8->Bool
 | [],[]=>true
 | c::p,e::es=>md e&&chk k I b c e&&chkL k I b p es
 | _,_=>false
noncomputable def chkO(k:Tb)(I:Inf):Option E->Option a8->Bool
 | none,none=>true
 | some c,some e=>chk k I false c e
 | _,_=>false
noncomputable def chkT(k:Tb)(I:Inf):Option E->List a8->Bool
 | none,[]=>true
 | some c,[e]=>chk k I true c e
 | _,_=>false
noncomputable def chkD(q:Tb)(I:Inf):List Tx->List E->List (Option a8)->List a8->Bool
 | [],[],[],[]=>true
 | k::ks,c::y,some ke::p,e::es=>mF (.str (SS k)) ke&&chk q I false c e&&chkD q I ks y p es
 | _,_,_,_=>false
end
structure Glo(c:Cfg)(O:Tb)(G:cB)(n:Nat):Prop where
 H:Gd c
 B:Blt c
 L:Gls c
 F:Gf c
 N:Gn c
 R:Rng c
 fn:∀(i:Nat) nm,O.fn[i]? =some nm/\nm≠("" :a6)->c.fnm i=nm/\(c.mg nm).isSome=true
 gl:∀(i:Nat) nm,O.gl[i]? =some nm/\nm≠("" :a6)->c.gnm i=nm
 cl:∀(i:Nat) nm,O.cl[i]? =some nm/\nm≠("" :a6)->c.cnm i=nm
 me:∀nm i,(nm,i)∈O.me->MethOk c nm i
 K:∀i,i< dP->ll c G n (.ref (c.fa i)) i (O.bo.getD i false)
 KC:∀l T,c.lam l=some T->zP c G n l
 kp:∀i,i< dP->kZ c.K (.ref (c.fa i))=true
theorem bY(h:(a&&b)=true):a=true/\b=true:=gY.mp h
structure B3(a b d:Bool):Prop where
 x:a=true
 y:b=true
 z:d=true
theorem b3(h:(a&&b&&d)=true):B3 a b d:=⟨(bY (bY h).1).1,(bY (bY h).1).2,(bY h).2⟩
structure B4(a b d e:Bool):Prop where
 x:a=true
 y:b=true
 z:d=true
 u:e=true
theorem b4(h:(a&&b&&d&&e)=true):B4 a b d e:=⟨(b3 (bY h).1).1,(b3 (bY h).1).2,(b3 (bY h).1).3,(bY h).2⟩
structure B5(a b d e f:Bool):Prop where
 x:a=true
 y:b=true
 z:d=true
 u:e=true
 v:f=true
theorem b5(h:(a&&b&&d&&e&&f)=true):B5 a b d e f:=⟨(b4 (bY h).1).1,(b4 (bY h).1).2,(b4 (bY h).1).3,(b4 (bY h).1).4,(bY h).2⟩
theorem lB(h:(!a)=true):a=false:=by simpa using h
theorem oJ(h:md e=true):∀a p,e≠ .Starred a p:=λa p q=>by rw [q] at h;exact gG h
theorem lj(h:kP I x e=true):∃n p,e= .Name n p/\(x,n)∈I.vis/\eE n=true:=by exact cU (pY h) λn p k h=>xA (bY h) λq y=>(d6 n p ((cV e).symm.trans k) (of_decide_eq_true q) y)
theorem nw(h:mI I l i e=true):∃n p,e= .Name n p/\(l[i]? =some n/\n≠("" :a6))/\f7 I.sc n=true:=by exact cU (pY h) λn p k h=>xA (bY h) λq y=>(d6 n p ((cV e).symm.trans k) (of_decide_eq_true q) y)
theorem nu(h:mE I m e=true):∃p,e= .Name m p/\f7 I.sc m=true:=by refine cU (pY h) λn p k h=>xA (bY h) λq y=>?_;clear h;obtain rfl:=of_decide_eq_true q;exact (a7 p ((cV e).symm.trans k) y)
theorem l9{k:Const}(h:mF k e=true):∃j p,e= .Constant k j p:=by refine d8 (Ov h) λy j p q h=>?_;obtain rfl:=of_decide_eq_true h;exact (ix j p ((cV e).symm.trans q))
theorem vt(h:u9 I x a e=true):∃n k p,e= .Attribute (.Name n k) (an a) p/\(x,n)∈I.vis/\eE n=true/\a< 10:=by refine d8 (qa h) λo u p v h=>xA (bY h) λy z=>xA (of_decide_eq_true y) λq t=>?_;clear y;subst q;refine c0 (lj z) λn k q w r=>?_;clear z h;subst q;exact (lb n k p ((cV e).symm.trans v) w r t)
section
variable {c:Cfg}{O:Tb}{G:cB}{n:Nat}{I:Inf}{A:cy}{X:Cx}{Y:cz}{M:a4×a6}{Q:E}{e:a8}
theorem qf(u:Glo c O G n)(w:Ctx c n I.bor M I.sc I.vis I.offs A X Y)(h:oY I Q e=true):TQ c G A X Y Q e:=by
 induction Q using E.casesOn with
 | bor x=>refine c0 (lj h) λn p k z q=>?_;clear h;subst k;exact Tf u.H w.eo z q
 | v x=>refine c0 (lj h) λn p k z q=>?_;clear h;subst k;exact Tk u.H w.eo z q
 | none=>refine fY (l9 h) λj p k=>?_;clear h;subst k;exact PT u.H
 | int i=>refine fY (l9 h) λj p k=>?_;clear h;subst k;exact Th u.H
 | str s=>refine xA (bY h) λz q=>?_;refine fY (l9 q) λj p k=>?_;clear h q;subst k;exact Tj u.H rfl z
 | neg x=>induction x using E.casesOn with
  | int i=>refine d8 (yK h) λo y p r h=>xA (bY h) λz q=>?_;obtain rfl:=of_decide_eq_true z;refine fY (l9 q) λj p' k=>?_;clear q h;subst k;rw [<-cV e,r];exact Ti u.H
  | _=>exact ff h
 | list es=>induction es using bO with
  | nil=>
   refine cU (DW h) λxs p r h=>?_;induction xs using bO with
   | nil=>rw [<-cV e,r];exact PR u.H
   | cons=>exact ff h
  | cons=>exact ff h
 | bf x a=>refine gq (vt h) λn l p k z q t=>?_;clear h;subst k;exact PQ u.H w.eo z q t
 | _=>exact ff h
def TM(b:Bool)(c:Cfg)(G:cB)(A:cy)(X:Cx)(Y:cz)(Q:E)(e:a8):Prop:=match b with
 | false=>T c G A X Y Q e
 | true=>TB c G A X Y Q e
theorem TM.of(H:Gd c){b:Bool}(h:plain b e=true)(t:T c G A X Y Q e):TM b c G A X Y Q e:=by
 induction b with
 | false=>exact t
 | true=>exact VO H h t
inductive TLM(b:Bool)(c:Cfg)(G:cB)(A:cy)(X:Cx)(Y:cz):List E->List a8->Prop
 | nil:TLM b c G A X Y [] []
 | cons {Q e ces es}:md e=true->TM b c G A X Y Q e->TLM b c G A X Y ces es->TLM b c G A X Y (Q::ces) (e::es)
theorem TLM.tl(t:TLM false c G A X Y k es):TL c G A X Y k es:=by
 induction t with
 | nil=>exact .nil
 | cons h t U p=>exact .cons (oJ h) t p
theorem TLM.a2{es:List a8}(t:TLM false c G A X Y k es):All2 (T c G A X Y) k es:=by
 induction t with
 | nil=>exact .nil
 | cons h t U p=>exact .cons t p
theorem TLM.b2(t:TLM true c G A X Y k es):All2 (TB c G A X Y) k es:=by
 induction t with
 | nil=>exact .nil
 | cons h t U p=>exact .cons t p
theorem VC(h:BK es=some ns){xs:List Nat}(k:ns.length=xs.length):TgE (xs.zip ns) es:=by
 induction es generalizing ns xs with
 | nil=>
  cases h;induction xs using bO with
  | nil=>exact .nil
  | cons=>injection k
 | cons e es z=>
  refine cU (Dm h) λn p y h=>a5 (iW.mp h) λu q v=>?_;clear h;subst v;induction xs using bO with
  | nil=>injection k
  | cons x xs=>rw [<-cV e,y];exact .cons (z q (iX k))
theorem VB(h:BJ e=some ns){xs:List Nat}(q:ns.length=xs.length):TgtE (xs.zip ns) e:=by
 rw [<-cV e];rcases Option.or_eq_some_iff.mp h with h | ⟨U,h⟩
 .refine cU (Dm h) λn p z h=>?_;rw [z];obtain rfl:=bv h;induction xs using bO with
  | nil=>injection q
  | cons x xs=>induction xs using bO with
   | nil=>exact .one
   | cons=>cases q
 refine d8 (OM h) λes k p z h=>a5 (gZ.mp h) λu hn h=>?_;rw [z];by_cases y:u.length=1
 .rw [if_pos y] at h;injection h
 rw [if_neg y] at h;obtain rfl:=bv h.symm;exact .many (by rw [List.length_zip,<-q,Nat.min_self];exact y) (VC hn q)
theorem Sn{xs:List (Nat×a6)}(h:wI I sc xs=true):CompSc I.sc I.vis sc xs/\∀p∈xs,p.1∈I.offs/\(I.bor=true->p.1≠0):=by unfold wI at h;simp only [dF,decide_eq_true_eq,dM,jF] at h;refine xA h λg m=>?_;obtain ⟨⟨⟨⟨⟨⟨⟨q,z⟩,u⟩,v⟩,r⟩,t⟩,l⟩,k⟩:=g;exact ⟨⟨q,z,u,v,λy f j=>xA (r y f j) λa b=>a5 (jY.mp a) λp i e=>(a7 p.1 (by rw [<-beq_iff_eq.mp e];exact i) b),t,l,λw=>by rw [w] at k;injection k⟩,m⟩
end
section
variable {c:Cfg}{Y:Tb}{G:cB}{n:Nat}{A:cy}{X:Cx}{Q:cz}{O:a4×a6}
theorem AB(p:Glo c Y G n){i:Nat}(h:i< dP)(k:Y.bo.getD i false=true):ll c G n (.ref (c.fa i)) i true:=by have:=p.K i h;rw [k] at this;exact this
theorem ek{b:Bool}(H:Gd c){p:Bool}(h:(plain b e&&p)=true)(t:p=true->T c G A X Q k e):TM b c G A X Q k e:=.of H (bY h).1 (t (bY h).2)
theorem je{k:Type}{l:List k}(h:l.isEmpty=true):l=[]:=lP.mp h
theorem Gz(w:Glo c Y G n){I:Inf}(m:Ctx c n I.bor O I.sc I.vis I.offs A X Q){rg:Bool}{it:E}{p:a8->Bool}{e:a8}(h:wd I rg p e=true)(t:∀e,p e=true->T c G A X Q it e):TI c G A X Q rg it e:=by
 induction rg with
 | false=>exact λj st y ns v=>Nl w.H (t e h) j st y ns v
 | true=>obtain ⟨f,as,ks,pos,i,h⟩:=j8 h;rw [<-cV e,i];obtain ⟨a,rfl,h⟩:=ql h;obtain ⟨z,u⟩:=bY h;obtain ⟨z,o⟩:=bY z;obtain ⟨u,d⟩:=bY u;obtain rfl:=je z;obtain ⟨q,rfl,M⟩:=nu o;unfold TI;intro C N q0 r l g s k K j st y ns v;exact Nm w.H w.R m.eo M (oJ u) (t a d) j st y ns v
def PE(c:Cfg)(Y:Tb)(G:cB)(n:Nat)(k:E):Prop:=∀{b:Bool} {I:Inf} {e:a8} {A X Q O},chk Y I b k e=true->Ctx c n I.bor O I.sc I.vis I.offs A X Q->TM b c G A X Q k e
def PL(c:Cfg)(Y:Tb)(G:cB)(n:Nat)(k:List E):Prop:=(∀{b:Bool} {I:Inf} {es:List a8} {A X Q O},chkL Y I b k es=true->Ctx c n I.bor O I.sc I.vis I.offs A X Q->TLM b c G A X Q k es) /\ ∀{I:Inf} {ks:List Tx} {p:List (Option a8)} {es:List a8} {A X Q O},chkD Y I ks k p es=true->Ctx c n I.bor O I.sc I.vis I.offs A X Q->TD c G A X Q ks k p es
def PO(c:Cfg)(Y:Tb)(G:cB)(n:Nat)(k:Option E):Prop:=(∀{I:Inf} {e:Option a8} {A X Q O},chkO Y I k e=true->Ctx c n I.bor O I.sc I.vis I.offs A X Q->TO c G A X Q k e) /\ ∀{I:Inf} {es:List a8} {A X Q O},chkT Y I k es=true->Ctx c n I.bor O I.sc I.vis I.offs A X Q->TT1 c G A X Q k es
theorem UC(p:Glo c Y G n):PE c Y G n (.bad):=λ{b I e A X Q O} h k=>by
  clear h;induction b with
  | false=>exact λg s j ns=>absurd rfl ns
  | true=>exact λg s j ns=>absurd rfl ns
theorem RP(k:Glo c Y G n):PE c Y G n (.none):=λ{b I e A X Q O} h y=>ek k.H h λh=>by refine fY (l9 h) λj p q=>?_;clear h;subst q;exact TC k.H
theorem RH(k:Glo c Y G n){t:Bool}:PE c Y G n (.bool t):=λ{b I e A X Q O} h y=>ek k.H h λh=>by refine fY (l9 h) λj p q=>?_;clear h;subst q;exact Ts k.H
theorem UH(k:Glo c Y G n){t:Int}:PE c Y G n (.int t):=λ{b I e A X Q O} h y=>ek k.H h λh=>by refine fY (l9 h) λj p q=>?_;clear h;subst q;exact VY k.H
theorem UO(q:Glo c Y G n){t:Tx}:PE c Y G n (.str t):=λ{b I e A X Q O} h u=>ek q.H h λh=>by refine xA (bY h) λy k=>?_;refine fY (l9 k) λj p z=>?_;clear h k;subst z;exact W4 q.H rfl y
theorem UR(k:Glo c Y G n){x:Nat}:PE c Y G n (.v x):=λ{b I e A X Q O} h q=>ek k.H h λh=>by refine c0 (lj h) λn p u y z=>?_;clear h;subst u;exact W7 k.H q.eo y z
theorem UJ(k:Glo c Y G n){x:Nat}:PE c Y G n (.mov x):=λ{b I e A X Q O} h q=>ek k.H h λh=>by
  refine xA (bY h) λy h=>c0 (lj h) λn p v z u=>?_;subst v;induction x using gF with
  | zero=>exact absurd rfl (of_decide_eq_true y)
  | succ x=>exact W0 k.H q.eo z u
theorem UF(k:Glo c Y G n){x:Nat}{a:Nat}:PE c Y G n (.f x a):=λ{b I e A X Q O} h q=>ek k.H h λh=>by refine gq (vt h) λn w p v y z u=>?_;clear h;subst v;exact VV k.H q.eo y z u
theorem Xl(k:Glo c Y G n){f:Nat}:PE c Y G n (.fn f):=λ{b I e A X Q O} h z=>ek k.H h λh=>by refine c0 (nw h) λn p q y u=>?_;subst q;refine xA (k.fn f n y) λq v=>?_;clear y h;subst q;exact Ym k.H z.eo u v
theorem Xm(k:Glo c Y G n){i:Nat}:PE c Y G n (.gl i):=λ{b I e A X Q O} h q=>ek k.H h λh=>by refine c0 (nw h) λn p u y z=>?_;subst u;clear h;obtain rfl:=k.gl i n y;exact Yn k.H k.L q.eo z
theorem UD(q:Glo c Y G n){j:Op}{x:E}{y:E}(t:PE c Y G n x)(m:PE c Y G n y):PE c Y G n (.b j x y):=λ{b I e A X Q O} h k=>ek q.H h λh=>by refine eK (Ou h) λl o r p z h=>?_;obtain ⟨u,v,w⟩:=b3 h;clear h;obtain rfl:=of_decide_eq_true u;rw [<-cV e,z];exact VS q.H (t v k) (m w k)
theorem UK(k:Glo c Y G n){x:E}(w:PE c Y G n x):PE c Y G n (.neg x):=λ{b I e A X Q O} h q=>ek k.H h λh=>by refine d8 (yK h) λo y p z h=>xA (bY h) λu v=>?_;clear h;obtain rfl:=of_decide_eq_true u;rw [<-cV e,z];exact W1 k.H (w v q)
theorem UM(w:Glo c Y G n){x:E}(v:PE c Y G n x):PE c Y G n (.not x):=λ{b I e A X Q O} h q=>by
  refine d8 (yK h) λo y p z h=>xA (bY h) λu k=>?_;obtain rfl:=of_decide_eq_true u;rw [<-cV e,z];have t:=v k q;clear k h;induction b with
  | false=>exact W3 w.H t
  | true=>exact Te t
theorem UB(v:Glo c Y G n){es:List E}(k:PL c Y G n es):PE c Y G n (.and es):=λ{b I e A X Q O} h y=>by
  refine d8 (DU h) λo xs p z h=>xA (bY h) λu q=>?_;obtain rfl:=of_decide_eq_true u;rw [<-cV e,z];have t:=k.1 q y;clear q h;induction b with
  | false=>exact VQ v.H t.a2
  | true=>exact Ta t.b2
theorem Xo(v:Glo c Y G n){es:List E}(k:PL c Y G n es):PE c Y G n (.or es):=λ{b I e A X Q O} h y=>by
  refine d8 (DU h) λo xs p z h=>xA (bY h) λu q=>?_;obtain rfl:=of_decide_eq_true u;rw [<-cV e,z];have t:=k.1 q y;clear q h;induction b with
  | false=>exact Yp v.H t.a2
  | true=>exact VP t.b2
theorem UE(u:Glo c Y G n){M:Cm}{x:E}{y:E}(g:PE c Y G n x)(N:PE c Y G n y):PE c Y G n (.c M x y):=λ{b I e A X Q O} h k=>by
  refine eK (DV h) λl os rs p m h=>a5 (ql h) λo j h=>a5 (ql h) λr er h=>?_;obtain ⟨i,f,z⟩:=b3 h;clear h;obtain rfl:=of_decide_eq_true i;rw [<-cV e,m,j,er];clear m j er h i;have t:CmpT c G A X Q x y l r:=by
   rcases pM.mp z with z | z
   .exact xA (bY z) λv q=>.qq (qf u k v) (qf u k q)
   obtain ⟨v,w,q⟩:=b3 z;rcases pM.mp q with q | q
   .exact .pq (lB v) (g w k) (qf u k q)
   exact xA (bY q) λd s=>.pp (lB v) (lB d) (g w k) (N s k)
  induction b with
  | false=>exact VU u.H k.cb.ca (lB f) t
  | true=>exact Tc u.H k.cb.ca (lB f) t
theorem RJ(N:Glo c Y G n){v:Cm}{q:Cm}{x:E}{y:E}{z:E}(d:PE c Y G n x)(s:PE c Y G n y)(M:PE c Y G n z):PE c Y G n (.cmp2 v q x y z):=λ{b I e A X Q O} h k=>by refine xA (bY h) λm h=>?_;subst m;refine eK (DV h) λl os rs p w h=>cU (vF h) λo a t h=>cU (vF h) λr r' er h=>?_;obtain ⟨u,j,i,f,g⟩:=b5 h;refine xA (of_decide_eq_true u) λC B=>?_;subst C;clear h u;subst B;rw [<-cV e,w,t,er];exact PP N.H k.cb.ca (lB j) (d i k) (s f k) (M g k)
theorem UG(d:Glo c Y G n){t:E}{x:E}{y:E}(it:PE c Y G n t)(m:PE c Y G n x)(j:PE c Y G n y):PE c Y G n (.i t x y):=λ{b I e A X Q O} h k=>by
  refine eK (Oy h) λo f g p r h=>?_;obtain ⟨l,q,z⟩:=b3 h;rw [<-cV e,r];have u:=it l k;have v:=m q k;have w:=j z k;clear h q z;induction b with
  | false=>exact VW u v w
  | true=>exact Td u v w
theorem UQ(y:Glo c Y G n){es:List E}(q:PL c Y G n es):PE c Y G n (.t es):=λ{b I e A X Q O} h z=>ek y.H h λh=>by refine d8 (yq h) λxs k p u h=>xA (bY h) λv w=>?_;rw [<-cV e,u];exact W6 y.H (of_decide_eq_true v) (q.1 w z).tl
theorem RN(q:Glo c Y G n){es:List E}(k:PL c Y G n es):PE c Y G n (.list es):=λ{b I e A X Q O} h y=>ek q.H h λh=>by refine cU (DW h) λxs p z h=>xA (bY h) λu v=>?_;rw [<-cV e,z];exact Tz q.H (of_decide_eq_true u) (k.1 v y).tl
theorem RL(y:Glo c Y G n){ks:List Tx}{es:List E}(k:PL c Y G n es):PE c Y G n (.dict ks es):=λ{b I e A X Q O} h z=>ek y.H h λh=>by refine d8 (Ox h) λq xs p u h=>xA (bY h) λv w=>?_;rw [<-cV e,u];exact Tu y.H (of_decide_eq_true v) (k.2 w z)
theorem RG(k:Glo c Y G n){x:E}{a:Nat}(r:PE c Y G n x):PE c Y G n (.attr x a):=λ{b I e A X Q O} h y=>ek k.H h λh=>by refine d8 (qa h) λo q p z h=>?_;obtain ⟨u,v,w⟩:=b3 h;clear h;obtain rfl:=of_decide_eq_true u;rw [<-cV e,z];exact Tr k.H v (r w y)
theorem UP(q:Glo c Y G n){x:E}{i:E}(m:PE c Y G n x)(l:PE c Y G n i):PE c Y G n (.sub x i):=λ{b I e A X Q O} h y=>ek q.H h λh=>by
  refine d8 (vn h) λv j p r h=>xA (bY h) λw k=>?_;rw [<-cV e,r];rcases pM.mp k with k | k
  .obtain ⟨k,z,u,t⟩:=b4 k;exact TE q.H w k (lB z) (qf q y u) (qf q y t)
  obtain ⟨k,z,u⟩:=b3 k;exact W5 q.H w (lB k) (m z y) (l u y)
theorem OY(y:Glo c Y G n){x:E}{l:Option E}{u:Option E}(g:PE c Y G n x)(i:PO c Y G n l)(f:PO c Y G n u):PE c Y G n (.slice x l u):=λ{b I e A X Q O} h q=>ek y.H h λh=>by refine d8 (vn h) λv j p z h=>xA (bY h) λr k=>eK (OB k) λo s st d w k=>?_;obtain ⟨k,t,m⟩:=b3 k;obtain rfl:=Jx.mp k;rw [<-cV e,z,<-cV j,w];exact Q4 y.H (g r q) (i.1 t q) (f.1 m q)
theorem RI(k:Glo c Y G n){i:Nat}{es:List E}(z:PL c Y G n es):PE c Y G n (.call i es):=λ{b I e A X Q O} h y=>ek k.H h λh=>by refine eK (j8 h) λf as ks p u h=>?_;obtain ⟨w,l,r,t⟩:=b4 h;refine c0 (nw r) λm q v k1 k2=>xA (k.fn i m k1) λj k3=>?_;clear k1;subst j;rw [<-cV e,u,je w,v];exact Fl k.H k.F y.eo (y.cb.mono (kT n)) (k.K i (of_decide_eq_true l)) k2 k3 (z.1 t y).tl
theorem OW(k:Glo c Y G n){i:Nat}{x:E}{es:List E}(s:PE c Y G n x)(v:PL c Y G n es):PE c Y G n (.co i x es):=λ{b I e A X Q O} h y=>ek k.H h λh=>by refine eK (j8 h) λf z ks p w h=>cU (EZ h) λa as r h=>xA (bY h) λu o=>?_;obtain ⟨u,d,l,j,g⟩:=b5 u;refine c0 (nw l) λm q t k1 k2=>xA (k.fn i m k1) λM k3=>?_;clear k1;subst M;rw [<-cV e,w,je u,r,t];exact Q2 k.H k.F y.eo (y.cb.mono (kT n)) (k.K i (of_decide_eq_true d)) k2 k3 (oJ j) (s g y) (v.1 o y).tl
theorem OV(k:Glo c Y G n){i:Nat}{x:Nat}{es:List E}(u:PL c Y G n es):PE c Y G n (.cb i x es):=λ{b I e A X Q O} h z=>ek k.H h λh=>by refine eK (j8 h) λf y ks p v h=>cU (EZ h) λa as w h=>?_;obtain ⟨l,j,g,o,d⟩:=b5 h;refine xA (of_decide_eq_true j) λM s=>c0 (nw g) λm q r k1 k2=>xA (k.fn i m k1) λt k3=>c0 (lj o) λnm C en N k5=>?_;clear k1;subst t;rw [<-cV e,v,je l,w,r,en];exact Q1 k.H k.F z.eo (z.cb.mono (kT n)) (AB k M s) k2 k3 N k5 (u.1 d z).tl
theorem RO(q:Glo c Y G n){i:Nat}{x:Nat}{es:List E}(u:PL c Y G n es):PE c Y G n (.meth i x es):=λ{b I e A X Q O} h y=>ek q.H h λh=>by refine eK (j8 h) λf as ks p v h=>?_;obtain ⟨t,l,z,m⟩:=b4 h;refine dm (of_decide_eq_true l) λs d M=>d8 (qa z) λo a B w z=>xA (bY z) λj g=>xA (of_decide_eq_true j) λN k=>c0 (lj g) λnm np r C k5=>?_;rw [<-cV e,v,<-cV f,w,je t,r];exact TA q.H y.eo (y.cb.mono (kT n)) (AB q s d) (q.me _ _ N) C k5 k M (u.1 m y).tl
theorem OX(k:Glo c Y G n){x:E}{es:List E}(g:PE c Y G n x)(z:PL c Y G n es):PE c Y G n (.cv x es):=λ{b I e A X Q O} h y=>ek k.H h λh=>by refine eK (j8 h) λf as ks p w h=>?_;obtain ⟨r,v,t,l⟩:=b4 h;obtain rfl:=je r;refine cU (pY v) λm q u U=>?_;rw [cV] at u;clear v h;subst u;rw [<-cV e,w];exact Q3 k.H (y.cb.mono (kT n)) k.kp (λi j U=>⟨_,k.K i j⟩) k.KC (g t y) (z.1 l y).tl
theorem UL(k:Glo c Y G n){ci:Nat}{es:List E}(z:PL c Y G n es):PE c Y G n (.new ci es):=λ{b I e A X Q O} h y=>ek k.H h λh=>by refine eK (j8 h) λf as ks p u h=>?_;obtain ⟨w,r,t,l⟩:=b4 h;refine dm (of_decide_eq_true r) λi g j=>c0 (nw t) λm q v k1 k2=>?_;obtain rfl:=k.cl ci m k1;rw [<-cV e,u,je w,v];exact W2 k.H k.F k.N y.eo y.cb i (AB k g j) k2 (z.1 l y).tl
theorem UI(y:Glo c Y G n){x:E}{i:Nat}(N:PE c Y G n x):PE c Y G n (.isi x i):=λ{b I e A X Q O} h u=>ek y.H h λh=>by
  refine eK (j8 h) λf as ks p t h=>cU (vF h) λa k l h=>?_;obtain ⟨g,o,d,s,z⟩:=b5 h;refine a5 (nu o) λq j M=>?_;rw [<-cV e,t,je g,l,j];clear t l j g o h;rcases pM.mp z with z | z
  .refine xA (bY z) λr w=>c0 (nw w) λm C v k1 k2=>?_;rw [v];exact Gj y.H y.B u.eo M k2 (.inl ⟨of_decide_eq_true r,(y.cl 0 m k1).symm⟩) (oJ d) (N s u)
  refine xA (bY z) λr w=>a5 (nu w) λC v k2=>?_;rw [v];exact Gj y.H y.B u.eo M k2 (.inr ⟨of_decide_eq_true r,rfl⟩) (oJ d) (N s u)
theorem Xk(z:Glo c Y G n){m:Bi}{es:List E}(y:PL c Y G n es):PE c Y G n (.bi m es):=λ{b I e A X Q O} h k=>ek z.H h λh=>by refine eK (j8 h) λf as ks p u h=>?_;obtain ⟨w,r,t⟩:=b3 h;refine a5 (nu r) λq v l=>?_;rw [<-cV e,u,je w,v];exact Yl z.H z.B k.cb.ca k.eo l (y.1 t k).tl
theorem Xp(v:Glo c Y G n){m:Sm}{x:E}{es:List E}(d:PE c Y G n x)(z:PL c Y G n es):PE c Y G n (.sm m x es):=λ{b I e A X Q O} h y=>ek v.H h λh=>by refine eK (j8 h) λf as ks p w h=>?_;obtain ⟨t,l,q,j⟩:=b4 h;refine d8 (qa q) λo N M r q=>?_;obtain ⟨u,i,g⟩:=b3 q;refine xA (of_decide_eq_true u) λs k=>?_;clear q u;subst s;rw [<-cV e,w,<-cV f,r,je t];exact Yq v.H y.cb.ca i k (of_decide_eq_true l) (d g y) (z.1 j y).tl
theorem Xn(v:Glo c Y G n){m:Lm}{x:Nat}{es:List E}(y:PL c Y G n es):PE c Y G n (.lm m x es):=λ{b I e A X Q O} h z=>ek v.H h λh=>by refine eK (j8 h) λf as ks p w h=>?_;obtain ⟨l,j,q,i⟩:=b4 h;refine d8 (qa q) λo N M r q=>xA (bY q) λu g=>xA (of_decide_eq_true u) λs k=>?_;clear q u;subst s;refine c0 (lj g) λnm C t d k5=>?_;rw [<-cV e,w,<-cV f,r,je l,t];exact Yo v.H z.eo d k5 k (of_decide_eq_true j) (y.1 i z).tl
theorem RM(m:Glo c Y G n){x y:E}(d:PE c Y G n x)(s:PE c Y G n y):PE c Y G n (.z x y):=λ{b I e A X Q O} h u=>ek m.H h λh=>by refine eK (j8 h) λf as ks p j h=>a5 (ql h) λa v h=>?_;obtain ⟨r,t,U,k⟩:=b4 h;refine a5 (nu t) λq w o=>eK (j8 k) λf' g N p' i h=>?_;rw [<-cV e,j,je r,v,w,<-cV a,i];clear j v w i r t k;obtain ⟨r,t,k⟩:=b3 h;refine a5 (nu t) λq' w l=>cU (vF k) λC a2 v k=>?_;obtain ⟨k1,k2,k3,M⟩:=b4 k;rw [je r,v,w];exact Tw m.H m.B u.cb.ca u.eo o l (.cons (oJ k1) (d k2 u) (.cons (oJ k3) (s M u) .nil))
inductive CompP(c:Cfg)(Y:Tb)(G:cB)(n:Nat)(I:Inf)(A:cy)(X:Cx)(Q:cz)(x:E)(xs:List Nat)(rg:Bool)(it:E)(cc:Option E):a8->Prop
 | mk {elt target iter:a8} {ifs:List a8} {sc:cD} {pos:c8} {ps:List (Nat×a6)} (hxs:ps.map (·.1)=xs) (cs:CompSc I.sc I.vis sc ps) (hxo:∀p∈ps,p.1∈I.offs/\(I.bor=true->p.1≠0)) (tgt:TgtE ps target) (hset:nB iter=true) (ti:TI c G A X Q rg it iter)
   (te:∀X' env' O,Ctx c n I.bor O (kH sc I.sc) (a0G I.vis sc ps) (I.offs.filter λy=>!(ps.map (·.1)).contains y) A X' env'->TT1 c G A X' env' cc ifs/\T c G A X' env' x elt):CompP c Y G n I A X Q x xs rg it cc (.ListComp elt [⟨target,iter,ifs,0⟩] sc pos)
theorem D0(b:Glo c Y G n){I:Inf}{x:E}{xs:List Nat}{rg:Bool}{it:E}{u:Option E}{e:a8}(H:PE c Y G n x)(r:PE c Y G n it)(w:PO c Y G n u)(t:Ctx c n I.bor O I.sc I.vis I.offs A X Q)(h:AH (λy j sc=>nY (λk=>decide (k.is_async=0)&&nB k.iter&&(BJ k.target).any λns=>decide (ns.length=xs.length)&&wI I sc (xs.zip ns)&&wd I rg (λa=>chk Y I false it a) k.iter&&chkT Y (wf I sc (xs.zip ns)) u k.ifs&&chk Y (wf I sc (xs.zip ns)) false x y) j) (vx e)=true):CompP c Y G n I A X Q x xs rg it u e:=by refine eK (OA h) λy j sc p l h=>?_;rw [<-cV e,l];refine a5 (ql h) λk ρ h=>?_;subst ρ;obtain ⟨o,i,z⟩:=b3 h;obtain ⟨tg,iter,B,ia⟩:=k;clear l h;obtain rfl:=of_decide_eq_true o;dsimp only at i z;refine a5 ((uU _ _).mp z) λns hn z=>?_;obtain ⟨d,s,M,N,C⟩:=b5 z;have f:=of_decide_eq_true d;exact xA (Sn s) λg v=>.mk (xu (gW f.symm)) g v (VB hn f) i (Gz b t M λe h=>r h t) λX' m O q=>⟨w.2 N q,H C q⟩
theorem RK(w:Glo c Y G n){x:E}{xs:List Nat}{rg:Bool}{it:E}{r:Option E}(j:PE c Y G n x)(u:PE c Y G n it)(z:PO c Y G n r):PE c Y G n (.comp x xs rg it r):=λ{b I e A X Q O} h t=>ek w.H h λh=>by obtain ⟨rfl,m,y,v,p,f,i⟩:=D0 w j u z t h;exact Tt w.H t m y v p f λl k q=>i l k _ q
theorem EY:PL c Y G n []:=⟨λ{b I es A X Q O} h U=>by
 induction es using bO with
 | nil=>exact .nil
 | cons=>exact ff h,λ{I ks k es A X Q O} h U=>by
 rcases ks with U | ⟨U,U⟩<;>rcases k with U | ⟨U | U,U⟩<;>rcases es with U | ⟨U,U⟩<;>first | exact .nil | exact ff h⟩
theorem E0(i:PE c Y G n r)(is:PL c Y G n u):PL c Y G n (r::u):=⟨λ{b I es A X Q O} h y=>by
 induction es using bO with
 | nil=>exact ff h
 | cons e es=>obtain ⟨z,v,w⟩:=b3 h;exact .cons z (i v y) (is.1 w y),λ{I ks q es A X Q O} h y=>by
 rcases ks with U | ⟨k,ks⟩<;>rcases q with U | ⟨U | ke,q⟩<;>rcases es with U | ⟨e,es⟩<;>first
 | exact ff h
 | (obtain ⟨z,v,w⟩:=b3 h;refine fY (l9 z) λj p t=>?_;clear h z;subst t;exact .cons rfl (i v y) (is.2 w y))⟩
theorem E1:PO c Y G n none:=⟨λ{I e A X Q O} h U=>by
 induction e with
 | none=>exact .none
 | some=>exact ff h,λ{I es A X Q O} h U=>by
 induction es using bO with
 | nil=>exact .none
 | cons=>exact ff h⟩
theorem E2(i:PE c Y G n p):PO c Y G n (some p):=⟨λ{I e A X Q O} h k=>by
 induction e with
 | none=>exact ff h
 | some e=>exact .some (i h k),λ{I es A X Q O} h k=>by
 match es,h with
 | [e],h=>exact .some (i h k)⟩
theorem gJ(p:Glo c Y G n)(ce:E):PE c Y G n ce:=E.rec (motive_1:=PE c Y G n) (RP p) (λa0=>@RH c Y G n p a0) (λa0=>@UH c Y G n p a0) (λa0=>@UO c Y G n p a0) (UC p) (λa0=>@UR c Y G n p a0) (λa0=>@UJ c Y G n p a0) (λa0=>λh U=>ff h) (λa0 k=>@UF c Y G n p a0 k) (λa0 k=>λh U=>ff h) (λa0=>@Xl c Y G n p a0) (λa0=>@Xm c Y G n p a0) (λa0 k z y u=>@UD c Y G n p a0 k z y u) (λa0 q=>@UK c Y G n p a0 q) (λa0 q=>@UM c Y G n p a0 q) (λa0 q=>@UB c Y G n p a0 q) (λa0 q=>@Xo c Y G n p a0 q) (λa0 k z y u=>@UE c Y G n p a0 k z y u) (λa0 k z v w u r t=>@RJ c Y G n p a0 k z v w u r t) (λa0 k z q y u=>@UG c Y G n p a0 k z q y u) (λa0 q=>@UQ c Y G n p a0 q) (λa0 q=>@RN c Y G n p a0 q) (λa0 k y=>@RL c Y G n p a0 k y) (λa0 k q=>@RG c Y G n p a0 k q) (λa0 k q y=>@UP c Y G n p a0 k q y) (λa0 k z q y u=>@OY c Y G n p a0 k z q y u) (λa0 k y=>@RI c Y G n p a0 k y) (λa0 k z y u=>@OW c Y G n p a0 k z y u) (λa0 k z u=>@OV c Y G n p a0 k z u) (λa0 k z u=>@RO c Y G n p a0 k z u) (λa0 k q y=>@OX c Y G n p a0 k q y) (λa0 k y=>@UL c Y G n p a0 k y) (λa0 k q=>@UI c Y G n p a0 k q) (λa0 k y=>@Xk c Y G n p a0 k y) (λa0 k z y u=>@Xp c Y G n p a0 k z y u) (λa0 k z u=>@Xn c Y G n p a0 k z u) (λa0 k q y=>@RM c Y G n p a0 k q y) (λa0 k z v w q r t=>@RK c Y G n p a0 k z v w q r t) (λa0 k=>λh U=>ff h) EY (λU U i is=>E0 i is) E1 (λU i=>E2 i) ce
end
inductive Sx where
 | a (t v:a8) (p:c8) | aug (t:a8) (o:mT) (v:a8) (p:c8) | ite (t:a8) (a b:List cw) (p:c8) | w (t:a8) (b:List cw) (p:c8) | forS (t i:a8) (b:List cw) (p:c8)
 | ret (v:Option a8) (p:c8) | brk (p:c8) | expr (e:a8) (p:c8) | raise (e:a8) (p:c8) | tryS (b:cw) (t:a8) (n:a6) (h:cw) (hp p:c8) | oth (s:cw)
def sx:cw->Sx
 | .Assign [t] v p=>.a t v p
 | .AugAssign t o v p=>.aug t o v p
 | .If t a b p=>.ite t a b p
 | .While t b [] p=>.w t b p
 | .For t i b [] p=>.forS t i b p
 | .Return v p=>.ret v p
 | .Break p=>.brk p
 | .Expr e p=>.expr e p
 | .Raise (some e) none p=>.raise e p
 | .Try [b] [.ExceptHandler (some t) (some n) [h] k] [] [] p=>.tryS b t n h k p
 | s=>.oth s
def xs:Sx->cw
 | .a t v p=>.Assign [t] v p
 | .aug t o v p=>.AugAssign t o v p
 | .ite t a b p=>.If t a b p
 | .w t b p=>.While t b [] p
 | .forS t i b p=>.For t i b [] p
 | .ret v p=>.Return v p
 | .brk p=>.Break p
 | .expr e p=>.Expr e p
 | .raise e p=>.Raise (some e) none p
 | .tryS b t n h k p=>.Try [b] [.ExceptHandler (some t) (some n) [h] k] [] [] p
 | .oth s=>s
theorem io(s:cw):xs (sx s)=s:=by
 cases s with
 | Assign k v p=>induction k using bO with
  | nil=>rfl
  | cons t k=>induction k using bO<;>rfl
 | While t b o p=>induction o using bO<;>rfl
 | For t i b o p=>induction o using bO<;>rfl
 | Raise e f p=>induction e using pO<;>induction f using pO<;>rfl
 | Try b h o f p=>
  rcases b with U | ⟨b,U | U⟩<;>try rfl
  rcases h with U | ⟨⟨t,n,q,y⟩,h⟩<;>try rfl
  induction t using pO<;>induction n using pO<;>try rfl
  rcases q with U | ⟨q,U | U⟩<;>try rfl
  induction h using bO<;>induction o using bO<;>induction f using bO<;>rfl
 | _=>rfl
def rh(I:Inf)(x:Nat)(e:a8):Bool:=oV (λn=>decide ((x,n)∈I.vis/\(I.bor=true->x≠0))&&!(I.sc.names.lookup n==some .free)) (vx e)
def tV(I:Inf):List Nat->List a8->Bool
 | [],[]=>true
 | x::xs,e::es=>rh I x e&&tV I xs es
 | _,_=>false
def BI(sc:cD)(l:Nat):a8->a8->Bool
 | .Name t pos,.ListComp _ _ s p=>decide (sc.names.lookup t=some .local/\pos.line=p.line)&&!(s.names.any λ(n,k)=>n==t&&(k== .local||k== .cell))
 | _,_=>false
def HQ(I:Inf)(xs:List Nat)(e:a8):Bool:=match xs with
 | [x]=>rh I x e
 | xs=>tR (λes=>tV I xs es) (vx e)
def FL:E->Bool
 | .comp .. =>true
 | _=>false
def wH(k:a8->a8->Bool):Sx->Bool
 | .a t v p=>k t v
 | _=>false
def Y1(q:a8->a8->Bool)(k:Sx):Prop:=∃t v p,xs k= .Assign [t] v p/\q t v=true
theorem qd{q:a8->a8->Bool}(k:wH q v₀=true):Y1 q v₀:=by
 induction v₀ with
 | a t v p=>exact (eM t v p rfl k)
 | _=>exact ff k
def HK(k:a8->mT->a8->Bool):Sx->Bool
 | .aug t o v p=>k t o v
 | _=>false
def Y3(q:a8->mT->a8->Bool)(k:Sx):Prop:=∃t o v p,xs k= .AugAssign t o v p/\q t o v=true
theorem Pg{q:a8->mT->a8->Bool}(k:HK q v₀=true):Y3 q v₀:=by
 induction v₀ with
 | aug t o v p=>exact (mh t o v p rfl k)
 | _=>exact ff k
def HM(k:a8->List cw->List cw->Bool):Sx->Bool
 | .ite t a b p=>k t a b
 | _=>false
def Yb(q:a8->List cw->List cw->Bool)(k:Sx):Prop:=∃t a b p,xs k= .If t a b p/\q t a b=true
theorem Pj{q:a8->List cw->List cw->Bool}(k:HM q v₀=true):Yb q v₀:=by
 induction v₀ with
 | ite t a b p=>exact (mh t a b p rfl k)
 | _=>exact ff k
def HO(k:a8->List cw->Bool):Sx->Bool
 | .w t b p=>k t b
 | _=>false
def Yk(q:a8->List cw->Bool)(k:Sx):Prop:=∃t b p,xs k= .While t b [] p/\q t b=true
theorem Pl{q:a8->List cw->Bool}(k:HO q v₀=true):Yk q v₀:=by
 induction v₀ with
 | w t b p=>exact (eM t b p rfl k)
 | _=>exact ff k
def HL(k:a8->a8->List cw->Bool):Sx->Bool
 | .forS t i b p=>k t i b
 | _=>false
def Y9(q:a8->a8->List cw->Bool)(k:Sx):Prop:=∃t i b p,xs k= .For t i b [] p/\q t i b=true
theorem Ph{q:a8->a8->List cw->Bool}(k:HL q v₀=true):Y9 q v₀:=by
 induction v₀ with
 | forS t i b p=>exact (mh t i b p rfl k)
 | _=>exact ff k
def AZ(k:Option a8->Bool):Sx->Bool
 | .ret v p=>k v
 | _=>false
def Ye(q:Option a8->Bool)(k:Sx):Prop:=∃v p,xs k= .Return v p/\q v=true
theorem Eb{q:Option a8->Bool}(k:AZ q v₀=true):Ye q v₀:=by
 induction v₀ with
 | ret v p=>exact (dU v p rfl k)
 | _=>exact ff k
def GO(k:a8->Bool):Sx->Bool
 | .expr v p=>k v
 | _=>false
def VL(q:a8->Bool)(k:Sx):Prop:=∃v p,xs k= .Expr v p/\q v=true
theorem N2{q:a8->Bool}(k:GO q v₀=true):VL q v₀:=by
 induction v₀ with
 | expr v p=>exact (dU v p rfl k)
 | _=>exact ff k
def G2(k:a8->Bool):Sx->Bool
 | .raise v p=>k v
 | _=>false
def SW(q:a8->Bool)(k:Sx):Prop:=∃v p,xs k= .Raise (some v) none p/\q v=true
theorem LY{q:a8->Bool}(k:G2 q v₀=true):SW q v₀:=by
 induction v₀ with
 | raise v p=>exact (dU v p rfl k)
 | _=>exact ff k
def HN(k:cw->a8->a6->cw->Bool):Sx->Bool
 | .tryS b t en h q p=>k b t en h
 | _=>false
def Yi(y:cw->a8->a6->cw->Bool)(k:Sx):Prop:=∃b t en h q p,xs k= .Try [b] [.ExceptHandler (some t) (some en) [h] q] [] [] p/\y b t en h=true
theorem Pk{q:cw->a8->a6->cw->Bool}(k:HN q v₀=true):Yi q v₀:=by
 induction v₀ with
 | tryS b t en h y p=>exact ⟨b,t,en,h,y,p,rfl,k⟩
 | _=>exact ff k
def Yv(I:Inf)(x:Nat)(e:E)(p:a8->Bool):Sx->Bool:=wH λt v=>rh I x t&&p v&&(jJ v||FL e)
def Wl(I:Inf)(ys:List Nat)(p:a8->Bool):Sx->Bool:=wH λt v=>tR (λes=>decide (ys.length≠1)&&tV I ys es) (vx t)&&(jJ v&&yt v)&&p v
def wc(q p:a8->Bool):Sx->Bool:=wH λt v=>q t&&jJ v&&p v
def Yw(I:Inf)(x:Nat)(k:Op)(p:a8->Bool):Sx->Bool:=HK λt o v=>decide (o=qU k)&&(rh I x t&&kP I x t)&&p v
def Yy(q:a8->Bool)(k p:List cw->Bool):Sx->Bool:=HM λt a b=>q t&&(k a&&p b)
def YB(q:a8->Bool)(k:List cw->Bool):Sx->Bool:=HO λt a=>q t&&k a
def Yx(I:Inf)(ys:List Nat)(q:a8->Bool)(k:List cw->Bool):Sx->Bool:=HL λt i b=>nB i&&HQ I ys t&&q i&&k b
def Gy:E->Bool
 | .none=>true
 | _=>false
def I9(v:Option a8)(p:a8->Bool)(b:Bool):Bool:=match v with
 | some v=>p v
 | none=>b
def Yz(e:E)(p:a8->Bool):Sx->Bool:=AZ λv=>I9 v p (Gy e)
def H6:Sx->Bool
 | .brk _=>true
 | _=>false
def Wm(p:a8->Bool):Sx->Bool:=GO λv=>jJ v&&p v
def GY(e:E)(f:Tx->Bool):Bool:=match e with
 | .str l=>f l
 | _=>false
def U0(k:Tb)(I:Inf)(e:E):Sx->Bool:=G2 λv=>iP (λf as ks U=>ks.isEmpty&&mE I k.xn f&&GY e λl=>nY (λa=>BE l a) as) (vx v)
def Gp(en:a6):Sx->Bool:=AZ λv=>I9 v (λv=>p9 (λo k U=>decide (k=an 9)&&oV (λn=>decide (n=en)) (vx o)) (vx v)) false
def YA(k:Tb)(I:Inf)(x:Nat)(p:a8->Bool):Sx->Bool:=HN λb t en h=>wc (rh I x) p (sx b)&&(mE I k.xn t&&(decide (I.sc.names.lookup en=some .local/\I.bor=false)&&(eE en&&(I.vis.all (λp=>decide (I.sc.names.lookup p.2=some .local))&&Gp en (sx h)))))
def wg:S->Bool
 | .bad=>true
 | _=>false
mutual
noncomputable def H8(k:Tb)(I:Inf):S->cw->Bool
 | .bad,_=>true
 | .a x e,s=>Yv I x e (chk k I false e) (sx s)
 | .sT ys e,s=>Wl I ys (chk k I false e) (sx s)
 | .sA x a e,s=>wc (u9 I x a) (chk k I false e) (sx s)
 | .sI x i e,s=>wc (λt=>tQ (λo p=>kP I x o&&chk k I false i p) (vx t)) (chk k I false e) (sx s)
 | .sP x a i e,s=>wc (λt=>tQ (λo p=>u9 I x a o&&(!eN i&&oY I i p)) (vx t)) (chk k I false e) (sx s)
 | .aug x q e,s=>Yw I x q (chk k I false e) (sx s)
 | .ite t a b,s=>Yy (chk k I true t) (chkSS k I a) (chkSS k I b) (sx s)
 | .w t b,s=>YB (chk k I true t) (chkSS k I b) (sx s)
 | .for ys rg it b,s=>Yx I ys (wd I rg (chk k I false it)) (chkSS k I b) (sx s)
 | .ret e,s=>Yz e (chk k I false e) (sx s)
 | .brk,s=>H6 (sx s)
 | .expr e,s=>Wm (chk k I false e) (sx s)
 | .raise e,s=>U0 k I e (sx s)
 | .tryA x e,s=>YA k I x (chk k I false e) (sx s)
noncomputable def chkSS(k:Tb)(I:Inf):List S->List cw->Bool
 | [],[]=>true
 | c::p,s::q=>H8 k I c s&&(wg c||chkSS k I p q)
 | _,_=>false
end
structure Gl2(c:Cfg)(O:Tb)(G:cB)(n:Nat):Prop extends Glo c O G n where
 NL:c.B.NoLimit
 Y:∃A0 fI sc p1 p2 p3 p4,Xc c A0 fI sc p1 p2 p3 p4
 xn:c.xnm=O.xn
section
variable {c:Cfg}{O:Tb}{G:cB}{n:Nat}{I:Inf}{A:cy}{X:Cx}{Q:cz}{N:a4×a6}{e:a8}
theorem sM(h:rh I x e=true)(z:Ctx c n I.bor N I.sc I.vis I.offs A X Q):∃m p,e= .Name m p/\(x,m)∈I.vis/\(I.sc.names.lookup m==some .free)=false/\li X x/\(I.bor=true->x≠0):=by
 refine cU (pY h) λm p u h=>xA (bY h) λk v=>xA (of_decide_eq_true k) λk q=>(qi m p ((cV e).symm.trans u) k (lB v) ?_ q);induction y:I.bor with
 | false=>exact .inl (z.pin y)
 | true=>exact .inr (q y)
theorem EX(q:Ctx c n I.bor N I.sc I.vis I.offs A X Q):∀{xs:List Nat} {es:List a8},tV I xs es=true->TG X I.sc I.vis xs es:=by
 intro xs;induction xs with
 | nil=>exact λ{es} h=>by rcases es with U | U;exact .nil;exact ff h
 | cons x xs z=>
  intro es h;rcases es with U | ⟨e,es⟩
  .exact ff h
  refine xA (bY h) λk y=>hB (sM k q) λm p u a b d U=>?_;clear h k;subst u;exact .cons ⟨a,b,d⟩ (z y)
theorem SG(z:Ctx c n I.bor N I.sc I.vis I.offs A X Q){xs:List Nat}(h:HQ I xs e=true):TGT X I.sc I.vis xs e:=by
 have q:∀{ys:List Nat},ys.length≠1->tR (λes=>tV I ys es) (vx e)=true->TGT X I.sc I.vis ys e:=λ{ys} v h=>by refine d8 (yq h) λes k p u h=>?_;rw [<-cV e,u];exact .many v (EX z h)
 rcases xs with U | ⟨x,U | ⟨y,ys⟩⟩
 .exact q ∅ h
 .refine hB (sM h z) λm p w a b d U=>?_;clear q h;subst w;exact .one ⟨a,b,d⟩
 exact q (by simp) h
def PS(c:Cfg)(O:Tb)(G:cB)(n:Nat)(k:S):Prop:=∀{I:Inf} {s:cw} {A X Q N},H8 O I k s=true->Ctx c n I.bor N I.sc I.vis I.offs A X Q->nS X I.vis->TS c G A X Q k s
def mD(c:Cfg)(O:Tb)(G:cB)(n:Nat)(k:List S):Prop:=∀{I:Inf} {s:List cw} {A X Q N},chkSS O I k s=true->Ctx c n I.bor N I.sc I.vis I.offs A X Q->nS X I.vis->TSS c G A X Q k s
theorem Y0(h:sx s=v):s=xs v:=by rw [<-h,io]
theorem Ra(k:Ctx c n I.bor N I.sc I.vis I.offs A X Q):I.sc.kind= .function:=by rw [<-k.eo.scope];exact k.eo.kind
theorem Ei(z:Ctx c n I.bor N I.sc I.vis I.offs A X Q){u:List uw}:uA (.ListComp q u sc p) (some (.Name m y)) l Q=pure (BI I.sc l (.Name m y) (.ListComp q u sc p)):=by show pure (Q.blockKind== .function&&Q.kindOf m==some .local&&y.line==p.line&&!(sc.names.any λ(n,k)=>n==m&&(k== .local||k== .cell)))=_;congr 1;unfold BI jp Env.blockKind;rw [z.eo.scope,Ra z];congr 1;induction v:I.sc.names.lookup m==some NameKind.local using dj<;>induction w:y.line==p.line using dj<;>simp_all [ScopeKind.isAnnotationScope]
def VK(e:E):Prop:=∃y ys rg it k,e= .comp y ys rg it k
theorem LO{e:E}(h:FL e=true):VK e:=by
 induction e using E.casesOn with
 | comp y ys rg it k=>exact ⟨y,ys,rg,it,k,rfl⟩
 | _=>exact ff h
theorem MG{e:E}(h:Gy e=true):e= .none:=by
 induction e using E.casesOn with
 | none=>rfl
 | _=>exact ff h
theorem Ru(k:Glo c O G n)(cc:Option E):PO c O G n cc:=by
 induction cc with
 | none=>exact E1
 | some t=>exact E2 (gJ k t)
theorem Rv(q:Gl2 c O G n):PS c O G n (.a x ce):=λ{I s A X Q N} h k cov=>by
 have h:=h;refine d8 (qd h) λt v p e0 h=>xA (bY h) λr u=>xA (bY r) λr o=>hB (sM r k) λm np g a b d f=>?_;clear r;subst g;rw [<-io s,e0];have M:=gJ q.toGlo ce o k;rcases pM.mp u with u | u
 .exact Tl q.H k.eo u a b d M
 refine gv (LO u) λy ys rg it σ=>xE σ λB g=>?_;subst g;obtain ⟨rfl,cs,j,i,w,ti,te⟩:=D0 q.toGlo (gJ q.toGlo y) (gJ q.toGlo it) (Ru q.toGlo B) k (bY o).2;induction Y:BI I.sc p.line (.Name m np) (.ListComp _ _ _ _) with
 | true=>exact KY q.H k cs j i w a b f (by rw [Ei k,Y]) ti λC z l=>te C z _ l
 | false=>exact El q.H k.eo (by rw [Ei k,Y]) a b d M
theorem OQ(u:Gl2 c O G n):PS c O G n (.sT ys w):=λ{I s A X Q N} h y r=>by have h:=h;refine d8 (qd h) λt v p l h=>xA (bY h) λq j=>xA (bY q) λq z=>xA (bY z) λz i=>d8 (yq q) λes k tp m q=>xA (bY q) λq f=>?_;rw [<-io s,l,<-cV t,m];exact PX u.H y.cb.ca y.eo (of_decide_eq_true q) z i (EX y f) (gJ u.toGlo w j y)
theorem ON(y:Gl2 c O G n):PS c O G n (.sA x a z):=λ{I s A X Q N} h q u=>by have h:=h;refine d8 (qd h) λt v p w h=>xA (bY h) λk l=>xA (bY k) λk r=>gq (vt k) λm f i j k1 k2 k3=>?_;clear h k;subst j;rw [<-io s,w];exact PU y.H q.eo r k1 k2 k3 (gJ y.toGlo z l q)
theorem OO(y:Gl2 c O G n){ci z:E}:PS c O G n (.sI x ci z):=λ{I s A X Q N} h q u=>by have h:=h;refine d8 (qd h) λt v p w h=>xA (bY h) λk j=>xA (bY k) λk l=>d8 (vn k) λo g Y r k=>xA (bY k) λk i=>c0 (lj k) λm d f k1 k2=>?_;clear k;subst f;rw [<-io s,w,<-cV t,r];exact PV y.H q.eo l k1 k2 (gJ y.toGlo ci i q) (gJ y.toGlo z j q)
theorem OP(z:Gl2 c O G n){ci u:E}:PS c O G n (.sP x a ci u):=λ{I s A X Q N} h q w=>by have h:=h;refine d8 (qd h) λt v p r h=>xA (bY h) λk i=>xA (bY k) λk j=>d8 (vn k) λo Y C l k=>xA (bY k) λk y=>xA (bY y) λy f=>gq (vt k) λm M d g k1 k2 k3=>?_;clear k;subst g;rw [<-io s,r,<-cV t,l];exact PW z.H q.eo j k1 k2 k3 (lB y) (qf z.toGlo q f) (gJ z.toGlo u i q)
theorem Rx(u:Gl2 c O G n){C:Op}:PS c O G n (.aug x C w):=λ{I s A X Q N} h k r=>by have h:=h;refine eK (Pg h) λt o v p l h=>xA (bY h) λq i=>xA (bY q) λg y=>xA (bY y) λz Y=>?_;obtain rfl:=of_decide_eq_true g;refine hB (sM z k) λm np B a b d f=>?_;clear y z h q;subst B;refine c0 (lj Y) λm' M j k1 k2=>?_;cases j;rw [<-io s,l];exact Tm u.H k.eo a k2 b d (gJ u.toGlo w i k)
theorem RB(l:Gl2 c O G n)(w:mD c O G n a)(r:mD c O G n b):PS c O G n (.ite t a b):=λ{I s A X Q N} h q k=>by have h:=h;refine eK (Pj h) λm j i p z h=>xA (bY h) λu y=>xA (bY y) λv y=>?_;rw [<-io s,z];exact Tp (gJ l.toGlo t u q) (w v q k) (r y q k)
theorem RE(y:Gl2 c O G n)(r:mD c O G n b):PS c O G n (.w t b):=λ{I s A X Q N} h k q=>by have h:=h;refine d8 (Pl h) λl m p z h=>xA (bY h) λu v=>?_;rw [<-io s,z];exact Tq y.H k.cb.ca k.fo (gJ y.toGlo t u k) (r v k q)
theorem RA(z:Gl2 c O G n)(l:mD c O G n b):PS c O G n (.for ys rg it b):=λ{I s A X Q N} h k y=>by have h:=h;refine eK (Ph h) λt i m p u h=>xA (bY h) λq r=>xA (bY q) λq w=>xA (bY q) λq v=>?_;rw [<-io s,u];exact To z.H k.cb.ca k.fo k.eo q (SG k v) (Gz z.toGlo k w λe h=>gJ z.toGlo it h k) (l r k y)
theorem RD(u:Gl2 c O G n):PS c O G n (.ret q):=λ{I s A X Q N} h z y=>by
 refine cU (Eb h) λv p k h=>?_;rw [<-io s,k];clear k;induction v with
 | some v=>exact Fk (gJ u.toGlo q h z)
 | none=>obtain rfl:=MG h;exact PZ
theorem Ry(y:Gl2 c O G n):PS c O G n .brk:=λ{I s A X Q N} h q k=>by
 have h:H6 (sx s)=true:=h;induction hs:sx s with
 | brk p=>rw [Y0 hs];exact Tn
 | _=>rw [hs] at h;exact ff h
theorem OR(q:Gl2 c O G n):PS c O G n (.expr y):=λ{I s A X Q N} h k z=>by have h:=h;refine cU (N2 h) λv p u h=>xA (bY h) λw r=>?_;rw [<-io s,u];exact PY q.H w (by unfold interactive;rw [k.eo.kind];rfl) (gJ q.toGlo y r k)
def Yg(e:E)(f:Tx->Bool):Prop:=∃l,e= .str l/\f l=true
theorem Na{e:E}{f:Tx->Bool}(h:GY e f=true):Yg e f:=by
 induction e using E.casesOn with
 | str l=>exact (a7 l rfl h)
 | _=>exact ff h
theorem MS(z:Gl2 c O G n){g:E}:PS c O G n (.raise g):=λ{I s A X Q N} h w o=>by refine cU (LY h) λv p r h=>eK (j8 h) λf as ks B t h=>?_;rw [<-io s,r,<-cV v,t];clear r t;refine xA (bY h) λu y=>xA (bY u) λu m=>?_;obtain rfl:=je u;refine a5 (Na y) λl k y=>?_;subst k;refine a5 (ql y) λa k y=>?_;subst k;refine xA (bY y) λk1 k2=>fY (l9 k2) λj d k=>?_;clear y k2;subst k;refine a5 (nu m) λq k i=>?_;clear m h;subst k;refine gv z.Y λC x sc b k=>qY k λp2 p3 p4 Y=>?_;have M:=z.xn;rw [<-M] at i ⊢;exact Nn z.H z.NL Y w.eo w.cb i rfl k1
theorem Mq(h:Gp en (sx s)=true):∃q l rp,s= .Return (some (.Attribute (.Name en q) (an 9) l)) rp:=by
 refine cU (Eb h) λv p y h=>?_;rw [io] at y;induction v with
 | none=>exact ff h
 | some j=>refine d8 (qa h) λo t k z w=>xA (bY w) λk3 r=>cU (pY r) λm q u k5=>?_;obtain rfl:=of_decide_eq_true k3;clear h r w;obtain rfl:=of_decide_eq_true k5;rw [cV] at u z;exact ⟨q,k,p,by rw [y,z,u]⟩
theorem OU(u:Gl2 c O G n):PS c O G n (.tryA x C):=λ{I s A X Q N} h y w=>by refine gv (Pk h) λb t en hd k=>cU k λd p r h=>?_;rw [<-io s,r];clear r;refine xA (bY h) λz h=>xA (bY h) λf h=>xA (bY h) λB h=>xA (bY h) λa h=>xA (bY h) λh5 g=>?_;clear h;refine qY (Mq g) λmp ep rp k=>?_;clear h g;subst k;refine xA (of_decide_eq_true B) λk1 k2=>a5 (nu f) λq k o=>?_;clear f;subst k;refine d8 (qd z) λtg v ap l z=>?_;rw [io] at l;subst l;refine xA (bY z) λj h8=>xA (bY j) λi h7=>hB (sM i y) λm np k M a2 a3 U=>?_;clear z h j i;subst k;refine gv u.Y λA0 fI sc p1 k=>qY k λp2 p3 p4 Y=>?_;have hx:=u.xn;rw [<-hx] at o ⊢;exact Q0 u.H Y y.cb.ca y.fo y.eo w (λp d=>of_decide_eq_true (dM.mp h5 p d)) (y.pin k2) M k1 a o h7 (gJ u.toGlo C h8 y)
theorem E3:mD c O G n []:=λ{I s A X Q N} h p k=>by
 induction s using bO with
 | nil=>exact Ek
 | cons=>exact ff h
theorem Do(i:PS c O G n p)(is:mD c O G n q):mD c O G n (p::q):=λ{I s A X Q N} h z k=>by
 induction s using bO with
 | nil=>exact ff h
 | cons s w=>
  refine xA (bY h) λu y=>?_;induction v:wg p with
  | true=>
   clear i h u y;induction p using S.casesOn<;>first | exact ff v | exact λg s j ns=>absurd rfl ns
  | false=>rw [v] at y;exact yl (i u z k) (is y z k)
theorem Ey(k:Gl2 c O G n)(cs:S):PS c O G n cs:=S.rec (motive_1:=PS c O G n) (motive_2:=mD c O G n) (λ{I s A X Q N} h z q g s' j ns=>absurd rfl ns) (λU U=>Rv k) (λU U=>OQ k) (λU U U=>ON k) (λU U U=>OO k) (λU U U U=>OP k) (λU U U=>Rx k) (λU U U y p=>RB k y p) (λU U p=>RE k p) (λU U U U p=>RA k p) (λU=>RD k) (Ry k) (λU=>OR k) (λU=>MS k) (λU U=>OU k) E3 (λU U i is=>Do i is) cs
theorem DF(k:Gl2 c O G n):∀p:List S,mD c O G n p
 | []=>E3
 | s::q=>Do (Ey k s) (DF k q)
theorem TW(k:wg s=true){X:Cx}:TSS c G A X Q (s::p) ss:=by
 induction s using S.casesOn with
 | bad=>exact λg s j ns=>absurd rfl ns
 | _=>exact ff k
theorem LK(m:Gl2 c O G n){I:Inf}{X:Cx}{N:a4×a6}(v:Ctx c n I.bor N I.sc I.vis I.offs A X Q)(p:nS X I.vis)(t:TS c G A X Q u l)(h:chkSS O I q k=true):TSS c G A X Q (q++[u]) (k++[l]):=by
 induction q generalizing k with
 | nil=>induction k using bO with
  | nil=>exact yl t Ek
  | cons=>exact ff h
 | cons s q r=>induction k using bO with
  | nil=>exact ff h
  | cons s' k=>
   refine xA (bY h) λw y=>?_;induction z:wg s with
   | true=>exact TW z
   | false=>rw [z] at y;exact yl (Ey m s w v p) (r y)
end
def FunC(c:Cfg)(y:Tb)(i:Nat)(fn:Fn):Prop:=∃q sc k ns,FunG c (c.fa i) fn q sc k ns/\y.bo.getD i false=fn.bor/\∀G n,Gl2 c y G n->∀A X p,Ctx c n fn.bor q sc (ju ns) (mi ns.length fn.nslots) A X p->nS X (ju ns)->TSS c G A X p fn.body k
def Ax(c:Cfg)(z:Tb)(l:Nat)(L:LamT)(fn:Fn):Prop:=∃k q,LamG c l L fn k/\fn.body=[.ret q]/\∀G n,Gl2 c z G n->∀A X p y,Ctx c n false y L.scope (ju (k++L.caps)) (mi (k++L.caps).length fn.nslots) A X p->T c G A X p q L.body
def qJ(sc:cD)(ns:List a6)(fn:Fn):Inf:=⟨sc,ju ns,mi ns.length fn.nslots,fn.bor⟩
theorem FunC.of{i:Nat}{k:List cw}(F:FunG c (c.fa i) fn y sc k ns)(v:q.bo.getD i false=fn.bor)(h:chkSS q (qJ sc ns fn) fn.body k=true):FunC c q i fn:=⟨y,sc,k,ns,F,v,λG n w A X u z p=>DF w fn.body h z p⟩
theorem TJ(w:Gl2 c u (b6 fs 0) 0)(j:∀i,i< dP->∃fn,fs[i]? =some fn/\FunC c u i fn)(g:∀l L,c.lam l=some L->∃fn,fs[l]? =some fn/\Ax c u l L fn):∀m,Gl2 c u (b6 fs m) (2*m):=by
 intro m;induction m with
 | zero=>exact w
 | succ m p=>
  refine {toGlo:={p.toGlo with K:=λi f=>?_,KC:=λl L r=>?_},NL:=p.NL,Y:=p.Y,xn:=p.xn}
  .refine a5 (j i f) λfn e z=>eK z λn sc v ns F o=>xA o λq t=>?_;rw [q];exact Ub p.H p.NL F (t _ _ p) (by funext k;show (match fs[i]? with | some fn=>kB (b6 fs m) fn k | none=>.x)=_;rw [e])
  exact a5 (g l L r) λfn e z=>c0 z λy d F q t=>U3 p.H p.NL F q (t _ _ p) (by funext k;show (match fs[l]? with | some fn=>kB (b6 fs m) fn k | none=>.x)=_;rw [e])
end Mine.Internal
namespace Mh.Internal
open Mine.Internal.V renaming d->eA,casesOn->bS,ol->k9
open Mine.Internal.Out renaming of->cg,ok->dS,casesOn->ou,bind->bt
open Mine.Internal.D renaming int->iY,str->iJ,none->ox,casesOn->c7,l->dq
open Mine.Internal.Ctl renaming rec->rX,next->h4,ret->rY
section
abbrev pw:rF:=CG
def sv(s:String)(t:Nat):a4:=.str (eG s) t
def hs(P:da)(s:a6):Int:=if s.cps.isEmpty then 0 else reduceHash (P.strHash s.cps)
def en(P:da)(s:String)(t:Nat)(v:a4):fy:=⟨hs P (eG s),sv s t,v⟩
def er(P:da)(s:String)(t n:Nat):fy:=en P s t (.ref n)
def dc(l:List fy)(n:Nat):cn:=⟨.type "dict",none,.dict ⟨l⟩ n,⟨[]⟩⟩
def st(i:Nat):cw:=pw.main.body.getD i default
def mt(i j:Nat):cw:=match st i with | .ClassDef _ _ _ b .. =>b.getD j default | _=>default
def fdo(s:cw)(z u:String)(q:b7)(p:List (String×b7))(d k v r:a4)(ann:Option b7)(code w:a4)(b:b7):lN:=match s with
 | .FunctionDef _ a y _ _ _ scope .. =>⟨eG z,eG u,a,.stmts y,scope,q,p.map λx=>(eG x.1,x.2),d,k,v,r,ann,code,w,b⟩
 | _=>default
def gK:BT->Nat->List cn->BT
 | t,_,[]=>t
 | t,n,o::l=>gK (t.ins n o) (n+1) l
abbrev hM:=PySem.W.Fast.tw10110043849684766642 PySem.W.Fast.tw14364793385576792824
abbrev fN:cz:={scope:=pw.main.scope,locals:=mainNs,globals:=mainNs,cells:=[],code:=.ref 13,frame:=some 14}
abbrev dw:Code:=.body (gH pw) fN
def cu(t:Nat):a4:=sv "/claim/cut.py" t
def ic(n:Nat):a4:=.int n 0
def tp(l:List a4):cn:=⟨.type "tuple",none,.seq ⟨l⟩ 0,⟨[]⟩⟩
def fi(c:String)(l:List a4):cn:=⟨.type c,none,.fields ⟨l⟩,⟨[]⟩⟩
def bfm:cn:=fi "builtin_function_or_method" [.builtin "type.__prepare__",.type "type"]
def fn(l:List a4):cn:=⟨.none,none,.fields ⟨l⟩,⟨[]⟩⟩
def tE:cn:=tp []
def fE:cn:=fn []
def m0:a4:=sv "__main__" 164
def m1:a4:=sv "vectorcove.rational" 194
def m2:a4:=sv "vectorcove.numtext" 278
def m3:a4:=sv "vectorcove.errors" 471
def m4:a4:=sv "vectorcove.values" 518
def m5:a4:=sv "vectorcove.attrs" 664
def m6:a4:=sv "vectorcove.callargs" 732
def m7:a4:=sv "vectorcove.coerce" 853
def m8:a4:=sv "vectorcove.seqcalls" 980
def m9:a4:=sv "vectorcove.texts" 999
def kL:a4:=sv "vectorcove.textcalls" 1121
def wW:a4:=sv "law_nz0537_01" 1423
def rj(s:cw):a6:=match s with | .FunctionDef n .. =>n | _=>default
def Bv(s:cw):Nat:=match s with | .FunctionDef _ _ _ _ _ _ _ _ _ p=>p.line | _=>0
def naO(s:cw):Nat:=match s with | .FunctionDef _ a .. =>a.args.length | _=>0
def WV(x:a6×iD):Bool:=match x.2 with | .local=>true | _=>false
def jU(s:cw):List a6:=match s with | .FunctionDef _ _ _ _ _ _ c .. =>(c.names.filter WV).map (·.1) | _=>[]
def HY(s:cw)(n q:a6)(g:b7)(d m c:a4):lN:=match s with
 | .FunctionDef _ a k _ _ _ scope .. =>⟨n,q,a,.stmts k,scope,g,[],d,.none,.none,m,none,c,.none,0⟩
 | _=>default
def Ir:List a6->Nat->List a4
 | [],_=>[]
 | x::l,t=>.str x t::Ir l (t+1)
def coO(s:cw)(q:a6)(a t k:Nat)(r:List a4):cn:=fi "code" (.str (rj s) t:: .str q (t+1)::cu (t+2)::ic (Bv s)::ic (naO s)::ic 0::ic 0::ic 3:: .ref a:: .bool true::ic 181:: .ref (a+1):: .none::(r++[ic (t+3+k),ic (Bv s),cu (t+4+k)]))
def GZ(s:cw)(q:a6)(a t k:Nat)(d m:a4)(c:Nat)(r:List a4):List cn:=[⟨.none,none,.func (HY s (rj s) q 0 .none .none .none),⟨[]⟩⟩,coO s q a t k r,⟨.type "function",none,.func (HY s (rj s) q 3 d m (.ref c)),⟨[]⟩⟩]
def iw(s:cw)(q:a6)(a t:Nat)(d m:a4)(L:List a6):List cn:=match L with
 | []=>tE::fE::GZ s q a t 0 d m (a+3) [.none,.none,.ref (a+2)]
 | x::l=>tE::fE::tp (Ir (x::l) (t+3))::tE::GZ s q a t (l.length+1) d m (a+5) [.ref (a+2),.ref (a+3),.ref (a+4)]
def ud(i:Nat):List a6:=bif [26,55,56,58,65,82,84,105,107,110,120,133,135,137,138,142,145,146,147].elem i then [] else jU (st i)
def szL(L:List a6):Nat:=match L with | []=>5 | _=>7
def ul(i:Nat):Nat:=szL (ud i)
def eO(m:a4):List Nat->Nat->Nat->List cn
 | [],_,_=>[]
 | i::r,a,t=>iw (st i) (rj (st i)) a t .none m (ud i)++eO m r (a+ul i) (t+6+(ud i).length)
def ir(P:da):List Nat->Nat->Nat->List fy
 | [],_,_=>[]
 | i::r,a,t=>⟨hs P (rj (st i)),.str (rj (st i)) (t+5+(ud i).length),.ref (a+ul i -1)⟩::ir P r (a+ul i) (t+6+(ud i).length)
def lI:List Nat->Nat->List a4
 | [],_=>[]
 | i::r,a=>ic (Bv (st i))::ic 0:: .ref (a+ul i -2)::lI r (a+ul i)
def gL(P:da):List fy:=match boot_o_3 P with | ⟨_,_,.dict es _,_⟩=>es.toList | _=>[]
def Uy(v:a4):List fy->List fy
 | e::r=>{e with val:=v}::r
 | []=>[]
def gM(P:da):List fy:=ir P [0] 15 187++([er P "NAN" 198 22,er P "INF" 201 23,er P "ZERO" 204 24]++(ir P (dQ 5 9) 25 205++([en P "MOST_EXPONENT" 281 (.int (4096) 280)]++(ir P (dQ 16 11) 88 282++([er P "number_text" 402 170]++(ir P (dQ 28 6) 171 403++([er P "CoveError" 492 222,er P "Refusal" 517 242,en P "MOST_LENGTH" 521 (.int (1000000) 520),er P "Null" 550 261,er P "Vector" 592 290]++(ir P (dQ 41 5) 295 593++([er P "list_of" 634 335]++(ir P (dQ 47 4) 336 635++(ir P (dQ 52 9) 364 666++([er P "Matching" 816 477]++(ir P (dQ 63 3) 482 817++([er P "match_names" 846 506,er P "take" 852 512,en P "MOST_INTEGER" 856 (.int (2147483647) 855)]++(ir P (dQ 70 15) 513 857++(ir P [86,87] 614 982++([en P "BLANKS" 1002 (sv " \t\x0d\n" 1001)]++(ir P (dQ 90 12) 628 1003++([en P "LONGEST_TEXT" 1124 (.int (1000000) 1123)]++(ir P (dQ 104 15) 712 1125++([er P "b_trimws" 1301 817]++(ir P (dQ 120 3) 818 1302++([er P "replace_all" 1348 843]++(ir P (dQ 124 5) 844 1349++(ir P (dQ 130 18) 879 1425)))))))))))))))))))))))))
def gC:List a4:=lI [0] 15++(lI [5,6,7,8,9,10,11,12,13,16,17,18,19,20,21,22,23,24,25,26] 25++([ic 149,ic 0,.ref 169]++(lI (dQ 28 6) 171++([ic 230,ic 0,.ref 218,ic 232,ic 0,.ref 231,ic 238,ic 0,.ref 250,ic 243,ic 0,.ref 271]++(lI (dQ 41 5) 295++([ic 268,ic 0,.ref 334]++(lI [47,48,49,50,52,53,54,55,56,57,58,59,60] 336++([ic 347,ic 0,.ref 426]++(lI (dQ 63 3) 482++([ic 417,ic 0,.ref 505,ic 426,ic 0,.ref 511]++(lI [70,71,72,73,74,75,76,77,78,79,80,81,82,83,84,86,87,90,91,92,93,94,95,96,97,98,99,100,101,104,105,106,107,108,109,110,111,112,113,114,115,116,117,118] 513++([ic 780,ic 0,.ref 816]++(lI (dQ 120 3) 818++([ic 804,ic 0,.ref 842]++(lI [124,125,126,127,128,130,131,132,133,134,135,136,137,138,139,140,141,142,143,144,145,146,147] 844)))))))))))))))
def gD(P:da)(v:a4)(n k:Nat):cn:=⟨.type "dict",none,.dict ⟨Uy v (gL P)++(gM P).take n⟩ k,#[]⟩
def gT(n:Nat):cn:=⟨.none,none,.fields ⟨gC.take (3*n)⟩,#[]⟩
def T0(P:da):BT:=gK ((((((((((((BT.nil.ins 0 (boot_o_0 P)).ins 1 (boot_o_1 P)).ins 2 (boot_o_2 P)).ins 3 (boot_o_3 P)).ins 4 (boot_o_4 P)).ins 5 (boot_o_5 P)).ins 6 (boot_o_6 P)).ins 7 (boot_o_7 P)).ins 8 (boot_o_8 P)).ins 9 (boot_o_9 P)).ins 10 (boot_o_10 P))) 11 [⟨(.type "tuple"),none,(.seq ⟨[]⟩ 0),⟨[]⟩⟩,⟨.none,none,(.fields ⟨[]⟩),⟨[]⟩⟩,fi "code" [sv "<module>" 182,sv "<module>" 183,cu 184,ic 1,ic 0,ic 0,ic 0,ic 0,.ref 11,.bool false,ic 181,.ref 12,.none,.none,.none,.none,ic 185,ic 1,cu 186],⟨(.type "frame"),none,.plain,⟨[some (.ref 13),some (.ref 3),some (.ref 3),none,some m0,none,some (.ref 0)]⟩⟩]
def w0(P:da):List cn:=eO m0 [0] 15 187++([tp [.int (0) 196,.int (0) 197],tp [.int (1) 199,.int (0) 200],tp [.int (0) 202,.int (1) 203]]++(eO m1 (dQ 5 9) 25 205++(eO m2 [16] 88 282)))
def T1(P:da):BT:=gK (((T0 P).set 3 (λ_=>gD P m2 15 24)).set 12 (λ_=>gT 11)) 15 (w0 P)
def w1(P:da):List cn:=eO m2 (dQ 17 10) 95 292++([tp [.int (7) 394]]++(iw (st 27) (eG "number_text") 164 395 (.ref 163) m2 (jU (st 27))++(eO m2 [28] 171 403)))
def T2(P:da):BT:=gK (((T1 P).set 3 (λ_=>gD P m2 27 36)).set 12 (λ_=>gT 23)) 95 (w1 P)
def w2(P:da):List cn:=eO m2 (dQ 29 5) 178 413++([tp [.type "Exception"],fi "builtin_function_or_method" [.builtin "type.__prepare__",.type "type"],dc [en P "__module__" 480 m3,en P "__qualname__" 482 (sv "CoveError" 481),en P "__firstlineno__" 484 (.int (230) 483),er P "__static_attributes__" 485 220] 4,tE,fE,fi "code" [sv "CoveError" 475,sv "CoveError" 476,cu 477,ic 230,ic 0,ic 0,ic 0,ic 0,.ref 216,.bool false,ic 181,.ref 217,.none,.none,.none,.none,ic 478,ic 230,cu 479],⟨(.type "frame"),none,.plain,⟨[some (.ref 218),some (.ref 3),some (.ref 215),none,some m3,none,some (.ref 0)]⟩⟩,tE,dc [en P "__module__" 480 m3,en P "__firstlineno__" 484 (.int (230) 483),er P "__static_attributes__" 485 220,er P "__weakref__" 487 223,en P "__doc__" 488 .none] 3,⟨(.type "type"),none,(.cls ⟨"CoveError",[.type "Exception"],[.ref 222,.type "Exception",.type "BaseException",.type "object"],221,"CoveError",true,[],[],false,none,false⟩),⟨[some (.ref 213),none,some (sv "CoveError" 473),some (sv "CoveError" 481),some (.builtin "Exception.__new__"),some (.bool true)]⟩⟩,fi "getset_descriptor" [sv "__weakref__" 486,.ref 222,.builtin "ExceptionGroup.__weakref__",.none],fi "super" [.ref 222,.ref 222,.ref 222],fi "builtin_function_or_method" [.builtin "object.__init_subclass__",.ref 222]])
def T3(P:da):BT:=gK ((((T2 P).set 3 (λ_=>gD P m3 33 42)).set 12 (λ_=>gT 29)).set 2 (λ_=>⟨.none,none,(.dict ⟨[en P "type.__subclasses__.Exception.0" 489 (.int (222) 0),en P "type.__subclasses__.Exception.n" 490 (.int (1) 0)]⟩ 2),⟨[]⟩⟩)) 178 (w2 P)
def w3(P:da):List cn:=[tp [.ref 222],fi "builtin_function_or_method" [.builtin "type.__prepare__",.type "type"],dc [en P "__module__" 500 m3,en P "__qualname__" 502 (sv "Refusal" 501),en P "__firstlineno__" 504 (.int (232) 503),er P "__init__" 512 239,er P "__static_attributes__" 514 240] 5,tE,fn [ic 234,ic 4,.ref 238],fi "code" [sv "Refusal" 495,sv "Refusal" 496,cu 497,ic 232,ic 0,ic 0,ic 0,ic 0,.ref 229,.bool false,ic 181,.ref 230,.none,.none,.none,.none,ic 498,ic 232,cu 499],⟨(.type "frame"),none,.plain,⟨[some (.ref 231),some (.ref 3),some (.ref 228),none,some m3,none,some (.ref 0)]⟩⟩]++(iw (mt 36 0) (eG "Refusal.__init__") 233 505 .none m3 (jU (mt 36 0))++([tp [sv "message" 513],dc [en P "__module__" 500 m3,en P "__firstlineno__" 504 (.int (232) 503),er P "__init__" 512 239,er P "__static_attributes__" 514 240,en P "__doc__" 515 .none] 2,⟨(.type "type"),none,(.cls ⟨"Refusal",[.ref 222],[.ref 242,.ref 222,.type "Exception",.type "BaseException",.type "object"],241,"Refusal",true,[],[],false,none,false⟩),⟨[some (.ref 226),none,some (sv "Refusal" 493),some (sv "Refusal" 501),some (.builtin "Exception.__new__"),some (.bool true)]⟩⟩,fi "super" [.ref 242,.ref 242,.ref 242],fi "builtin_function_or_method" [.builtin "object.__init_subclass__",.ref 242]]))
def T4(P:da):BT:=gK ((((T3 P).set 3 (λ_=>gD P m4 35 44)).set 12 (λ_=>gT 30)).set 222 (λ_=>⟨(.type "type"),none,(.cls ⟨"CoveError",[.type "Exception"],[.ref 222,.type "Exception",.type "BaseException",.type "object"],221,"CoveError",true,[],[.ref 242],false,none,false⟩),⟨[some (.ref 213),none,some (sv "CoveError" 473),some (sv "CoveError" 481),some (.builtin "Exception.__new__"),some (.bool true)]⟩⟩)) 226 (w3 P)
def w4(P:da):List cn:=[tE,fi "builtin_function_or_method" [.builtin "type.__prepare__",.type "type"],dc [en P "__module__" 529 m4,en P "__qualname__" 531 (sv "Null" 530),en P "__firstlineno__" 533 (.int (238) 532),er P "__init__" 540 258,er P "__static_attributes__" 543 259] 5,tE,fn [ic 240,ic 4,.ref 257],fi "code" [sv "Null" 524,sv "Null" 525,cu 526,ic 238,ic 0,ic 0,ic 0,ic 0,.ref 248,.bool false,ic 181,.ref 249,.none,.none,.none,.none,ic 527,ic 238,cu 528],⟨(.type "frame"),none,.plain,⟨[some (.ref 250),some (.ref 3),some (.ref 247),none,some m4,none,some (.ref 0)]⟩⟩]++(iw (mt 39 0) (eG "Null.__init__") 252 534 .none m4 (jU (mt 39 0))++([tp [sv "attrs" 541,sv "kind" 542],dc [en P "__module__" 529 m4,en P "__firstlineno__" 533 (.int (238) 532),er P "__init__" 540 258,er P "__static_attributes__" 543 259,er P "__dict__" 545 262,er P "__weakref__" 547 263,en P "__doc__" 548 .none] 4,⟨(.type "type"),none,(.cls ⟨"Null",[.type "object"],[.ref 261,.type "object"],260,"Null",true,[],[],false,none,false⟩),⟨[none,none,some (sv "Null" 522),some (sv "Null" 530),some (.builtin "object.__new__"),some (.bool true)]⟩⟩,fi "getset_descriptor" [sv "__dict__" 544,.ref 261,.builtin "function.__dict__",.builtin "function.__dict__#set"],fi "getset_descriptor" [sv "__weakref__" 546,.ref 261,.builtin "ExceptionGroup.__weakref__",.none],fi "super" [.ref 261,.ref 261,.ref 261],fi "builtin_function_or_method" [.builtin "object.__init_subclass__",.ref 261]]))
def T5(P:da):BT:=gK (((T4 P).set 3 (λ_=>gD P m4 36 45)).set 12 (λ_=>gT 31)) 245 (w4 P)
def w5(P:da):List cn:=[tE,fi "builtin_function_or_method" [.builtin "type.__prepare__",.type "type"],dc [en P "__module__" 558 m4,en P "__qualname__" 560 (sv "Vector" 559),en P "__firstlineno__" 562 (.int (243) 561),er P "__init__" 572 280,er P "copy" 579 287,er P "__static_attributes__" 585 288] 6,tE,fn [ic 245,ic 4,.ref 279,ic 252,ic 4,.ref 286],fi "code" [sv "Vector" 553,sv "Vector" 554,cu 555,ic 243,ic 0,ic 0,ic 0,ic 0,.ref 269,.bool false,ic 181,.ref 270,.none,.none,.none,.none,ic 556,ic 243,cu 557],⟨(.type "frame"),none,.plain,⟨[some (.ref 271),some (.ref 3),some (.ref 268),none,some m4,none,some (.ref 0)]⟩⟩,tp [.none]]++(iw (mt 40 0) (eG "Vector.__init__") 274 563 (.ref 273) m4 (jU (mt 40 0))++(iw (mt 40 1) (eG "Vector.copy") 281 573 .none m4 (jU (mt 40 1))++([tp [sv "attrs" 580,sv "items" 581,sv "kind" 582,sv "loose" 583,sv "shared" 584],dc [en P "__module__" 558 m4,en P "__firstlineno__" 562 (.int (243) 561),er P "__init__" 572 280,er P "copy" 579 287,er P "__static_attributes__" 585 288,er P "__dict__" 587 291,er P "__weakref__" 589 292,en P "__doc__" 590 .none] 4,⟨(.type "type"),none,(.cls ⟨"Vector",[.type "object"],[.ref 290,.type "object"],289,"Vector",true,[],[],false,none,false⟩),⟨[none,none,some (sv "Vector" 551),some (sv "Vector" 559),some (.builtin "object.__new__"),some (.bool true)]⟩⟩,fi "getset_descriptor" [sv "__dict__" 586,.ref 290,.builtin "function.__dict__",.builtin "function.__dict__#set"],fi "getset_descriptor" [sv "__weakref__" 588,.ref 290,.builtin "ExceptionGroup.__weakref__",.none],fi "super" [.ref 290,.ref 290,.ref 290],fi "builtin_function_or_method" [.builtin "object.__init_subclass__",.ref 290]]++(eO m4 (dQ 41 4) 295 593))))
def T6(P:da):BT:=gK (((T5 P).set 3 (λ_=>gD P m4 41 50)).set 12 (λ_=>gT 36)) 266 (w5 P)
def w6(P:da):List cn:=eO m4 [45] 323 621++([tp [.none]]++(iw (st 46) (eG "list_of") 331 629 (.ref 330) m4 []++(eO m4 (dQ 47 4) 336 635++(eO m5 (dQ 52 7) 364 666))))
def T7(P:da):BT:=gK (((T6 P).set 3 (λ_=>gD P m5 54 63)).set 12 (λ_=>gT 49)) 323 (w6 P)
def w7(P:da):List cn:=eO m5 [59,60] 407 716
def T8(P:da):BT:=gK (((T7 P).set 3 (λ_=>gD P m6 56 65)).set 12 (λ_=>gT 51)) 407 (w7 P)
def w8(P:da):List cn:=[tE,fi "builtin_function_or_method" [.builtin "type.__prepare__",.type "type"],(dc [en P "__module__" 741 m6,en P "__qualname__" 743 (sv "Matching" 742),en P "__firstlineno__" 745 (.int (347) 744),er P "__init__" 754 434,er P "exact" 763 441,er P "partial" 771 448,er P "partial_of" 781 455,er P "positional" 790 462,er P "is_free" 798 469,er P "rest" 804 474,er P "__static_attributes__" 809 475] 11),tE,fn [ic 349,ic 4,.ref 433,ic 355,ic 4,.ref 440,ic 365,ic 4,.ref 447,ic 372,ic 4,.ref 454,ic 383,ic 4,.ref 461,ic 395,ic 4,.ref 468,ic 398,ic 4,.ref 473],fi "code" [sv "Matching" 736,sv "Matching" 737,cu 738,ic 347,ic 0,ic 0,ic 0,ic 0,.ref 424,.bool false,ic 181,.ref 425,.none,.none,.none,.none,ic 739,ic 347,cu 740],⟨(.type "frame"),none,.plain,⟨[some (.ref 426),some (.ref 3),some (.ref 423),none,some m6,none,some (.ref 0)]⟩⟩]++(iw (mt 62 0) (eG "Matching.__init__") 428 746 .none m6 (jU (mt 62 0))++(iw (mt 62 1) (eG "Matching.exact") 435 755 .none m6 (jU (mt 62 1))++(iw (mt 62 2) (eG "Matching.partial") 442 764 .none m6 (jU (mt 62 2))++(iw (mt 62 3) (eG "Matching.partial_of") 449 772 .none m6 (jU (mt 62 3))++(iw (mt 62 4) (eG "Matching.positional") 456 782 .none m6 (jU (mt 62 4))++(iw (mt 62 5) (eG "Matching.is_free") 463 791 .none m6 (jU (mt 62 5))++(iw (mt 62 6) (eG "Matching.rest") 470 799 .none m6 []++([tp [sv "formals" 805,sv "places" 806,sv "tags" 807,sv "used" 808],(dc [en P "__module__" 741 m6,en P "__firstlineno__" 745 (.int (347) 744),er P "__init__" 754 434,er P "exact" 763 441,er P "partial" 771 448,er P "partial_of" 781 455,er P "positional" 790 462,er P "is_free" 798 469,er P "rest" 804 474,er P "__static_attributes__" 809 475,er P "__dict__" 811 478,er P "__weakref__" 813 479,en P "__doc__" 814 .none] 4),⟨(.type "type"),none,(.cls ⟨"Matching",[.type "object"],[.ref 477,.type "object"],476,"Matching",true,[],[],false,none,false⟩),⟨[none,none,some (sv "Matching" 734),some (sv "Matching" 742),some (.builtin "object.__new__"),some (.bool true)]⟩⟩,fi "getset_descriptor" [sv "__dict__" 810,.ref 477,.builtin "function.__dict__",.builtin "function.__dict__#set"],fi "getset_descriptor" [sv "__weakref__" 812,.ref 477,.builtin "ExceptionGroup.__weakref__",.none],fi "super" [.ref 477,.ref 477,.ref 477],fi "builtin_function_or_method" [.builtin "object.__init_subclass__",.ref 477]]))))))))
def T9(P:da):BT:=gK (((T8 P).set 3 (λ_=>gD P m6 57 66)).set 12 (λ_=>gT 52)) 421 (w8 P)
def w9(P:da):List cn:=eO m6 (dQ 63 3) 482 817++([tp [.none]]++(iw (st 66) (eG "match_names") 502 841 (.ref 501) m6 []++([tp [.none]]++(iw (st 67) (eG "take") 508 847 (.ref 507) m6 []++(eO m7 (dQ 70 7) 513 857)))))
def Bc(P:da):BT:=gK (((T9 P).set 3 (λ_=>gD P m7 70 79)).set 12 (λ_=>gT 64)) 482 (w9 P)
def BM(P:da):List cn:=eO m7 (dQ 77 8) 562 917++(eO m8 [86,87] 614 982++(eO m9 [90,91] 628 1003))
def Bd(P:da):BT:=gK (((Bc P).set 3 (λ_=>gD P m9 83 92)).set 12 (λ_=>gT 76)) 562 (BM P)
def w11(P:da):List cn:=eO m9 (dQ 92 10) 642 1027++(eO kL [104,105] 712 1125)
def Be(P:da):BT:=gK (((Bd P).set 3 (λ_=>gD P kL 96 105)).set 12 (λ_=>gT 88)) 642 (w11 P)
def w12(P:da):List cn:=eO kL (dQ 106 11) 724 1139
def Bf(P:da):BT:=gK (((Be P).set 3 (λ_=>gD P kL 107 116)).set 12 (λ_=>gT 99)) 724 (w12 P)
def w13(P:da):List cn:=eO kL [117,118] 797 1271++([tE,fE,tp [sv "interp" 1292,sv "args" 1293,sv "env" 1294,sv "v" 1295,sv "which" 1296,sv "blanks" 1297],tp [sv "side" 1298],⟨.none,none,(.func (fdo (st 119) "b_trimws" "b_trimws" 0 [] .none .none .none .none none .none .none 0)),⟨[]⟩⟩,fi "code" [sv "b_trimws" 1289,sv "b_trimws" 1290,cu 1291,ic 780,ic 3,ic 0,ic 0,ic 3,.ref 811,.bool true,ic 181,.ref 812,.none,.ref 813,.ref 814,.ref 815,ic 1299,ic 780,cu 1300],⟨(.type "function"),none,(.func (fdo (st 119) "b_trimws" "b_trimws" 3 [] .none .none .none kL none (.ref 816) .none 0)),⟨[]⟩⟩]++(eO kL (dQ 120 3) 818 1302++([tE,fE,tp [sv "interp" 1333,sv "args" 1334,sv "every" 1335,sv "pattern" 1336,sv "value" 1337,sv "v" 1338,sv "ignore" 1339,sv "perl" 1340,sv "fixed" 1341,sv "octets" 1342],tp [sv "every" 1343,sv "sought" 1344,sv "texts" 1345],⟨.none,none,(.func (fdo (st 123) "replace_all" "replace_all" 0 [] .none .none .none .none none .none .none 0)),⟨[]⟩⟩,fi "code" [sv "replace_all" 1330,sv "replace_all" 1331,cu 1332,ic 804,ic 3,ic 0,ic 0,ic 3,.ref 837,.bool true,ic 181,.ref 838,.none,.ref 839,.ref 840,.ref 841,ic 1346,ic 804,cu 1347],⟨(.type "function"),none,(.func (fdo (st 123) "replace_all" "replace_all" 3 [] .none .none .none kL none (.ref 842) .none 0)),⟨[]⟩⟩]++(eO kL (dQ 124 4) 844 1349))))
def Bg(P:da):BT:=gK (((Bf P).set 3 (λ_=>gD P kL 118 127)).set 12 (λ_=>gT 110)) 797 (w13 P)
def w14(P:da):List cn:=eO kL [128] 872 1404++(eO wW (dQ 130 11) 879 1425)
def Bh(P:da):BT:=gK (((Bg P).set 3 (λ_=>gD P wW 130 139)).set 12 (λ_=>gT 122)) 872 (w14 P)
def w15(P:da):List cn:=eO wW (dQ 141 7) 948 1513
def T16(P:da):BT:=gK (((Bh P).set 3 (λ_=>gD P wW 137 146)).set 12 (λ_=>gT 129)) 948 (w15 P)
theorem a0s(w:cQ)(os:dA):hM pw w 11 (some (.ref 6)) 1 396 ⟨T0 w.params,15,{},#[],{},187,os⟩ (i9 ((gH pw).drop 0 |>.take 17) fN dw ⟨0,0,0,0⟩ [i8 ⟨0,0,0,0⟩])=some (.next,⟨T1 w.params,95,{},#[],{},292,os⟩,dw,⟨58,0,68,23⟩):=⋯
theorem a0t(w:cQ)(os:dA):hM pw w 11 (some (.ref 6)) 1 385 ⟨T1 w.params,95,{},#[],{},292,os⟩ (i9 ((gH pw).drop 17 |>.take 12) fN dw ⟨58,0,68,23⟩ [i8 ⟨0,0,0,0⟩])=some (.next,⟨T2 w.params,178,{},#[],{},413,os⟩,dw,⟨151,0,155,16⟩):=⋯
theorem a0u(w:cQ)(os:dA):hM pw w 11 (some (.ref 6)) 1 374 ⟨T2 w.params,178,{},#[],{},413,os⟩ (i9 ((gH pw).drop 29 |>.take 7) fN dw ⟨151,0,155,16⟩ [i8 ⟨0,0,0,0⟩])=some (.next,⟨T3 w.params,226,{},#[],{},493,os⟩,dw,⟨230,0,231,8⟩):=⋯
theorem a0v(w:cQ)(os:dA):hM pw w 11 (some (.ref 6)) 1 264 ⟨T3 w.params,226,{},#[],{},493,os⟩ (i9 ((gH pw).drop 36 |>.take 3) fN dw ⟨230,0,231,8⟩ [i8 ⟨0,0,0,0⟩])=some (.next,⟨T4 w.params,245,{},#[],{},522,os⟩,dw,⟨237,0,237,11⟩):=⋯
theorem a0w(w:cQ)(os:dA):hM pw w 11 (some (.ref 6)) 1 223 ⟨T4 w.params,245,{},#[],{},522,os⟩ (i9 ((gH pw).drop 39 |>.take 1) fN dw ⟨237,0,237,11⟩ [i8 ⟨0,0,0,0⟩])=some (.next,⟨T5 w.params,266,{},#[],{},551,os⟩,dw,⟨238,0,242,25⟩):=⋯
theorem a0x(w:cQ)(os:dA):hM pw w 11 (some (.ref 6)) 1 377 ⟨T5 w.params,266,{},#[],{},551,os⟩ (i9 ((gH pw).drop 40 |>.take 5) fN dw ⟨238,0,242,25⟩ [i8 ⟨0,0,0,0⟩])=some (.next,⟨T6 w.params,323,{},#[],{},621,os⟩,dw,⟨262,0,263,43⟩):=⋯
theorem a0y(w:cQ)(os:dA):hM pw w 11 (some (.ref 6)) 1 382 ⟨T6 w.params,323,{},#[],{},621,os⟩ (i9 ((gH pw).drop 45 |>.take 14) fN dw ⟨262,0,263,43⟩ [i8 ⟨0,0,0,0⟩])=some (.next,⟨T7 w.params,407,{},#[],{},716,os⟩,dw,⟨333,0,337,86⟩):=⋯
theorem a0z(w:cQ)(os:dA):hM pw w 11 (some (.ref 6)) 1 70 ⟨T7 w.params,407,{},#[],{},716,os⟩ (i9 ((gH pw).drop 59 |>.take 3) fN dw ⟨333,0,337,86⟩ [i8 ⟨0,0,0,0⟩])=some (.next,⟨T8 w.params,421,{},#[],{},734,os⟩,dw,⟨346,0,346,8⟩):=⋯
theorem a0A(w:cQ)(os:dA):hM pw w 11 (some (.ref 6)) 1 419 ⟨T8 w.params,421,{},#[],{},734,os⟩ (i9 ((gH pw).drop 62 |>.take 1) fN dw ⟨346,0,346,8⟩ [i8 ⟨0,0,0,0⟩])=some (.next,⟨T9 w.params,482,{},#[],{},817,os⟩,dw,⟨347,0,399,82⟩):=⋯
theorem a0B(w:cQ)(os:dA):hM pw w 11 (some (.ref 6)) 1 375 ⟨T9 w.params,482,{},#[],{},817,os⟩ (i9 ((gH pw).drop 63 |>.take 14) fN dw ⟨347,0,399,82⟩ [i8 ⟨0,0,0,0⟩])=some (.next,⟨Bc w.params,562,{},#[],{},917,os⟩,dw,⟨480,0,485,25⟩):=⋯
theorem XQ(w:cQ)(os:dA):hM pw w 11 (some (.ref 6)) 1 392 ⟨Bc w.params,562,{},#[],{},917,os⟩ (i9 ((gH pw).drop 77 |>.take 15) fN dw ⟨480,0,485,25⟩ [i8 ⟨0,0,0,0⟩])=some (.next,⟨Bd w.params,642,{},#[],{},1027,os⟩,dw,⟨574,0,578,33⟩):=⋯
theorem XS(w:cQ)(os:dA):hM pw w 11 (some (.ref 6)) 1 389 ⟨Bd w.params,642,{},#[],{},1027,os⟩ (i9 ((gH pw).drop 92 |>.take 14) fN dw ⟨574,0,578,33⟩ [i8 ⟨0,0,0,0⟩])=some (.next,⟨Be w.params,724,{},#[],{},1139,os⟩,dw,⟨663,0,676,48⟩):=⋯
theorem XT(w:cQ)(os:dA):hM pw w 11 (some (.ref 6)) 1 371 ⟨Be w.params,724,{},#[],{},1139,os⟩ (i9 ((gH pw).drop 106 |>.take 11) fN dw ⟨663,0,676,48⟩ [i8 ⟨0,0,0,0⟩])=some (.next,⟨Bf w.params,797,{},#[],{},1271,os⟩,dw,⟨764,0,775,42⟩):=⋯
theorem XU(w:cQ)(os:dA):hM pw w 11 (some (.ref 6)) 1 374 ⟨Bf w.params,797,{},#[],{},1271,os⟩ (i9 ((gH pw).drop 117 |>.take 11) fN dw ⟨764,0,775,42⟩ [i8 ⟨0,0,0,0⟩])=some (.next,⟨Bg w.params,872,{},#[],{},1404,os⟩,dw,⟨824,0,843,17⟩):=⋯
theorem XV(w:cQ)(os:dA):hM pw w 11 (some (.ref 6)) 1 373 ⟨Bg w.params,872,{},#[],{},1404,os⟩ (i9 ((gH pw).drop 128 |>.take 13) fN dw ⟨824,0,843,17⟩ [i8 ⟨0,0,0,0⟩])=some (.next,⟨Bh w.params,948,{},#[],{},1513,os⟩,dw,⟨961,0,968,16⟩):=⋯
theorem XW(w:cQ)(os:dA):hM pw w 11 (some (.ref 6)) 1 205 ⟨Bh w.params,948,{},#[],{},1513,os⟩ (i9 ((gH pw).drop 141 |>.take 7) fN dw ⟨961,0,968,16⟩ [i8 ⟨0,0,0,0⟩])=some (.next,⟨T16 w.params,989,{},#[],{},1571,os⟩,dw,⟨1032,0,1145,48⟩):=⋯
end
section
abbrev lE:Option a4:=some (.ref 6)
abbrev p0:c8:=⟨0,0,0,0⟩
abbrev tB:List Frame:=[i8 p0]
abbrev b0:List cw:=gH pw
theorem TF(T:BT)(n:Nat)(l:Life)(g:Array GenState)(d:Drawn)(t:Nat)(os:dA):nr ⟨T,n,l,g,d,t,os⟩=⟨absHeap T n l,g,d,t,os⟩:=rfl
theorem Sj(w:cQ)(os:dA):topGo lM pw w 11 lE 12 ⟨nj w.params,⟨[]⟩,xN,xO,os⟩ (topStub pw)=some ((nr ⟨T0 w.params,15,{},#[],{},187,os⟩),⟨denote lM dw,dw,p0,tB⟩):=⋯
theorem N0(w:cQ)(os:dA):segRun lM pw w 11 lE 1 1 (nr ⟨T0 w.params,15,{},#[],{},187,os⟩) (blockOf (gH pw) fN dw p0 tB)=some (.next,(nr ⟨T0 w.params,15,{},#[],{},187,os⟩),dw,p0):=⋯
theorem Si(w:cQ)(os:dA):rP lM pw w 11 lE 2 (nr ⟨T16 w.params,989,{},#[],{},1571,os⟩) ⟨doneF .next,dw,⟨1032,0,1145,48⟩,tB⟩=some (nr ⟨T16 w.params,989,{},#[],{},1571,os⟩):=⋯
theorem pc{w:cQ}{a n b m N:Nat}{s s':SharedT}{r:bM}{c:Code}{pos p:c8}(e:a+n=b)(h:hM pw w 11 lE 1 m s (i9 (b0.drop a |>.take n) fN c pos tB)=some (.next,s',c,p))(k:rP lM pw w 11 lE N s'.abs (restOf (b0.drop b) fN c p tB)=some r):rP lM pw w 11 lE (m+N) s.abs (restOf (b0.drop a) fN c pos tB)=some r:=by
 subst e
 have e:b0.drop a=(b0.drop a).take n++b0.drop (a+n):=by rw [<-List.drop_drop,C0]
 rw [e]
 exact piece_app (segRun_of (by rw [Fast.te10110043849684766642,Fast.te14364793385576792824];exact h)) k
theorem Wg:b0.drop 148=[]:=⋯
theorem Sh(w:cQ)(os:dA):rP lM pw w 11 lE 2 (nr ⟨T16 w.params,989,{},#[],{},1571,os⟩) (restOf (b0.drop 148) fN dw ⟨1032,0,1145,48⟩ tB)=some (nr ⟨T16 w.params,989,{},#[],{},1571,os⟩):=by
 rw [Wg]
 exact piece_nil (Si w os)
theorem Sg(w:cQ)(os:dA):∃M,Nat.ble M 20000=true/\rP lM pw w 11 lE M ⟨nj w.params,⟨[]⟩,xN,xO,os⟩ (topStub pw)=some (nr ⟨T16 w.params,989,{},#[],{},1571,os⟩):=by
 have k:=Sh w os
 replace k:=pc (a:=141) (n:=7) (b:=148) rfl (XW w os) k
 replace k:=pc (a:=128) (n:=13) (b:=141) rfl (XV w os) k
 replace k:=pc (a:=117) (n:=11) (b:=128) rfl (XU w os) k
 replace k:=pc (a:=106) (n:=11) (b:=117) rfl (XT w os) k
 replace k:=pc (a:=92) (n:=14) (b:=106) rfl (XS w os) k
 replace k:=pc (a:=77) (n:=15) (b:=92) rfl (XQ w os) k
 replace k:=pc (a:=63) (n:=14) (b:=77) rfl (a0B w os) k
 replace k:=pc (a:=62) (n:=1) (b:=63) rfl (a0A w os) k
 replace k:=pc (a:=59) (n:=3) (b:=62) rfl (a0z w os) k
 replace k:=pc (a:=45) (n:=14) (b:=59) rfl (a0y w os) k
 replace k:=pc (a:=40) (n:=5) (b:=45) rfl (a0x w os) k
 replace k:=pc (a:=39) (n:=1) (b:=40) rfl (a0w w os) k
 replace k:=pc (a:=36) (n:=3) (b:=39) rfl (a0v w os) k
 replace k:=pc (a:=29) (n:=7) (b:=36) rfl (a0u w os) k
 replace k:=pc (a:=17) (n:=12) (b:=29) rfl (a0t w os) k
 replace k:=pc (a:=0) (n:=17) (b:=17) rfl (a0s w os) k
 rw [Ja] at k
 exact ⟨_,∅,go_top (Sj w os) (piece_block (N0 w os) k)⟩
end
section
def q1:rF:={pw with main:={pw.main with body:=[st 147]}}
def HB(P:da):bP:=absHeap (T16 P) 989 {}
abbrev sE(w:cQ)(os:dA):bM:=⟨HB w.params,#[],{},1571,os⟩
theorem Sk(w:cQ)(os:dA):rP lM pw w 11 lE 20000 ⟨nj w.params,⟨[]⟩,xN,xO,os⟩ (topStub pw)=some (sE w os):=by
 obtain ⟨M,k,h⟩:=Sg w os
 have h:=topRun_mono (20000 -M) _ _ _ _ h
 rw [pH (uL k),TF] at h
 exact h
theorem V4:∀w:cQ,(fencedOpening lM pw w 20000).map (λs=>(s.heap,s.gens,s.drawn,s.toks))=some (nj w.params,Array.mk [],xN,xO):=
 boot_open ⋯ ∅ (λs=>⋯)
theorem Vo:∀w:cQ,((nj w.params).isNs gR&&(Array.mk []:Array GenState).size==0,(nj w.params).objs.size,(nj w.params).nsMap gR "__annotations__")=(true,11,lE):=λw=>⋯
def lo:List a6:=pw.boundNames.filter λn=>n != "law"
theorem X3(w:cQ)(os:dA):seen ((recsOf q1).map (·.name)) (ownsOf q1) [] {sE w os with gens:=#[]}=expectedOf q1:=⋯
theorem X4(w:cQ)(os:dA):(HB w.params).bltView=bltViewBooted:=⋯
theorem X5(w:cQ)(os:dA):(HB w.params).keysOk (looseW q1 lo) ((recsOf q1).map (·.name)) ((litsOf q1).map (·.1)) ((clssOf q1 (looseW q1 lo)).map (·.name))=true:=⋯
theorem X6(w:cQ)(os:dA):(HB w.params).accountedOkI (BU pw.main.body)=true:=⋯
theorem X7(w:cQ)(os:dA):((HB w.params).isNs gR&&(HB w.params).isNs iB&&tablesOk q1 (HB w.params))=true:=⋯
theorem X8(w:cQ)(os:dA):tabsOk q1 (sE w os)=true:=⋯
theorem X9(w:cQ)(os:dA):pinSeenD q1 (drecsOf q1) (sE w os)=pinGoodD (drecsOf q1):=⋯
theorem Xa(w:cQ)(os:dA):plainSeenE q1 (looseW q1 lo) (sE w os)=plainGoodE q1 (looseW q1 lo):=⋯
theorem Xb(w:cQ)(os:dA):plainSeenD q1 lo (sE w os)=plainGoodD q1 lo:=⋯
theorem Xd(w:cQ)(os:dA):wideSeen q1 (sE w os)=wideGood q1:=⋯
theorem Us(w:cQ)(os:dA):clsSeenW q1 lo (sE w os)=clsGoodW q1 lo:=⋯
theorem lk0(w:cQ)(os:dA):(staticsOk (BU pw.main.body) (nj w.params) (HB w.params)&&namesBound pw (HB w.params)&&gensDone (sE w os)&&laidKept (nj w.params) (HB w.params))=true:=⋯
theorem lk1(w:cQ)(os:dA):openSeen q1 lo (BU pw.main.body) (λ_=>true) true (sE w os)=openGood q1 lo:=by
 unfold openSeen openGood
 have p:=X5 w os
 have q:=X6 w os
 have k:=X7 w os
 rw [dF,dF] at k
 refine lT (X3 w os) (lT (X4 w os) (lT ?_ (lT (X8 w os) (lT (X9 w os) (lT (Xa w os) (lT (Xb w os) (lT (Xd w os) (Us w os))))))))
 show (_&&_&&_&&_&&_&&true&&_)=true
 rw [p,q,k.1.1,k.1.2,k.2]
 rfl
theorem left:LeftO pw q1 lo (λ_=>true) (λs=>s.heap) (λw=>HB w.params) 20000:=
 LeftO.of_pieces (H₀:=nj) (H₁:=HB) (gs₀:=⟨[]⟩) (gs₁:=#[]) (d₀:=xN) (d₁:={}) (k₀:=xO) (k₁:=1571) (m₀:=11) (ann:=lE) (M:=20000) V4 Vo Sk ∅ λw=>funext λos=>lT (lk0 w os) (lT (lk1 w os) rfl)
end
abbrev rw:OpenLaw:=JR
theorem Xe:looksOpen CG=true:=by
 rw [Fast.te12908688711261696721]
 unfold Fast.tw12908688711261696721
 all_goals (repeat refine gY.mpr ⟨?_,?_⟩)
 all_goals decide +kernel
theorem Pc:rw.row.wellSaid=true:=by
 unfold OpenRow.wellSaid OpenRow.partSaid
 rw [show looksOpen rw.row.prog=true from Xe]
 kernel_rfl
theorem law_said:rw.wellSaid=true:=by
 unfold OpenLaw.wellSaid
 rw [Pc]
 kernel_rfl
end Mh.Internal
namespace Mine.Internal
open Mine.Internal.V renaming d->eA,casesOn->bS,ol->k9
open Mine.Internal.Out renaming of->cg,ok->dS,casesOn->ou,bind->bt
open Mine.Internal.D renaming int->iY,str->iJ,none->ox,casesOn->c7,l->dq
open Mine.Internal.Ctl renaming rec->rX,next->h4,ret->rY
def tM(h:bP)(a:b7):Option lN:=(h.get? a).bind λo=>match o.data with
 | .func fd=>some fd
 | _=>none
def DN(h:bP)(a:b7):Option (Array a4):=(h.get? a).bind λo=>match o.data with
 | .fields vs=>some vs
 | _=>none
def G9(h:bP)(a:b7):Option (Array a4):=(h.get? a).bind λo=>match o.data with
 | .seq vs _=>some vs
 | _=>none
theorem O6(e:tM h a=some fd):∃o,h.get? a=some o/\o.data= .func fd:=by
 refine a5 (gZ.mp e) λo k p=>(a7 o k ?_);clear k;obtain ⟨U,U,d,U⟩:=o;induction d with
 | func f=>exact congrArg Data.func (bv p)
 | _=>injection p
theorem KU(e:DN h a=some vs):∃o,h.get? a=some o/\o.data= .fields vs:=by
 refine a5 (gZ.mp e) λo k p=>(a7 o k ?_);clear k;obtain ⟨U,U,d,U⟩:=o;induction d with
 | fields f=>exact congrArg Data.fields (bv p)
 | _=>injection p
theorem LZ(e:G9 h a=some vs):∃o n,h.get? a=some o/\o.data= .seq vs n:=by
 refine a5 (gZ.mp e) λo k p=>?_;have q:∃n,o.data= .seq vs n:=by
  clear k;obtain ⟨U,U,d,U⟩:=o;induction d with
  | seq f n=>exact ⟨n,congrArg (Data.seq · n) (bv p)⟩
  | _=>injection p
 exact xE q λn q=>dU o n k q
def Uj(q:a6):a4->Bool
 | .str k _=>k==q
 | _=>false
def qK(p:b7->Bool):a4->Bool
 | .ref a=>p a
 | _=>false
theorem Dp{p:b7->Bool}(h:qK p v=true):∃a,v= .ref a/\p a=true:=by induction v using xQ<;>first | exact ff h | exact ⟨_,rfl,h⟩
def Fw(h:bP)(k:a4)(q:a6):Bool:=qK (λc=>(DN h c).any λvs=>vs[1]?.any (Uj q)) k
theorem De(e:Fw h p q=true):h.CodeRec p q:=by refine a5 (Dp e) λc t e=>?_;subst t;refine a5 (uU _ _ |>.mp e) λvs y z=>a5 (KU y) λo u w=>a5 (uU _ _ |>.mp z) λv r k=>?_;induction v using xQ<;>first | exact ff k | exact ⟨c,o,vs,_,rfl,u,w,by rw [r,<-beq_iff_eq.mp k]⟩
def Au:D->a4->Bool
 | .none,.none=>true
 | .int i,.int j _=>decide (j=i)
 | .str s,.str t _=>cI s&&decide (t=SS s)
 | _,_=>false
theorem Ej(e:Au d v=true)(O:Ow)(h:bP):DR c O h d v:=by
 induction d using c7<;>induction v using xQ<;>first | exact ff e | exact rfl | skip
 .obtain rfl:=of_decide_eq_true e;exact ⟨_,rfl⟩
 refine xA (gY.mp e) λa b=>?_;clear e;obtain rfl:=of_decide_eq_true b;exact (iT a _ rfl)
def zN:List D->List a4->Bool
 | [],[]=>true
 | d::ds,v::vs=>Au d v&&zN ds vs
 | _,_=>false
theorem Nf:∀{ds:List D} {vs:List a4},zN ds vs=true->∀(O:Ow) (h:bP),DRs c O h ds vs:=by
 intro ds;induction ds with
 | nil=>exact λ{vs} e U U=>by rcases vs with U | U;rfl;exact ff e
 | cons d ds k=>
  intro vs e O h;rcases vs with U | ⟨v,vs⟩
  .exact ff e
  exact .cons (Ej (gY.mp e).1 O h) (k (gY.mp e).2 O h)
def QX:a4->Bool
 | .none=>true
 | _=>false
def Hb(h:bP)(v:a4)(ds:List D):Bool:=(ds.isEmpty&&QX v)||qK (λT=>(G9 h T).any λvs=>!vs.isEmpty&&zN ds vs.toList) v
theorem Qp(e:Hb c.B v ds=true):zQ c v ds:=by
 rcases pM.mp e with e | e
 .refine xA (gY.mp e) λa b=>.inl ⟨lP.mp a,?_⟩;clear e;induction v using xQ<;>first | rfl | exact ff b
 refine a5 (Dp e) λT z e=>?_;subst z;exact a5 (uU _ _ |>.mp e) λvs k p=>cU (LZ k) λo n q y=>xA (gY.mp p) λa b=>.inr ⟨T,o,vs,n,rfl,q,y,by simpa using a,Nf b⟩
def wj(p:Arguments)(ns:List a6):Bool:=p.posonlyargs.isEmpty&&(decide (p.args.map (·.arg)=ns)&&(p.kwonlyargs.isEmpty&&(p.vararg.isNone&&(p.kwarg.isNone&&decide ns.Nodup))))
theorem yw(e:wj p ns=true):PlainP p ns:=by unfold wj at e;simp only [dF,lP,decide_eq_true_eq,Jx] at e;exact qE e λa b c d f g=>⟨a,b,c,d,f,g⟩
def vR(sc:cD):Bool:=decide (sc.kind= .function)&&(!sc.isCoroutine&&!sc.isGenerator)
theorem yf(e:vR sc=true):sc.kind= .function/\sc.isCoroutine=false/\sc.isGenerator=false:=by unfold vR at e;simpa only [dF,decide_eq_true_eq,jF] using e
def jq:FuncBody->List cw
 | .stmts b=>b
 | _=>[]
def EN:FuncBody->Bool
 | .stmts _=>true
 | _=>false
def Gu(h:bP)(tb:List b7)(fd:lN)(fn:Fn)(ns:List a6):Bool:=EN fd.body&&(decide (fd.globals=gR/\fd.builtins=iB)&&(fd.closure.isEmpty&&(wj fd.params (ns.take fn.npar)&&(Fw h fd.code fd.qualname&&(qK (λb=>!tb.contains b) fd.code && (Hb h fd.defaults fn.dflt&&(vR fd.scope&&(decide (ns.length<=fn.nslots/\fn.npar<=ns.length/\fn.dflt.length<=fn.npar/\(fn.bor=true->fn.dflt.length< fn.npar)/\ns.Nodup) && ns.all λn=>decide (fd.scope.names.lookup n=some .local\/fd.scope.names.lookup n=some .cell)))))))))
theorem ip{a b:Bool}(h:(a&&b)=true):a=true/\b=true:=gY.mp h
theorem LQ{b:FuncBody}(h:EN b=true):b= .stmts (jq b):=by induction b using FuncBody.casesOn<;>first | rfl | exact ff h
theorem Xi{P:b7->Prop}{tb:List b7}(k:∀b,P b->b∈tb){v:a4}(h:qK (λb=>!tb.contains b) v=true)(b:b7)(e:v= .ref b):¬P b:=λp=>by subst e;rw [show qK (λb=>!tb.contains b) (.ref b)=!tb.contains b from rfl,C1.mpr (k b p)] at h;injection h
theorem yo{c:Cfg}{tb:List b7}{fa:b7}{fd:lN}{fn:Fn}{ns:List a6}(j:∀b,c.tabs b->b∈tb)(l:tM c.B fa=some fd)(e:Gu c.B tb fd fn ns=true) : FunG c fa fn (fd.code,fd.qualname++ ".<locals>.") fd.scope (jq fd.body) ns:=by refine xA (ip e) λq e=>xA (ip e) λp e=>xA (ip e) λy e=>xA (ip e) λz e=>xA (ip e) λu e=>xA (ip e) λv e=>xA (ip e) λw e=>xA (ip e) λr e=>xA (ip e) λb0 k=>?_;have b:=of_decide_eq_true b0;exact a5 (O6 l) λo m t=>⟨⟨o,fd,m,t,rfl,LQ q,(of_decide_eq_true p).1,(of_decide_eq_true p).2,lP.mp y,yw z,De u,Xi j v,Qp w,rfl⟩,yf r,b.2.1,b.2.2.1,b.1,λn hn=>of_decide_eq_true (dM.mp k n hn),b.2.2.2.2,b.2.2.2.1⟩
section
def gtab:List (Nat×String×String):=[(59,"is_finite","x"),
 (73,"to_whole","x found"),
 (80,"nearest_whole","n d low rest"),
 (87,"exponent","x n d e"),
 (94,"whole_text","n rest row part"),
 (101,"special_text","x"),
 (108,"scaled","x e digits shift"),
 (115,"significant","x digits e n"),
 (122,"without_tail","text end"),
 (136,"fixed_text","x places n text"),
 (143,"measures","x digits side text e count left"),
 (150,"chosen_form","xs digits count left places wide minus x row fixed_width scientific_width"),
 (157,"formed","x form text"),
 (162,"common_texts","xs digits fractions form"),
 (170,"number_text","x digits"),
 (258,"","self"),
 (280,"","self kind items attrs"),
 (301,"room","n"),
 (308,"logical","items"),
 (315,"integer","items"),
 (322,"character","items"),
 (329,"named","v names"),
 (335,"list_of","items names"),
 (342,"length","v kind"),
 (349,"is_vector","v"),
 (356,"is_atomic","v"),
 (363,"share","v"),
 (370,"get_attr","v name"),
 (377,"label_text","kind item"),
 (384,"level_at","texts code"),
 (389,"label_texts","value levels texts"),
 (394,"names_of","v tag dims rows names"),
 (401,"dim_of","v dims"),
 (413,"class_attr","v found"),
 (420,"keep_attrs","target source"),
 (434,"","self formals tags"),
 (441,"","self name place"),
 (448,"","self name"),
 (455,"","self name place tag"),
 (462,"","self place name"),
 (469,"","self place"),
 (474,"","self"),
 (506,"match_names","formals args show matching rest"),
 (512,"take","args formals show places rest values name"),
 (568,"to_text","kind item"),
 (575,"item_as","kind item to notes"),
 (582,"is_atomic_kind","kind"),
 (608,"with_names","v names"),
 (613,"as_kind","v kind notes items"),
 (620,"needed_arg","v name"),
 (627,"flag_arg","v default item"),
 (634,"paste_texts","rows sep count row found place parts text"),
 (641,"paste_vectors","rows sep collapse found"),
 (648,"split_fixed","text sep parts"),
 (655,"substr_of","text start stop first"),
 (662,"substr_assign","text start stop value first last count"),
 (669,"changed_case","text upper parts sign other"),
 (676,"to_upper","text"),
 (683,"to_lower","text"),
 (690,"trim","text which"),
 (697,"starts_with","text head"),
 (704,"sub_fixed","pattern replacement text every at parts start"),
 (711,"repeat_text","text count"),
 (723,"texts_of","interp value"),
 (730,"one_text","v name default"),
 (735,"mapped","interp value fn result"),
 (742,"paste_args","interp args sep rows collapse tag value"),
 (749,"b_paste","interp args env"),
 (754,"b_paste0","interp args env rows"),
 (761,"check_plain","pattern fixed sign"),
 (768,"b_strsplit","interp args env v split fixed perl octets seps rows place sep"),
 (775,"places_arg","v found item"),
 (782,"b_substr","interp args env v start stop texts first last found place result"),
 (789,"b_substring","interp args env v start stop texts first last count found place"),
 (796,"b_substr_assign","interp args env v start stop value first last found place"),
 (803,"b_toupper","interp args env"),
 (810,"b_tolower","interp args env"),
 (817,"b_trimws","interp args env v which blanks side"),
 (822,"paired","u v fn count"),
 (829,"b_starts_with","interp args env u v"),
 (836,"pattern_arg","interp v fixed ignore texts"),
 (843,"replace_all","interp args every pattern value v ignore perl fixed octets sought texts"),
 (850,"b_sub","interp args env"),
 (857,"b_gsub","interp args env"),
 (864,"b_grepl","interp args env pattern v ignore perl fixed octets sought found text"),
 (871,"b_nchar","interp args env v how other keep counts text result name kept attrs"),
 (878,"b_strrep","interp args env v times texts counts found place text count result names"),
 (885,"_law_row","script row cell figure lap"),
 (892,"_law_next","row"),
 (899,"_law_word","row"),
 (904,"_law_texts","row many v"),
 (911,"_law_value","row kind many items lap n v"),
 (916,"_law_read","v found item"),
 (923,"_law_named","v"),
 (928,"_law_asked","fn rows told named_by"),
 (933,"_law_pasted","told between at_end most found spot words which one piece whole_words"),
 (940,"_law_place","row n"),
 (947,"_law_part","words start stop found spot"),
 (954,"_law_put","words start stop fresh found used spot"),
 (959,"_law_cased","words upper small large table"),
 (966,"_law_trimmed","words which"),
 (973,"_law_changed","words aimed fresh every found spot hits"),
 (978,"_law_parted","words between found piece spot"),
 (983,"_law_plain","words exact"),
 (988,"law","script row refused held between at_end rows read found v words names_due first last start stop due spot fresh told put_in side aimed other exact every lack heads counts one many")]
def BH:List Nat->List (List Nat)
 | []=>[[]]
 | c::r=>if c==32 then []::BH r else match BH r with
  | []=>[[c]]
  | w::ws=>(c::w)::ws
def Xh(s:String):List a6:=(BH (eG s).cps.toList).map SS
def jT(i:Nat):b7:=match gtab[i]? with
 | some p=>p.1
 | none=>988
def lF(i:Nat):a6:=match gtab[i]? with
 | some p=>eG p.2.1
 | none=>""
def wS(i:Nat):List a6:=match gtab[i]? with
 | some p=>Xh p.2.2
 | none=>[]
def τ0:Tb:={fn:=gtab.map (λp=>eG p.2.1),gl:=["MOST_LENGTH","BLANKS","LONGEST_TEXT"],cl:=["Vector","Null","Matching"],me:=[("exact",36),("partial",37),("partial_of",38),("positional",39),("is_free",40),("rest",41)],bo:=fns.map (·.bor),xn:="Refusal"}
def yR(b:List cw):List a8:=match b.getLast? with
 | some (.Return (some (.Call _ as _ _)) _)=>as
 | _=>[]
def Hw(q:a6)(b:List cw):LamT:=match (yR b).getLast? with
 | some (.Lambda a e sc p)=>⟨a,e,sc,qH sc,p,q++ "<lambda>"⟩
 | _=>⟨⟨[],[],none,[],[],none,[]⟩,.Constant .none 0 ⟨0,0,0,0⟩,⟨.module,[],false,false,[]⟩,[],⟨0,0,0,0⟩,""⟩
def Ha(s:cw):List cw:=match s with
 | .FunctionDef _ _ b .. =>b
 | _=>[]
def L0:LamT:=Hw "b_trimws.<locals>." (Ha (Mh.Internal.st 119))
def L1:LamT:=Hw "replace_all.<locals>." (Ha (Mh.Internal.st 123))
def kAddrs:List b7:=gtab.map (·.1)++[222,242,261,290,477,221,241,260,289,476,239]
def KP(P:da):Frag:=kAddrs.map λa=>(a,((Mh.Internal.T16 P).get a).getD default)
def cf(w:cQ):Cfg where
 w:=w
 B:=Mh.Internal.HB w.params
 K:=KP w.params
 fa:=jT
 ca:=λi=>match i with | 1=>261 | 2=>477 | _=>290
 xa:=242
 xnm:="Refusal"
 lam:=λl=>if l=105 then some L0 else if l=106 then some L1 else none
 lcd:=λl=>match l with | 105=>816 | _=>842
 ltb:=λl=>match l with | 105=>812 | _=>838
 mg:=(Mh.Internal.HB w.params).nsMap gR
 mb:=(Mh.Internal.HB w.params).nsMap iB
 fnm:=lF
 gnm:=λi=>match i with | 0=>"MOST_LENGTH" | 1=>"BLANKS" | _=>"LONGEST_TEXT"
 cnm:=λi=>match i with | 0=>"Vector" | 1=>"Null" | _=>"Matching"
def FM(a:b7):Option a4->Bool
 | some (.ref b)=>b==a
 | _=>false
theorem MH(h:FM a v=true):v=some (.ref a):=by
 rcases v with _ | v
 .exact ff h
 .induction v with
  | ref b=>rw [beq_iff_eq.mp (show (b==a)=true from h)]
  | _=>exact ff h
def Hp:Option (Option a4)->Bool
 | some none=>true
 | _=>false
theorem QW(h:Hp v=true):v=some none:=by
 rcases v with _ | _ | v<;>first | rfl | exact ff h
def Gr(K:Frag)(C:b7):Bool:=plainGet K C (an 0)&&(hasDictIn K C&&((fO 10).all (λa=>Hp (jo K (.ref C) (an a)))&&(jo K (.ref C) "__setattr__" ==some (some (.builtin "object.__setattr__"))&&plainOver K C)))
theorem vf(h:Gr c.K C=true):Cls c C:=by
 unfold Gr at h
 simp only [dF,dM,jk,beq_iff_eq] at h
 refine H0 h λa b d e f=>?_
 exact ⟨a,b,λx k=>QW (d x k),e,f⟩
section
variable (w:cQ)
theorem wq:(cf w).B=Mh.Internal.HB w.params:=rfl
theorem Wp:(cf w).mg=(Mh.Internal.HB w.params).nsMap gR:=⋯
theorem Wo:(cf w).mb=(Mh.Internal.HB w.params).nsMap iB:=⋯
theorem WM:(Mh.Internal.HB w.params).isNs gR=true:=⋯
theorem WL:(Mh.Internal.HB w.params).isNs iB=true:=⋯
theorem Gv:(cf w).B.Ns gR (cf w).mg:=by
 rw [wq,Wp]
 exact Heap.Ns.of_isNs (WM w)
theorem WE:(cf w).B.Ns iB (cf w).mb:=by
 rw [wq,Wo]
 exact Heap.Ns.of_isNs (WL w)
theorem WN:(cf w).K.In (cf w).B:=Frag.in_of (as:=kAddrs) ⋯ ⋯
theorem WF(i:Nat):Cls (cf w) ((cf w).ca i):=by
 match i with
 | 0=>exact vf ⋯
 | 1=>exact vf ⋯
 | 2=>exact vf ⋯
 | _+3=>exact vf ⋯
theorem tq{a:b7}(h:((cf w).B.get? a).isSome=true):Bs (cf w) a:=lS.mp h
theorem qj{l:Nat}{T:LamT}(h:(cf w).lam l=some T):(l=105/\T=L0)\/(l=106/\T=L1):=by
 have h:(if l=105 then some L0 else if l=106 then some L1 else none)=some T:=h
 by_cases k:l=105
 .rw [if_pos k] at h;exact .inl ⟨k,(bv h).symm⟩
 .rw [if_neg k] at h
  by_cases p:l=106
  .rw [if_pos p] at h;exact .inr ⟨p,(bv h).symm⟩
  .rw [if_neg p] at h;injection h
theorem z3{b:b7}(h:(cf w).tabs b):b=812\/b=838:=by
 obtain ⟨l,T,h,rfl⟩:=h
 rcases qj w h with ⟨rfl,_⟩ | ⟨rfl,_⟩
 .exact .inl rfl
 .exact .inr rfl
theorem WJ:(fO 105).all (λf=>((cf w).mg (lF f)).isNone||FM (jT f) ((cf w).mg (lF f)))=true:=⋯
theorem WG:(fO 105).all (λf=>!(jT f==gB))=true:=⋯
theorem QF{f:Nat}(h:¬f< 105):jT f=988:=by
 unfold jT
 rw [i6 (i7 h)]
theorem EH{f:Nat}(h:¬f< 105):lF f= "" :=by
 unfold lF
 rw [i6 (i7 h)]
theorem FG:(cf w).mg "" =none:=⋯
theorem YG:Gd (cf w) where
 lam:=λl T h=>by
  rcases qj w h with ⟨rfl,_⟩ | ⟨rfl,_⟩
  .exact ⟨tq w (a:=816) ⋯,tq w (a:=812) ⋯⟩
  .exact ⟨tq w (a:=842) ⋯,tq w (a:=838) ⋯⟩
 kin:=WN w
 ktab:=λb p=>by
  rcases z3 w p with rfl | rfl
  .kernel_rfl
  .kernel_rfl
 mods:=tq w ⋯
 cls:=WF w
 nul:=⟨⋯,⋯,⋯,⋯,⋯,⋯⟩
 isi:=⟨⋯,⋯⟩
 cnm:=λi y=>by
  match i,y with
  | 0,_=>kernel_rfl
  | 1,_=>kernel_rfl
  | 2,_=>kernel_rfl
 fnm:=λf v h=>by
  by_cases k:f< 105
  .rcases pM.mp (dM.mp (WJ w) f (jk.mpr k)) with q | q
   .rw [show (cf w).fnm f=lF f from rfl] at h
    rw [h] at q;injection q
   .exact bv (h.symm.trans (MH q))
  .rw [show (cf w).fnm f= "" from EH k,FG] at h;injection h
 fam:=λf=>by
  by_cases k:f< 105
  .have h:=dM.mp WG f (jk.mpr k)
   rw [jF] at h
   exact h
  .rw [show (cf w).fa f=988 from QF k];rfl
 gns:=Gv w
 bns:=WE w
end
end
section
section
variable (w:cQ)
theorem tS:(fO 105).all (λf=>kZ (cf w).K (.ref (jT f)))=true:=⋯
theorem Hn(i:Nat)(h:i< dP):kZ (cf w).K (.ref ((cf w).fa i))=true:=dM.mp (tS w) i (jk.mpr h)
theorem YH:Gf (cf w) where
 keep:=λi v h=>by
  by_cases k:i< 105
  .exact Hn w i k
  rw [show (cf w).fnm i= "" from EH k,FG] at h;injection h
 ckeep:=λi p=>by
  match i,p with
  | 0,_=>exact ⟨⋯,⋯⟩
  | 1,_=>exact ⟨⋯,⋯⟩
  | 2,_=>exact ⟨⋯,⋯⟩
theorem YI:Gn (cf w) where
 init:=λi k=>by
  match i,k with
  | 0,_=>exact ⟨⋯,⋯⟩
  | 1,_=>exact ⟨⋯,⋯⟩
  | 2,_=>exact ⟨⋯,⋯⟩
theorem WA:Blt (cf w) where
 bi:=λb=>by induction b using Bi.casesOn<;>exact ⟨⋯,⋯⟩
 zip:=⟨⋯,⋯⟩
theorem WC:Rng (cf w):=⟨⟨⋯,⋯⟩⟩
def Ho(d:D):Option a4->Bool
 | some v=>Au d v
 | none=>false
theorem QJ(h:Ho d v=true):∃u,v=some u/\∀O h,DR c O h d u:=by
 induction v with
 | none=>injection h
 | some u=>exact ⟨u,rfl,Ej h⟩
theorem tT:((fO 3).all λi=>Ho (gls.getD i .none) ((cf w).mg ((cf w).gnm i)))=true:=⋯
theorem WB:Gls (cf w) where
 gl:=λi d h=>by have p:i< 3:=(gS.mp h).1;have k:=dM.mp (tT w) i (jk.mpr p);rw [fC,h] at k;exact QJ k
theorem WP:(cf w).B.NoLimit:=⟨(Mh.Internal.HB w.params).nsMap cStatics,by rw [wq];exact Heap.Ns.of_isNs ⋯,⋯⟩
theorem Hm:Lf (cf w) where
 inj:=λl q T p h h' k=>by
  rcases qj w h with ⟨rfl,U⟩ | ⟨rfl,U⟩<;>rcases qj w h' with ⟨rfl,U⟩ | ⟨rfl,U⟩
  .exact absurd rfl k
  .exact (by decide:(812:Nat)≠838)
  .exact (by decide:(838:Nat)≠812)
  exact absurd rfl k
 bm:=⟨4,⟨.type "module",some 0,.plain,#[]⟩,⋯,∅,∅,⋯,rfl,rfl,rfl⟩
end
end
section
def EM(i:Nat):Bool:=i==77||i==81
def iR(i:Nat):Fn:=fns.getD i ⟨0,false,[],0,[]⟩
end
section
theorem Ew{n:Nat}(p:Glo c y G n):∀k:List E,PL c y G n k
 | []=>EY
 | q::k=>E0 (gJ p q) (Ew p k)
theorem TL.snoc(he:∀a p,e≠ .Starred a p)(t:T c G A X q y e):∀{k:List E} {es:List a8},TL c G A X q k es->TL c G A X q (k++[y]) (es++[e]):=by
 intro k es v;induction v with
 | nil=>exact .cons he t .nil
 | cons h u U z=>exact .cons h u z
def Gq(xs:List Nat)(k ns:List a6)(sc:cD):Bool:=decide (xs.length=k.length/\xs.Nodup)&&(xs.zip k).all λp=>decide (ns[p.1]? =some p.2/\sc.names.lookup p.2=some .cell)
theorem NI{xs:List Nat}{caps ns:List a6}(h:Gq xs caps ns sc=true):(xs.length=caps.length/\xs.Nodup)/\∀(i x:Nat) (nm:a6),xs[i]? =some x->caps[i]? =some nm->(x,nm)∈ju ns/\sc.names.lookup nm=some .cell:=by refine xA (gY.mp h) λa b=>⟨of_decide_eq_true a,λi x nm k y=>?_⟩;have:(x,nm)∈xs.zip caps:=kR (i:=i) (by rw [List.getElem?_zip_eq_some];exact ⟨k,y⟩);exact xA (of_decide_eq_true (dM.mp b _ this)) λp q=>⟨mem_vis.mpr p,q⟩
theorem FunC.lam{i l k:Nat}{L:LamT}{q0:a6}{y spre:List cw}{ns:List a6}{pre:List S}{as:List E}{xs:List Nat}{f:a8}{es:List a8}{p p':c8}(W:Lf c) (F:FunG c (c.fa i) fn (.ref (c.lcd l),q0) sc y ns) (N:t.bo.getD i false=fn.bor) (x:c.lam l=some L) (b:L.qual=q0++ "<lambda>") (z:L.caps=qH L.scope) (C:∀r,defaultsOf L.params r=([],[])) (O:Gq xs L.caps ns sc=true) (B:k< dP) (Q:fn.body=pre++[.ret (.call k (as++[.lam l xs]))]) (o:y=spre++[.Return (some (.Call f (es++[.Lambda L.params L.body L.scope L.pos]) [] p)) p']) (h:(chkSS t (qJ sc ns fn) pre spre&&(chkL t (qJ sc ns fn) false as es&&mI (qJ sc ns fn) t.fn k f))=true):FunC c t i fn:=by refine ⟨_,sc,y,ns,F,N,λG n u A X r v j=>xA (bY h) λY h=>xA (bY h) λM d=>xA (NI O) λc1 s=>?_⟩;rw [Q,o];refine LK u (I:=(qJ sc ns fn)) v j (Fk (c0 (nw d) λm q g k1 k2=>?_)) Y;subst g;refine xA (u.fn k m k1) λg k3=>?_;clear k1 o h d;subst g;exact Fl u.H u.F v.eo (v.cb.mono (kT n)) (u.K k B) k2 k3 (TL.snoc (λU U e=>by injection e) (VZ u.H W v x b z C c1.1 c1.2 s) ((Ew u.toGlo as).1 M (I:=(qJ sc ns fn)) v).tl)
def Hc(b:List S):List E:=match b.getLast? with
 | some (.ret (.call _ es))=>es.dropLast
 | _=>[]
def He(b:List cw):a8:=match b.getLast? with
 | some (.Return (some (.Call f _ _ _)) _)=>f
 | _=>.Constant .none 0 ⟨0,0,0,0⟩
def Hf(b:List cw):c8:=match b.getLast? with
 | some (.Return (some (.Call _ _ _ p)) _)=>p
 | _=>⟨0,0,0,0⟩
def Hg(b:List cw):c8:=match b.getLast? with
 | some (.Return _ p)=>p
 | _=>⟨0,0,0,0⟩
def fd0:lN:=Mh.Internal.fdo (Mh.Internal.st 119) "b_trimws" "b_trimws" 3 [] .none .none .none (Mh.Internal.sv "vectorcove.textcalls" 1121) none (.ref 816) .none 0
def fd1:lN:=Mh.Internal.fdo (Mh.Internal.st 123) "replace_all" "replace_all" 3 [] .none .none .none (Mh.Internal.sv "vectorcove.textcalls" 1121) none (.ref 842) .none 0
section
variable (w:cQ)
theorem yC(h:(cf w).tabs b):b∈[812,838]:=by
 rcases z3 w h with rfl | rfl
 .exact .head _
 exact .tail _ (.head _)
theorem FunG.cq{c:Cfg}{fa:b7}{fn:Fn}{q p:a4×a6}{sc:cD}{k:List cw}{ns:List a6}(F:FunG c fa fn q sc k ns)(e:q=p):FunG c fa fn p sc k ns:=e▸F
theorem WH:tM (cf w).B 817=some fd0:=⋯
theorem WI:tM (cf w).B 843=some fd1:=⋯
theorem YK:FunC (cf w) τ0 77 (iR 77):=FunC.lam (q0:="b_trimws.<locals>.") (l:=105) (k:=65) (xs:=[6]) (L:=L0) (ns:=wS 77) (pre:=b_b_trimws.dropLast) (as:=Hc b_b_trimws) (spre:=(jq fd0.body).dropLast) (f:=He (jq fd0.body)) (es:=(yR (jq fd0.body)).dropLast) (p:=Hf (jq fd0.body)) (p':=Hg (jq fd0.body)) (Hm w) ((yo (c:=cf w) (tb:=[812,838]) (fa:=817) (fd:=fd0) (fn:=iR 77) (ns:=wS 77) (λb=>yC w) (WH w) ⋯).cq ⋯) ⋯ ⋯ ⋯ ⋯ (λU=>⋯) ⋯ ∅ ⋯ ⋯ ⋯
theorem YL:FunC (cf w) τ0 81 (iR 81):=FunC.lam (q0:="replace_all.<locals>.") (l:=106) (k:=65) (xs:=[11,10,2]) (L:=L1) (ns:=wS 81) (pre:=b_replace_all.dropLast) (as:=Hc b_replace_all) (spre:=(jq fd1.body).dropLast) (f:=He (jq fd1.body)) (es:=(yR (jq fd1.body)).dropLast) (p:=Hf (jq fd1.body)) (p':=Hg (jq fd1.body)) (Hm w) ((yo (c:=cf w) (tb:=[812,838]) (fa:=843) (fd:=fd1) (fn:=iR 81) (ns:=wS 81) (λb=>yC w) (WI w) ⋯).cq ⋯) ⋯ ⋯ ⋯ ⋯ (λU=>⋯) ⋯ ∅ ⋯ ⋯ ⋯
end
end
section
section
variable (w:cQ)
def Hy(K:Frag)(p:a6×Nat):Bool:=(jo K (.ref 477) p.1==some (some (.ref (jT p.2))))&&((typeIn K (.ref (jT p.2))==some (.type "function"))&&((fO 11).all (λa=>!(SS (gO a)==p.1))&&kZ K (.ref (jT p.2))))
theorem Q5{a:Nat}(h:¬a< 11):gO a=gO 10:=by unfold gO;rw [fC,fC,i6 (show 10<=a from c5 (i7 h) rfl)];rfl
theorem YT:(τ0.me.all λp=>Hy (cf w).K p)=true:=⋯
theorem YM(nm:a6)(i:Nat)(h:(nm,i)∈τ0.me):MethOk (cf w) nm i:=by
 have k:=dM.mp (YT w) _ h;unfold Hy at k;simp only [dF,beq_iff_eq,dM,jk,jF] at k;refine pk k λa b d e=>⟨a,b,λx=>?_,e⟩;by_cases p:x< 11
 .exact d x p
 rw [Q5 p];exact d 10 ∅
def rI:lN:=Mh.Internal.fdo (Mh.Internal.mt 36 0) "__init__" "Refusal.__init__" 3 [] .none .none .none (Mh.Internal.sv "vectorcove.errors" 471) none (.ref 238) .none 0
theorem YJ:Xc (cf w) 222 239 rI.scope ⟨235,8,235,12⟩ ⟨235,8,235,20⟩ ⟨235,23,235,30⟩ ⟨235,8,235,30⟩ where
 nmx:=⋯
 keep:=⋯
 chk:=⋯
 set:=⋯
 own:=⋯
 obj:=⋯
 get:=⟨⋯,⋯,⋯⟩
 dict:=⋯
 own9:=⋯
 fn:=⟨⟨.type "function",none,.func rI,#[]⟩,rI,⋯,rfl,rfl,rfl,⋯,⋯,⋯,⋯,yw ⋯,De ⋯,λb p q=>by
  rcases z3 w q with rfl | rfl
  .exact absurd (ez (show fP 238= .ref 812 from p)) ∅
  exact absurd (ez (show fP 238= .ref 838 from p)) ∅,⋯⟩
 kind:=yf ⋯
 nms:=⟨⋯,⋯,λx y=>by
  have k:rI.scope.names.all (λx=>decide (x.2≠ .cell))=true:=⋯
  exact of_decide_eq_true (dM.mp k x y)⟩
def wR(h:bP)(i:Nat):Bool:=(tM h (jT i)).any λfd=>Gu h [812,838] fd (iR i) (wS i)&&(decide (τ0.bo.getD i false=(iR i).bor)&&(EM i||chkSS τ0 (qJ fd.scope (wS i) (iR i)) (iR i).body (jq fd.body)))
theorem YO:((fO 35).all λi=>wR (cf w).B i)=true:=⋯
theorem a0O:((fO 35).all λi=>wR (cf w).B (35+i))=true:=⋯
theorem YQ:((fO 35).all λi=>wR (cf w).B (70+i))=true:=⋯
theorem k_f(i:Nat)(h:i< 105):wR (cf w).B i=true:=by
 by_cases k:i< 35
 .exact dM.mp (YO w) i (jk.mpr k)
 by_cases p:i< 70
 .have:=dM.mp (a0O w) (i -35) (jk.mpr (Jb (i7 k) p))
  rwa [pH (i7 k)] at this
 have:=dM.mp (YQ w) (i -70) (jk.mpr (Jb (i7 p) h))
 rwa [pH (i7 p)] at this
theorem zb{i:Nat}(h:i< 107):fns[i]? =some (iR i):=by unfold iR;rw [fC,fD (show i< fns.length from h)];rfl
theorem WK(i:Nat)(h:i< dP):∃fn,fns[i]? =some fn/\FunC (cf w) τ0 i fn:=by
 refine ⟨iR i,zb (Nat.lt_trans h ∅),a5 (uU _ _ |>.mp (k_f w i h)) λfd e k=>?_⟩;simp only [dF,xK,decide_eq_true_eq] at k;refine dm k λk1 k2 k3=>?_;rcases k3 with k3 | k3
 .unfold EM at k3;simp only [xK,beq_iff_eq] at k3;rcases k3 with rfl | rfl
  .exact YK w
  exact YL w
 exact FunC.of (yo (λb=>yC w) e k1) k2 k3
def Am(L:LamT)(fn:Fn)(k:List a6)(p:E):Bool:=wj L.params k&&(decide (fn.bor=false/\k.length+L.caps.length=fn.npar/\fn.npar<=fn.nslots/\(k++L.caps).Nodup)&&(fn.dflt.isEmpty&&(vR L.scope&&(L.scope.names.all (λy=>decide (y.2≠ .cell))&&(k.all (λn=>decide (L.scope.names.lookup n=some .local)) && (L.caps.all (λn=>decide (L.scope.names.lookup n=some .free))&&chk τ0 (qJ L.scope (k++L.caps) fn) false p L.body))))))
theorem zR{k:Type}{l:List k}{P:k->Prop}[DecidablePred P](h:(l.all λx=>decide (P x))=true):∀x∈l,P x:=λx p=>of_decide_eq_true (dM.mp h x p)
theorem DX{l:Nat}(f:c.lam l=some L)(i:fn.body=[.ret p])(h:Am L fn k p=true):Ax c τ0 l L fn:=by refine xA (ip h) λq e=>xA (ip e) λa0 e=>xA (ip e) λy e=>xA (ip e) λz e=>xA (ip e) λu e=>xA (ip e) λv e=>xA (ip e) λr t=>?_;have b:=of_decide_eq_true a0;refine ⟨k,p,⟨f,yw q,⟨b.1,lP.mp y⟩,b.2.1,b.2.2.1,yf z,zR u,zR v,zR r,b.2.2.2⟩,i,λG n g A X j o m=>gJ g.toGlo p (I:=qJ L.scope (k++L.caps) fn) t (b.1▸m)⟩
theorem YR:Am L0 (iR 105) ["text"] (.call 59 [.v 0,.v 1])=true:=⋯
theorem YS:Am L1 (iR 106) ["text"] (.call 61 [.v 2,.sub (.v 1) (.int 0),.v 0,.v 3])=true:=⋯
theorem WO(l:Nat)(L:LamT)(h:(cf w).lam l=some L):∃fn,fns[l]? =some fn/\Ax (cf w) τ0 l L fn:=by
 rcases qj w h with ⟨rfl,rfl⟩ | ⟨rfl,rfl⟩
 .exact ⟨iR 105,zb ∅,DX h rfl YR⟩
 exact ⟨iR 106,zb ∅,DX h rfl YS⟩
theorem X2:((fO 105).all λi=>decide (τ0.fn[i]? =some (lF i))&&(decide (lF i= "")||((cf w).mg (lF i)).isSome))=true:=⋯
theorem U9:τ0.fn.length=105:=⋯
theorem g_0:Gl2 (cf w) τ0 (b6 fns 0) 0 where
 H:=YG w
 B:=WA w
 L:=WB w
 F:=YH w
 N:=YI w
 R:=WC w
 fn:=λi nm h=>by
  have q:i< 105:=by rw [<-U9];exact (gS.mp h.1).1
  have k:=dM.mp (X2 w) i (jk.mpr q);simp only [dF,xK,decide_eq_true_eq] at k;refine xA k λk1 k2=>?_;obtain rfl:lF i=nm:=bv (k1.symm.trans h.1);exact ⟨rfl,k2.resolve_left h.2⟩
 gl:=λi nm h=>by
  match i,h.1 with
  | 0,h=>exact bv h
  | 1,h=>exact bv h
  | 2,h=>exact bv h
  | _+3,h=>injection h
 cl:=λi nm h=>by
  match i,h.1 with
  | 0,h=>exact bv h
  | 1,h=>exact bv h
  | 2,h=>exact bv h
  | _+3,h=>injection h
 me:=YM w
 K:=λi q A fs s O p vals U U U U U ns=>absurd rfl ns
 KC:=λl T z A fs s O v y ds vals U U U U U ns=>absurd rfl ns
 kp:=Hn w
 NL:=WP w
 Y:=⟨222,239,rI.scope,_,_,_,_,YJ w⟩
 xn:=rfl
theorem WD(m:Nat):Gl2 (cf w) τ0 (b6 fns m) (2*m):=TJ (g_0 w) (WK w) (WO w) m
end
end
section
abbrev rw0:OpenRow:=OpenLaw.row JR
set_option backward.match.sparseCases true in
def a0p(o:Option Bool):Bool:=match (match (match o.map uZ with | some (.bool b)=>some (uZ (!b)) | _=>none) with | some (.bool false)=>some (uZ false) | some (.bool true)=>(match some (uZ true) with | some (.bool x)=>some (uZ x) | _=>none) | _=>none) with
 | some (.bool true)=>true
 | _=>false
theorem S1{xs:List WData}(h:rw0.pre.holds rw0.records {args:=[.list xs]}=true):xs.length<=63:=by
 have e:rw0.pre.holds rw0.records {args:=[.list xs]}=a0p (some (decide ((63:Int)< (xs.length:Int)))):=⋯
 rw [e] at h;by_cases q:(63:Int)< (xs.length:Int)
 .rw [decide_eq_true q] at h;injection h
 exact ni.mp (kX.mp q)
theorem Ui(h:a0I rw0.records d .int=true):∃i,d= .int i:=by
 induction d using JU with
 | int i=>exact ⟨i,rfl⟩
 | _=>exact ff h
theorem QV(xs:List WData)(h:a0H rw0.records xs .int=true):∃is:List Int,xs=is.map .int:=by
 induction xs with
 | nil=>exact ⟨[],rfl⟩
 | cons x xs p=>have h:=gY.mp (show (a0I rw0.records x .int&&a0H rw0.records xs .int)=true from h);refine xE (Ui h.1) λi k=>?_;subst k;refine xE (p h.2) λis k=>?_;clear p h;subst k;exact ⟨i::is,rfl⟩
theorem list_of(h:a0I rw0.records d (.list .int)=true):∃is:List Int,d= .list (is.map .int):=by
 induction d using JU with
 | list xs=>refine xE (QV xs ((Bool.or_false _).symm.trans (show (a0H rw0.records xs .int||false)=true from h))) λis k=>?_;clear h;subst k;exact ⟨is,rfl⟩
 | _=>exact ff h
theorem PH{i:Int}(x:Well P h v (.int i)):∃t,v= .int i t:=by cases x with | int i t=>exact ⟨t,rfl⟩
theorem Ng(x:WellAll P h vs (d::ds)):∃v r,vs=v::r/\Well P h v d/\WellAll P h r ds:=by cases x with | cons a b=>exact ⟨_,_,rfl,a,b⟩
theorem PI(x:WellAll P h vs []):vs=[]:=by cases x;rfl
theorem Nh(O:Ow)(h':bP)(is:List Int):∀{vs:List a4},WellAll P h vs (is.map .int)->DRs c O h' (is.map iY) vs:=by
 induction is with
 | nil=>exact λx=>PI x
 | cons i is k=>exact λx=>let ⟨v,r,e,a,b⟩:=Ng x;⟨v,r,e,PH a,k b⟩
def O1(w:cQ)(a:b7):Ow:=λb=>if b=a then .z else if ((cf w).B.get? b).isSome then .gr else .no
section
variable (w:cQ)
theorem t6:((fO 989).all λb=>!((((Mh.Internal.T16 w.params).get b).getD default).cls== .type "list"))=true:=⋯
theorem Rq(h:(cf w).B.get? b=some o):o.cls≠ .type "list" :=λe=>by
 rw [wq] at h;have p:b< 989:=by have q:=gX h;rwa [show (Mh.Internal.HB w.params).objs.size=989 from absHeap_size ..] at q
 have k:=dM.mp (t6 w) b (jk.mpr p);revert h k;unfold Mh.Internal.HB Heap.get?;rw [absHeap_at,if_pos p];generalize ((Mh.Internal.T16 w.params).get b).getD default=x;intro h k;have q:x=o:=by obtain ⟨c,d,y,z⟩:=x;clear k;induction y using Data.casesOn<;>first | exact bv h | injection h
 rw [q,e] at k;exact absurd k ∅
def oA(P:da)(a:Nat):cn:=((Mh.Internal.T16 P).get a).getD default
def vA(P:da)(a:Nat):Array a4:=match (oA P a).data with
 | .fields vs=>vs
 | _=>#[]
theorem zW{l:Nat}{T:LamT}(h:(cf w).lam l=some T):(cf w).B.TableAt ((cf w).lcd l) ((cf w).ltb l) #[]/\(cf w).B.IsCode ((cf w).lcd l) ((cf w).ltb l) #[]:=by
 rcases qj w h with ⟨rfl,rfl⟩ | ⟨rfl,rfl⟩
 .exact ⟨⟨⟨oA w.params 816,vA w.params 816,⋯,⋯,⋯,⋯⟩,⋯⟩,⟨oA w.params 816,vA w.params 816,eG "/claim/cut.py",1300,3,0,true,181,0,⟨.none,none,.fields #[],#[]⟩,⋯,⋯,⋯,⋯,⋯,⋯,⋯,⋯,rfl,trivial,show (816:Nat)≠812 from by decide⟩⟩
 exact ⟨⟨⟨oA w.params 842,vA w.params 842,⋯,⋯,⋯,⋯⟩,⋯⟩,⟨oA w.params 842,vA w.params 842,eG "/claim/cut.py",1347,3,0,true,181,0,⟨.none,none,.fields #[],#[]⟩,⋯,⋯,⋯,⋯,⋯,⋯,⋯,⋯,rfl,trivial,show (842:Nat)≠838 from by decide⟩⟩
theorem QY(Y:Kp (cf w).B h)(m:h.get? a=some o)(i:o.cls= .type "list"):J (cf w) (X0 []) (g0 (O1 w a)) h:=by
 have t:∀b,Bs (cf w) b->b≠a:=λb ⟨u,k⟩ e=>by rw [e] at k;exact Rq w k (by rw [bv ((Y a u k).symm.trans m)];exact i)
 have v:∀b,Bs (cf w) b->O1 w a b= .gr:=λb k=>by unfold O1;rw [if_neg (t b k),if_pos (lS.mpr k)]
 refine ⟨rfl,λx p e=>by simp [X0] at e,v,λb k=>?_,λe he=>(by cases he),λx y p e=>by simp [X0] at e,λr e=>by simp [X0] at e,λb o e=>⟨o,Y b o e,.refl ..⟩,λl T e=>⟨#[],(zW w e).1.keeps Y,(zW w e).2.keeps Y,.inl rfl⟩⟩;by_cases q:b=a
 .exact ⟨o,q▸m⟩
 by_cases j:((cf w).B.get? b).isSome=true
 .exact xE (lS.mp j) λu e=>⟨u,Y b u e⟩
 refine absurd ?_ k;show (if b=a then Tag.z else if ((cf w).B.get? b).isSome then .gr else .no)= .no;rw [if_neg q,if_neg j]
theorem RQ{h h':bP}{a:b7}{p:cn}{O':Ow}(Y:Kp (cf w).B h)(M:h.get? a=some p)(Q:∀es n,p.data≠ .dict es n)(st:Step (cf w) false (O1 w a) h O' h'):OldK h h':=by
 refine ⟨λb o e=>ck (st b o e) λo' u U l=>?_,λb o e=>let ⟨o',u,_⟩:=st b o e;⟨o',u⟩⟩;have y:O1 w a b= .z/\b=a\/O1 w a b= .gr\/O1 w a b= .no:=by
  unfold O1;by_cases q:b=a
  .rw [if_pos q];exact .inl ⟨rfl,q⟩
  rw [if_neg q];split
  .exact .inr (.inl rfl)
  exact .inr (.inr rfl)
 have k:Like (cf w) (O1 w a b) b o o':=l.resolve_left λm=>by rcases y with ⟨q,U⟩ | q | q<;>rw [q] at m<;>injection m
 have gI:o'.data=o.data->asItWas h h' b o:=λq=>by refine .inl ?_;rw [u];congr 1;have s:=k.sl (by rcases y with ⟨q,U⟩ | q | q<;>rw [q]<;>exact λh=>by injection h) (by rcases y with ⟨q,U⟩ | q | q<;>rw [q]<;>exact λh=>by injection h);have c:=k.cls;have d:=k.dict;clear e;induction o using Obj.casesOn;clear u l k;induction o' using Obj.casesOn;dsimp only at q s c d;rw [q,s,c,d]
 rcases k.data with q | ⟨q,f⟩ | ⟨q,m,f⟩
 .exact gI q
 .rcases q with q | q
  .rcases y with ⟨U,rfl⟩ | r | r
   .refine fY f.dict λes n i=>?_;rw [M] at e;clear gI f l k;obtain rfl:=bv e;exact absurd i (Q es n)
   .rw [r] at q;injection q
   rw [r] at q;injection q
  rcases y with ⟨r,U⟩ | r | r<;>rw [r] at q<;>injection q
 refine cU m λC T j N=>?_;clear y m;subst N;have t:=(zW w j).1.keeps Y;have g:o={cls:=.none,data:=.fields #[]}:=bv (e.symm.trans t.2);have s:=k.sl (by rw [q];exact λh=>by injection h) (by rw [q];exact λh=>by injection h);have c:=k.cls;have d:=k.dict;clear e;subst g;refine .inr (.inl ⟨t.isCodeTable,rfl,#[],?_⟩);induction o' with | mk I G O H=>
 dsimp only at s c d f;subst s;subst c;subst d;cases f with | mk vs v=>exact ⟨v,rfl,u⟩
end
end
end Mine.Internal
namespace Mine.Internal.L
open Mine.Internal.V renaming d->eA,casesOn->bS,ol->k9
open Mine.Internal.Out renaming of->cg,ok->dS,casesOn->ou,bind->bt
open Mine.Internal.D renaming int->iY,str->iJ,none->ox,casesOn->c7,l->dq
open Mine.Internal.Ctl renaming rec->rX,next->h4,ret->rY
def Res{p:Type}(o:Out p)(k:p->Prop)(ke:Tx->Prop):Prop:=@Out.rec p (λU=>Prop) k ke False o
theorem Res.bind{p q:Type}{o:Out p}{h:p->Out q}{k:q->Prop}{ke:Tx->Prop}(r:Res o (λa=>Res (h a) k ke) ke):Res (o.bind h) k ke:=by induction o using ou<;>exact r
theorem Res.mono{q:Type}{o:Out q}{k p:q->Prop}{ke:Tx->Prop}(r:Res o k ke)(h:∀a,k a->p a):Res o p ke:=by
 induction o with
 | ok a=>exact h a r
 | _=>exact r
theorem Res.then{p y:Type}{o:Out p}{h:p->Out y}{q:p->Prop}{k:y->Prop}{ke:Tx->Prop}(r:Res o q ke)(w:∀a,q a->Res (h a) k ke):Res (o.bind h) k ke:=(r.mono w).bind
theorem Res.ah{p q:Type}{o:Out p}{h:p->Out q}{k:q->Prop}{ke:Tx->Prop}(r:Res (o.bind h) k ke):Res o (λa=>Res (h a) k ke) ke:=by induction o using ou<;>exact r
theorem Res.unbind{p:Type}{o:Out p}{k:p->Prop}{ke:Tx->Prop}(r:Res (o.bind λa=>.ok a) k ke):Res o k ke:=by induction o using ou<;>exact r
abbrev KV:=V->Fr->Prop
abbrev KE:=Tx->Prop
abbrev Hd:=Nat->List V->(V->V->Prop)->KE->Prop
def fe(f:Fr):Nat->V:=ob (λU=>.u) (λv U k n=>uO v (λn U=>k n) n) f
def gN(f:Fr)(v:V):Nat->Fr:=ob (λU=>[]) (λa l k n=>uO (v::l) (λn U=>a::k n) n) f
theorem iN:∀(f:Fr) (x:Nat),fe f x=rd f x
 | [],_=>rfl
 | _::_,0=>rfl
 | _::f,x+1=>iN f x
theorem oH(v:V):∀(f:Fr) (x:Nat),gN f v x=f.set x v
 | [],_=>rfl
 | _::_,0=>rfl
 | a::f,x+1=>congrArg (a:: ·) (oH v f x)
def oK{p:Type}(o:Option p)(k:p->Prop):Prop:=kY False k o
theorem hJ{p y:Type}{o:Option p}{k:p->Prop}{h:p->Out y}{q:y->Prop}{ke:KE}(r:oK o k)(w:∀a,k a->Res (h a) q ke):Res ((cg o).bind h) q ke:=by
 induction o with
 | none=>exact r.elim
 | some a=>exact w a r
def dD(v:V)(k:D->Prop):Prop:=bS v False k k (λU=>False) (λxs=>k (.l xs)) (λks vs=>k (.dct ks vs)) (λc as vs=>oK (kE c as vs) k)
theorem sV{k:D->Prop}(h:dD v k):∃d,frz v=some d/\k d:=by
 induction v using bS with
 | u=>exact h.elim
 | w=>exact h.elim
 | oi c as vs=>
  show ∃d,kE c as vs=some d/\k d;have h:oK (kE c as vs) k:=h;induction q:kE c as vs with
  | none=>rw [q] at h;exact h.elim
  | some d=>rw [q] at h;exact (a7 d rfl h)
 | _=>exact (a7 _ rfl h)
theorem eg{y:Type}{k:D->Prop}{h:D×Fr->Out y}{q:y->Prop}(r:dD p.1 k)(w:∀d,k d->Res (h (d,p.2)) q ke):Res ((fz p).bind h) q ke:=by refine a5 (sV r) λd e r=>?_;unfold fz;rw [e];exact w d r
def uo(e:E)(v:V)(k:D->Prop):Prop:=gk (dD v k) (bS v False k k k (λxs=>k (.l xs)) (λks vs=>k (.dct ks vs)) (λc as vs=>oK (kE c as vs) k)) (eN e)
theorem zO{z:Type}{k:D->Prop}{h:D×Fr->Out z}{y:z->Prop}(r:uo e p.1 k)(w:∀d,k d->Res (h (d,p.2)) y ke):Res ((vz e p).bind h) y ke:=by
 obtain ⟨v,f⟩:=p;unfold uo at r;unfold vz;induction q:eN e with
 | false=>rw [q] at r;exact eg r w
 | true=>
  rw [q] at r;have t:∃d,vw v=some d/\k d:=by
   clear w;induction v using bS with
   | w d=>exact (a7 d rfl r)
   | u=>exact r.elim
   | oi c as vs=>exact sV (v:=.oi c as vs) r
   | _=>exact (a7 _ rfl r)
  refine a5 t λd e r=>?_;unfold view;rw [e];exact w d r
def fw(v:V)(k:Prop):Prop:=bS v False (λU=>k) (λU=>False) (λU=>False) (λU=>k) (λU U=>k) (λU U U=>k)
theorem sX{y:Type}{k:Prop}{h:V×Fr->Out y}{q:y->Prop}(r:fw p.1 k)(w:k->Res (h p) q ke):Res ((eh p).bind h) q ke:=by obtain ⟨v,f⟩:=p;induction v using bS<;>first | exact r.elim | exact w r
theorem sL{k:V×Fr->Prop}(r:fw p.1 (k p)):Res (eh p) k ke:=by obtain ⟨v,f⟩:=p;induction v using bS<;>first | exact r.elim | exact r
def x2(d:D)(k:Bool->Prop):Prop:=c7 d (k false) k (λU=>oK (gp d) k) (λU=>oK (gp d) k) (λU=>oK (gp d) k) (λU=>oK (gp d) k) (λU U=>oK (gp d) k) (λU U U=>oK (gp d) k) (λU U=>oK (gp d) k) (λU=>oK (gp d) k) (λU U=>oK (gp d) k)
theorem zM{k:Bool->Prop}(h:x2 d k):oK (gp d) k:=by induction d using c7<;>exact h
def px(v:V)(k:Bool->Prop):Prop:=dD v λd=>x2 d k
theorem tn{y:Type}{k:Bool->Prop}{h:Bool×Fr->Out y}{q:y->Prop}(r:px p.1 k)(w:∀b,k b->Res (h (b,p.2)) q ke):Res ((dL p).bind h) q ke:=by refine Res.bind (eg r λd r=>?_);exact hJ (zM r) λb r=>w b r
def hS:Tx->Tx->Bool
 | [],[]=>true
 | a::x,b::y=>match uP a b with
  | true=>hS x y
  | false=>false
 | _,_=>false
def Bo(a b:D):Option Bool:=match a with
 | .int i=>match b with
  | .int j=>some (i==j)
  | .none=>some false
  | .str _=>some false
  | _=>none
 | .str x=>match b with
  | .str y=>some (hS x y)
  | .none=>some false
  | .int _=>some false
  | _=>none
 | .none=>match b with
  | .none=>some true
  | .str _=>some false
  | .int _=>some false
  | _=>none
 | _=>none
theorem VN(h:SS x=SS y):x=y:=congrArg (λs:a6=>s.cps.toList) h
theorem NC:∀{y:Tx},hS x y=true↔x=y:=by
 induction x with
 | nil=>intro y;induction y using bO with
  | nil=>exact ⟨λU=>rfl,λU=>rfl⟩
  | cons=>exact ⟨(λh=>by injection h),λh=>by injection h⟩
 | cons a x p=>
  intro y;induction y using bO with
  | nil=>exact ⟨(λh=>by injection h),λh=>by injection h⟩
  | cons b y=>
   show (match uP a b with | true=>hS x y | false=>false)=true↔_;by_cases k:a=b
   .rw [k,Nat.beq_refl];exact p.trans ⟨(λh=>by rw [h]),λh=>(CK h).2⟩
   rw [show uP a b=false from Jp.mpr λh=>k (Jd h)];exact ⟨(λh=>by injection h),λh=>absurd (CK h).1 k⟩
theorem Qc(x y:Tx):hS x y=(SS x==SS y):=by rw [Jq,beq_iff_eq,NC];exact ⟨congrArg SS,VN⟩
theorem qu(h:Bo a b=some t):mH a b=some t:=by
 induction a using c7 with
 | int i=>induction b using c7<;>first | (rw [<-h];rfl) | injection h
 | none=>induction b using c7<;>first | (rw [<-h];rfl) | injection h
 | str x=>induction b using c7 with
  | str y=>rw [<-h];show some (SS x==SS y)=_;rw [<-Qc];rfl
  | int y=>rw [<-h];rfl
  | none=>rw [<-h];rfl
  | _=>injection h
 | _=>injection h
def Bp(c:Cm)(a b:D):Option Bool:=match c with
 | .eq=>Bo a b
 | .ne=>(Bo a b).map λt=>!t
 | _=>none
theorem Fz(h:Bp c a b=some t):cZ c a b=some t:=by
 induction c with
 | eq=>exact qu h
 | ne=>refine a5 (iW.mp h) λu e k=>?_;clear h;subst k;show (mH a b).map _=_;rw [qu e];rfl
 | _=>injection h
structure Opt where
 K:Nat
 cm:Cm->D->D->Option Bool
 bn:Op->D->D->Option V
 bi:Bi->List D->Option V
 sm:Sm->D->List D->Option V
 lm:Lm->List D->List D->Option (D×List D)
 sb:D->D->Option D
 au:Op->D->D->Option D
 fo:List Nat->Fr->Option (Out (Ctl×Fr))
 co:List Nat->Fr->Option (V×Fr)
def bV(K:Nat)(e:E)(f:Fr)(r:V×Fr):Prop:=∀m,K<=m->ev (b6 fns m) e f= .ok r
def tJ(Y:Opt)(c:Cm)(a b:D)(k:Bool->Prop):Prop:=kY (kY (oK (cZ c a b) k) k (Bp c a b)) (λt=>cZ c a b=some t/\k t) (Y.cm c a b)
theorem yG{z:Type}{k:Bool->Prop}{h:Bool->Out z}{p:z->Prop}(r:tJ Y c a b k)(w:∀t,k t->Res (h t) p ke):Res ((cg (cZ c a b)).bind h) p ke:=by
 unfold tJ at r;induction y:Y.cm c a b with
 | some t=>rw [y] at r;rw [r.1];exact w t r.2
 | none=>
  rw [y] at r;induction q:Bp c a b with
  | some t=>rw [q] at r;rw [Fz q];exact w t r
  | none=>rw [q] at r;exact hJ r w
def zT(fZ:D->Fr->(Option D->Fr->Prop)->Prop)(ds:List D):Fr->(List D->Fr->Prop)->Prop:=ob (λf k=>k [] f) (λd U p f k=>fZ d f λr f=>p f λq f=>k (kY q (λx=>x::q) r) f) ds
def Hi(fZ:D->Fr->(Ctl->Fr->Prop)->Prop)(ds:List D):Fr->(Ctl->Fr->Prop)->Prop:=ob (λf k=>k .next f) (λd U p f k=>fZ d f λr f=>rX (p f k) (k .next f) (λv=>k (.ret v) f) r) ds
def HR(q:Fr->(Bool->Fr->Prop)->Prop)(p:Fr->(Ctl->Fr->Prop)->Prop)(n:Nat):Fr->(Ctl->Fr->Prop)->Prop:=uO (λU U=>False) (λU y f k=>q f λt f=>gk (k .next f) (p f λr f=>rX (y f k) (k .next f) (λv=>k (.ret v) f) r) t) n
def po{p:Type}(o a:Option p)(k:p->Prop):Prop:=kY (oK o k) (λx=>o=some x/\k x) a
theorem qw{p y:Type}{o a:Option p}{k:p->Prop}{h:p->Out y}{q:y->Prop}(r:po o a k)(w:∀x,k x->Res (h x) q ke):Res ((cg o).bind h) q ke:=by
 induction a with
 | some x=>rw [r.1];exact w x r.2
 | none=>exact hJ r w
abbrev M1:=Fr->KV->KE->Prop
structure M2 where
 s:Fr->(List D->Fr->Prop)->KE->Prop
 a:Fr->KV->KE->Prop
 o:Fr->KV->KE->Prop
structure M3 where
 v:Fr->(Option D->Fr->Prop)->KE->Prop
 t:Fr->(Bool->Fr->Prop)->KE->Prop
def dzO(a b:D):Option V:=match a,b with
 | .str x,.str y=>if nN x y then some (.od (x.map λc=>[c]) (y.map λc=>.str [c])) else none
 | _,_=>none
def B8(f:Fr)(x:Nat)(k:KV):Prop:=bS (fe f x) False (λd=>k (.d d) f) (λd=>k (.d d) f) (λU=>False) (λxs=>k (.d (.l xs)) (gN f (.d (.l xs)) x)) (λks vs=>k (.d (.dct ks vs)) (gN f (.d (.dct ks vs)) x)) (λc as vs=>oK (kE c as vs) λd=>k (.d d) (gN f (.d d) x))
def AO(f:Fr)(x:Nat)(k:KV):Prop:=bS (fe f x) False (λd=>k (.d d) f) (λd=>k (.d d) f) (λU=>False) (λxs=>k (.ol xs) (gN f .u x)) (λks vs=>k (.od ks vs) (gN f .u x)) (λc as vs=>k (.oi c as vs) (gN f .u x))
def AD(f:Fr)(x a:Nat)(k:KV):Prop:=bS (fe f x) False (λd=>oK (mj d a) λd=>k (.d d) f) (λd=>oK (mj d a) λd=>k (.d d) f) (λU=>False) (λU=>False) (λU U=>False) (λc as vs=>oK (fk as vs a) λv=>dD v λd=>k (.d d) (gk f (gN f (.oi c as (dG as vs a (.d d)).2) x) (own v)))
def zS(f:Fr)(x a:Nat)(k:KV):Prop:=bS (fe f x) False (λU=>False) (λU=>False) (λU=>False) (λU=>False) (λU U=>False) (λc as vs=>oK (fk as vs a) λv=>dD v λd=>k (.w d) f)
def bK(b:Bool)(x:Prop):Prop:=gk False x b
def isO:V->Bool
 | .ol _=>true
 | _=>false
def olK(v:V)(k:List D->Prop):Prop:=bS v False (λU=>False) (λU=>False) (λU=>False) k (λU U=>False) (λU U U=>False)
def I7(v:V)(k:Prop):Prop:=match v with
 | .d .none=>k
 | _=>False
section
variable (C:Hd)(Y:Opt)
def zr:M1:=λf k U=>k (.d .none) f
def zi:Bool->M1:=λb f k U=>k (.d (.bool b)) f
def A9:Int->M1:=λi f k U=>k (.d (.int i)) f
def Ai:Tx->M1:=λs f k U=>k (.d (.str s)) f
def zZ:M1:=λU U U=>False
def Al:Nat->M1:=λx f k U=>B8 f x k
def Ac:Nat->M1:=λx f k U=>uO False (λx U=>AO f (x+1) k) x
def A3:Nat->M1:=λx f k U=>dD (fe f x) λd=>k (.w d) f
def A5:Nat->Nat->M1:=λx a f k U=>AD f x a k
def zh:Nat->Nat->M1:=λx a f k U=>zS f x a k
def tS:Nat->M1:=λg f k U=>k (.d (.fn g)) f
def tT:Nat->M1:=λg f k U=>oK gls[g]? λd=>k (.d d) f
def A2:Op->E->E->M1->M1->M1:=λy U U z u f k ke=>z f (λv f=>dD v λp=>u f (λv f=>dD v λq=>po (mq y p q) (Y.bn y p q) λv=>k v f) ke) ke
def Ad:E->M1->M1:=λU q f k ke=>q f (λv f=>dD v λp=>oK (AR p) λd=>k (.d d) f) ke
def Ah:E->M1->M1:=λU p f k ke=>p f (λv f=>px v λb=>k (.d (.bool (!b))) f) ke
def zY:List E->M2->M1:=λU i=>i.a
def AL:List E->M2->M1:=λU i=>i.o
def A4:Cm->E->E->M1->M1->M1:=λc a b y z f k ke=>y f (λv f=>uo a v λp=>z f (λv f=>uo b v λq=>tJ Y c p q λt=>k (.d (.bool t)) f) ke) ke
def zl:Cm->Cm->E->E->E->M1->M1->M1->M1:=λc z U U U u w y f k ke=>u f (λv f=>dD v λp=>w f (λv f=>dD v λq=>tJ Y c p q λt=>gk (k (.d (.bool false)) f) (y f (λv f=>dD v λs=>tJ Y z q s λt=>k (.d (.bool t)) f) ke) t) ke) ke
def A8:E->E->E->M1->M1->M1->M1:=λU U U it p q f k ke=>it f (λv f=>px v λb=>gk (q f (λv f=>fw v (k v f)) ke) (p f (λv f=>fw v (k v f)) ke) b) ke
def Ak:List E->M2->M1:=λU i f k ke=>i.s f (λr f=>k (.d (.t r)) f) ke
def t6:List E->M2->M1:=λU i f k ke=>i.s f (λr f=>k (.ol r) f) ke
def zo:List Tx->List E->M2->M1:=λks U i f k ke=>i.s f (λr f=>bK (ks.length==r.length&&decide (jh ks)) (k (.od ks r) f)) ke
def zg:E->Nat->M1->M1:=λU a i f k ke=>i f (λv f=>dD v λp=>oK (mj p a) λd=>k (.d d) f) ke
def Aj:E->E->M1->M1->M1:=λe U y z f k ke=>y f (λv f=>uo e v λp=>z f (λv f=>dD v λq=>po (kI p q) (Y.sb p q) λd=>gk (k (.d d) f) False (eN e&&!imm d)) ke) ke
def yQ:E->Option E->Option E->M1->M3->M3->M1:=λU U U q y z f k ke=>q f (λv f=>dD v λp=>y.v f (λl f=>z.v f (λu f=>oK (zC p l u) λv=>k v f) ke) ke) ke
def zj:Nat->List E->M2->M1:=λg U i f k ke=>i.s f (λr f=>C g (r.map .d) (λv U=>k v f) ke) ke
def yM:Nat->E->List E->M1->M2->M1:=λg U U p i f k ke=>p f (λv f=>fw v (i.s f (λr f=>C g (v::r.map .d) (λv U=>k v f) ke) ke)) ke
def yL:Nat->Nat->List E->M2->M1:=λg x U i f k ke=>gk (i.s f (λr f=>gk (C g (fe f x::r.map .d) (λv b=>k v (gN f b x)) ke) False (mu (fe f x))) ke) False (lG (fe f x))
def zq:Nat->Nat->List E->M2->M1:=λg x U i f k ke=>gk False (i.s f (λr f=>gk (C g (fe f x::r.map .d) (λv b=>k v (gN f b x)) ke) False (mu (fe f x))) ke) (pn (fe f x))
def yN:E->List E->M1->M2->M1:=λU U y i f k ke=>y f (λv f=>dD v λp=>i.s f (λr f=>match p with
  | .fn g=>bK (decide (g< dP)) (C g (r.map .d) (λv U=>k v f) ke)
  | .clo l q=>C l (r.map .d++q.map .k) (λv U=>k v f) ke
  | _=>False) ke) ke
def Ae:Nat->List E->M2->M1:=λc U i f k ke=>i.s f (λr f=>bK (decide (c< 3)) (C (nW c) (.oi c [] []::r.map .d) (λv b=>I7 v (fw b (k b f))) ke)) ke
def Aa:E->Nat->M1->M1:=λU c i f k ke=>i f (λv f=>dD v λp=>oK (AE p c) λb=>k (.d (.bool b)) f) ke
def AJ:Bi->List E->M2->M1:=λb U i f k ke=>i.s f (λr f=>po (kJ b r) (Y.bi b r) λv=>k v f) ke
def AM:Sm->E->List E->M1->M2->M1:=λm U U q i f k ke=>q f (λv f=>dD v λp=>bK (td m p) (i.s f (λr f=>po (uk m p r) (Y.sm m p r) λv=>k v f) ke)) ke
def AK:Lm->Nat->List E->M2->M1:=λm x U i f k ke=>bK (isO (fe f x)) (i.s f (λr f=>olK (fe f x) λxs=>po (hZ m r xs) (Y.lm m r xs) λq=>k (.d q.1) (gN f (.ol q.2) x)) ke)
def zp:E->E->M1->M1->M1:=λU U y z f k ke=>y f (λv f=>dD v λp=>z f (λv f=>dD v λq=>oK (dzO p q) λv=>k v f) ke) ke
def zm:E->List Nat->Bool->E->Option E->M1->M1->M3->M1:=λe xs rg it c u z ic f k ke=>kY (z f (λv f=>dD v λp=>oK (dN rg p) λy=>zT (λd f k=>oK (cE f xs d) λf=>ic.t f (λt f=>gk (k none f) (u f (λv f=>dD v λd=>k (some d) f) ke) t) ke) y f λq f=>k (.ol q) (a0E f xs)) ke) (λr=>bV Y.K (.comp e xs rg it c) f r/\k r.1 r.2) (Y.co xs f)
def Ab:Nat->List Nat->M1:=λl xs f k U=>oK (vJ f xs) λr=>k (.d (.clo l r.1)) r.2
def Af:M2:=⟨λf k U=>k [] f,λU U U=>False,λU U U=>False⟩
def zn:E->List E->M1->M2->M2:=λU es p i=>⟨λf k ke=>p f (λv f=>dD v λd=>i.s f (λq f=>k (d::q) f) ke) ke,λf k ke=>ob (p f (λv f=>fw v (k v f)) ke) (λU U U=>p f (λv f=>dD v λd=>x2 d λt=>gk (k (.d d) f) (i.a f k ke) t) ke) es,λf k ke=>ob (p f (λv f=>fw v (k v f)) ke) (λU U U=>p f (λv f=>dD v λd=>x2 d λt=>gk (i.o f k ke) (k (.d d) f) t) ke) es⟩
def yO:M3:=⟨λf k U=>k none f,λf k U=>k true f⟩
def yP:E->M1->M3:=λU p=>⟨λf k ke=>p f (λv f=>dD v λd=>k (some d) f) ke,λf k ke=>p f (λv f=>px v λb=>k b f) ke⟩
def fb(e:E):M1:=E.rec (motive_1:=λU=>M1) (motive_2:=λU=>M2) (motive_3:=λU=>M3) zr zi A9 Ai zZ Al Ac A3 A5 zh tS tT (A2 Y) Ad Ah zY AL (A4 Y) (zl Y) A8 Ak t6 zo zg (Aj Y) yQ (zj C) (yM C) (yL C) (zq C) (yN C) (Ae C) Aa (AJ Y) (AM Y) (AK Y) zp (zm Y) Ab Af zn yO yP e
def wv(e:List E):M2:=E.rec_1 (motive_1:=λU=>M1) (motive_2:=λU=>M2) (motive_3:=λU=>M3) zr zi A9 Ai zZ Al Ac A3 A5 zh tS tT (A2 Y) Ad Ah zY AL (A4 Y) (zl Y) A8 Ak t6 zo zg (Aj Y) yQ (zj C) (yM C) (yL C) (zq C) (yN C) (Ae C) Aa (AJ Y) (AM Y) (AK Y) zp (zm Y) Ab Af zn yO yP e
def AC(e:Option E):M3:=E.rec_2 (motive_1:=λU=>M1) (motive_2:=λU=>M2) (motive_3:=λU=>M3) zr zi A9 Ai zZ Al Ac A3 A5 zh tS tT (A2 Y) Ad Ah zY AL (A4 Y) (zl Y) A8 Ak t6 zo zg (Aj Y) yQ (zj C) (yM C) (yL C) (zq C) (yN C) (Ae C) Aa (AJ Y) (AM Y) (AK Y) zp (zm Y) Ab Af zn yO yP e
end
def tH(C:Hd)(G:cB):Prop:=∀g p k ke,C g p k ke->Res (G g p) (λr=>k r.1 r.2) ke
section
variable {C:Hd}{Y:Opt}{G:cB}
def QE(C:Hd)(Y:Opt)(G:cB)(e:E):Prop:=∀{f:Fr} {k:KV} {ke:KE},fb C Y e f k ke->Res (ev G e f) (λr=>k r.1 r.2) ke
def QL(C:Hd)(Y:Opt)(G:cB)(es:List E):Prop:=(∀{f:Fr} {k:List D->Fr->Prop} {ke:KE},(wv C Y es).s f k ke->Res (evs G es f) (λr=>k r.1 r.2) ke)/\(∀{f:Fr} {k:KV} {ke:KE},(wv C Y es).a f k ke->Res (evAnd G es f) (λr=>k r.1 r.2) ke)/\(∀{f:Fr} {k:KV} {ke:KE},(wv C Y es).o f k ke->Res (evOr G es f) (λr=>k r.1 r.2) ke)
def QO(C:Hd)(Y:Opt)(G:cB)(e:Option E):Prop:=(∀{f:Fr} {k:Option D->Fr->Prop} {ke:KE},(AC C Y e).v f k ke->Res (evo G e f) (λr=>k r.1 r.2) ke)/\(∀{f:Fr} {k:Bool->Fr->Prop} {ke:KE},(AC C Y e).t f k ke->Res (evTo G e f) (λr=>k r.1 r.2) ke)
theorem NQ{fZ:D->Fr->Out (Option D×Fr)}{stepK:D->Fr->(Option D->Fr->Prop)->Prop}(hs:∀d f k,stepK d f k->Res (fZ d f) (λr=>k r.1 r.2) ke):∀{ds:List D} {f:Fr} {k:List D->Fr->Prop},zT stepK ds f k->Res (iO fZ ds f) (λr=>k r.1 r.2) ke:=by
 intro ds;induction ds with
 | nil=>exact λh=>h
 | cons d ds p=>intro f k h;refine (hs d _ _ h).then λr h=>(p h).then λq h=>?_;obtain ⟨r,f⟩:=r;induction r using pO<;>exact h
theorem QG{ke:KE}{fZ:D->Fr->Out (Ctl×Fr)}{stepK:D->Fr->(Ctl->Fr->Prop)->Prop}(hs:∀d f k,stepK d f k->Res (fZ d f) (λr=>k r.1 r.2) ke):∀{ds:List D} {f:Fr} {k:Ctl->Fr->Prop},Hi stepK ds f k->Res (fm fZ ds f) (λr=>k r.1 r.2) ke:=by
 intro ds;induction ds with
 | nil=>exact λh=>h
 | cons d ds p=>
  intro f k h;refine (hs d _ _ h).then λr h=>?_;obtain ⟨c,f⟩:=r;induction c with
  | next=>exact p h
  | _=>exact h
theorem SQ{q:Fr->Out (Bool×Fr)}{p:Fr->Out (Ctl×Fr)}{testK:Fr->(Bool->Fr->Prop)->Prop}{bodyK:Fr->(Ctl->Fr->Prop)->Prop}(z:∀f k,testK f k->Res (q f) (λr=>k r.1 r.2) ke)(y:∀f k,bodyK f k->Res (p f) (λr=>k r.1 r.2) ke):∀{n:Nat} {f:Fr} {k:Ctl->Fr->Prop},HR testK bodyK n f k->Res (qX q p n f) (λr=>k r.1 r.2) ke:=by
 intro n;induction n with
 | zero=>exact λh=>h.elim
 | succ n u=>
  intro f k h;refine (z _ _ h).then λr h=>?_;obtain ⟨b,f⟩:=r;induction b with
  | false=>exact h
  | true=>
   exact (y _ _ h).then λr h=>by
    obtain ⟨c,f⟩:=r;induction c with
    | next=>exact u h
    | brk=>exact h
    | ret v=>exact h
theorem zu{k:KV}{ke:KE}(h:oK o λd=>k (.d d) f):Res ((cg o).bind λd=>.ok (.d d,f)) (λr=>k r.1 r.2) ke:=hJ h λd h=>h
theorem SO(h:B8 f x k):Res (match frz (rd f x) with
  | some d=>.ok (.d d,if own (rd f x) then f.set x (.d d) else f)
  | none=>.x) (λr=>k r.1 r.2) ke:=by
 unfold B8 at h;rw [iN] at h;simp only [oH] at h;induction q:rd f x using bS with
 | oi c as vs=>
  rw [q] at h;show Res (match kE c as vs with | some d=>_ | none=>_) _ _;have h:oK (kE c as vs) _:=h;induction q:kE c as vs with
  | none=>rw [q] at h;exact h.elim
  | some d=>rw [q] at h;exact h
 | _=>rw [q] at h;first | exact h.elim | exact h
theorem Ro(h:AO f x k):Res (match own (rd f x),frz (rd f x) with
  | true,_=>.ok (rd f x,f.set x .u)
  | false,some d=>.ok (.d d,f)
  | false,none=>.x) (λr=>k r.1 r.2) ke:=by
 unfold AO at h;rw [iN] at h;simp only [oH] at h;induction q:rd f x using bS with
 | _=>rw [q] at h;first | exact h.elim | exact h
theorem QD{k:KV}{ke:KE}(h:AD f x a k):Res (match rd f x with
  | .oi c as vs=>match fk as vs a with
   | some v=>match frz v with
    | some d=>.ok (.d d,if own v then f.set x (.oi c as (dG as vs a (.d d)).2) else f)
    | none=>.x
   | none=>.x
  | v=>match frz v with
   | some d=>(cg (mj d a)).bind λd=>.ok (.d d,f)
   | none=>.x) (λr=>k r.1 r.2) ke:=by
 unfold AD at h;rw [iN] at h;simp only [oH] at h;induction q:rd f x using bS with
 | oi c as vs=>
  rw [q] at h;dsimp only;have h:oK (fk as vs a) _:=h;induction q:fk as vs a with
  | none=>rw [q] at h;exact h.elim
  | some v=>
   rw [q] at h;refine a5 (sV h) λd e h=>?_;dsimp only;rw [e];induction q:own v with
   | false=>rw [q] at h;exact h
   | true=>rw [q] at h;exact h
 | d d=>rw [q] at h;exact zu h
 | k d=>rw [q] at h;exact zu h
 | _=>rw [q] at h;exact h.elim
theorem NE(h:zS f x a k):Res (match rd f x with
  | .oi _ as vs=>match fk as vs a with
   | some v=>match frz v with
    | some d=>.ok (.w d,f)
    | none=>.x
   | none=>.x
  | _=>.x) (λr=>k r.1 r.2) ke:=by
 unfold zS at h;rw [iN] at h;induction q:rd f x using bS with
 | oi c as vs=>
  rw [q] at h;dsimp only;have h:oK (fk as vs a) _:=h;induction q:fk as vs a with
  | none=>rw [q] at h;exact h.elim
  | some v=>rw [q] at h;refine a5 (sV h) λd e h=>?_;dsimp only;rw [e];exact h
 | _=>rw [q] at h;exact h.elim
theorem Qj{k:KV}{ke:KE}(h:dD (fe f x) λd=>k (.w d) f):Res (match frz (rd f x) with
  | some d=>.ok (.w d,f)
  | none=>.x) (λr=>k r.1 r.2) ke:=by
 rw [iN] at h;refine a5 (sV h) λd e h=>?_;rw [e];exact h
theorem DC(H:tH C G)(i:QL C Y G es){f:Fr}{k:KV}{ke:KE}(h:(wv C Y es).s f (λr f=>gk (C g (fe f x::r.map .d) (λv b=>k v (gN f b x)) ke) False (mu (fe f x))) ke):Res ((evs G es f).bind λr=>if mu (rd r.2 x) then .x else (G g (rd r.2 x::r.1.map .d)).bind λq=>.ok (q.1,r.2.set x q.2)) (λr=>k r.1 r.2) ke:=(i.1 h).then λr h=>by
 rw [iN] at h;simp only [oH] at h;induction q:mu (rd r.2 x) with
 | true=>rw [q] at h;exact h.elim
 | false=>rw [q] at h;exact (H _ _ _ _ h).then λq h=>h
theorem nG{x:Prop}(h:bK b x):b=true/\x:=by
 induction b with
 | false=>exact h.elim
 | true=>exact ⟨rfl,h⟩
theorem UA{x:Prop}(h:I7 v x):v= .d .none/\x:=by
 induction v using bS with
 | d d=>induction d using c7 with
  | none=>exact ⟨rfl,h⟩
  | _=>exact h.elim
 | _=>exact h.elim
theorem FA(hG:∃m,Y.K<=m/\G=b6 fns m)(H:tH C G)(e:E):QE C Y G e:=by
 refine λ{_ _ _}=>E.rec (motive_1:=QE C Y G) (motive_2:=QL C Y G) (motive_3:=QO C Y G) (bad:=id) (none:=id) (bool:=λU {_ _ _} h=>h) (int:=λU {_ _ _} h=>h) (str:=λU {_ _ _} h=>h) (v:=λU {_ _ _} h=>SO h) (mov:=λx=>?mov) (bor:=λU {_ _ _} h=>Qj h) (f:=λU U {_ _ _} h=>QD h) (bf:=λU U {_ _ _} h=>NE h) (fn:=λU {_ _ _} h=>h) (gl:=λg {_ _ _} h=>zu h) (b:=λop a b o n {_ _ _} h=>(o h).then λr h=>eg h λp h=>(n h).then λr h=>eg h λq h=>qw h λv h=>h) (neg:=λa o {_ _ _} h=>(o h).then λr h=>eg h λp h=>hJ h λv h=>h) (not:=λa o {_ _ _} h=>by show Res (bt (bt _ _) _) _ _;exact Res.bind ((o h).then λr h=>Res.ah (tn h λb h=>h))) (and:=λes i {_ _ _} h=>i.2.1 h) (or:=λes i {_ _ _} h=>i.2.2 h) (c:=λc a b o n {_ _ _} h=>(o h).then λr h=>zO h λp h=>(n h).then λr h=>zO h λq h=>yG h λt h=>h) (cmp2:=λc c' a b b' o n ib'=>?cmp2) (i:=λt a b it o n=>?ife) (t:=λes i {_ _ _} h=>(i.1 h).bind) (list:=λes i {_ _ _} h=>(i.1 h).bind) (dict:=λks es i {_ _ _} h=>(i.1 h).then λr h=>by refine xA (nG h) λe h=>?_;rw [if_pos e];exact h) (attr:=λe a i {_ _ _} h=>(i h).then λr h=>eg h λp h=>hJ h λv h=>h) (sub:=λe i j ii=>?sub) (slice:=λe l u j il iu {_ _ _} h=>(j h).then λr h=>eg h λp h=>(il.1 h).then λl h=>(iu.1 h).then λq h=>hJ h λv h=>h) (call:=λg es i {_ _ _} h=>(i.1 h).then λr h=>(H _ _ _ _ h).bind) (co:=λg e es j i {_ _ _} h=>(j h).then λr h=>sX h λh=>(i.1 h).then λq h=>(H _ _ _ _ h).bind) (cb:=λg x es i=>?Q) (meth:=λg x es i=>?meth) (cv:=λe es j i=>?M) (new:=λc es i=>?new) (isi:=λe c i {_ _ _} h=>(i h).then λr h=>eg h λp h=>hJ h λv h=>h) (bi:=λb es i {_ _ _} h=>(i.1 h).then λr h=>qw h λv h=>h) (sm:=λm e es j i=>?sm) (lm:=λm x es i=>?lm) (z:=λa b o n=>?B) (comp:=λe xs rg it c j A ic=>?comp) (lam:=λl xs {f _ _} h=>hJ h λr h=>h) ?nil ?cons ?I ?O e;case mov=>
  induction x using gF with
  | zero=>exact λh=>h.elim
  | succ x=>exact λh=>Ro h
 case cmp2=>
  exact λh=>(o h).then λr h=>eg h λp h=>(n h).then λr h=>eg h λq h=>yG h λt h=>by
   induction t with
   | false=>exact h
   | true=>exact (ib' h).then λr h=>eg h λs h=>yG h λt h=>h
 case ife=>
  exact λh=>Res.bind ((it h).then λr h=>Res.ah (tn h λb h=>by
   induction b with
   | false=>exact (n h).then λr h=>sL (k:=λr=>_) h
   | true=>exact (o h).then λr h=>sL (k:=λr=>_) h))
 case sub=>
  exact λh=>(j h).then λr h=>zO h λp h=>(ii h).then λr h=>eg h λq h=>qw h λd h=>by
   induction q:(eN e&&!imm d) with
   | true=>rw [q] at h;exact h.elim
   | false=>rw [q] at h;exact h
 case Q=>
  intro f k ke h;show Res (if lG (rd f x)=true then _ else _) _ ke;have h:gk _ False (lG (fe f x)):=h;rw [iN] at h;induction q:lG (rd f x) with
  | true=>rw [q] at h;exact h.elim
  | false=>rw [q] at h;exact DC H i h
 case meth=>
  intro f k ke h;show Res (if pn (rd f x)=true then _ else _) _ ke;have h:gk False _ (pn (fe f x)):=h;rw [iN] at h;induction q:pn (rd f x) with
  | false=>rw [q] at h;exact h.elim
  | true=>rw [q] at h;exact DC H i h
 case M=>
  exact λh=>(j h).then λr h=>eg h λp h=>(i.1 h).then λq h=>by
   induction p using c7 with
   | fn g=>refine xA (nG h) λe h=>?_;dsimp only;rw [if_pos (of_decide_eq_true e)];exact (H _ _ _ _ h).bind
   | clo l cs=>exact (H _ _ _ _ h).bind
   | _=>exact h.elim
 case new=>exact λh=>(i.1 h).then λr h=>by refine xA (nG h) λe h=>?_;rw [if_pos (of_decide_eq_true e)];refine (H _ _ _ _ h).then λq h=>?_;refine xA (UA h) λe h=>?_;rw [e];exact sL (k:=λr=>_) h
 case sm=>exact λh=>(j h).then λr h=>eg h λp h=>by refine xA (nG h) λe h=>?_;rw [if_pos e];exact (i.1 h).then λr h=>qw h λv h=>h
 case lm=>
  intro f k ke h;refine xA (nG h) λe h=>?_;rw [iN] at e;show Res (match rd f x with | .ol _=>_ | _=>_) _ ke;induction q:rd f x using bS with
  | ol xs=>
   refine (i.1 h).then λr h=>?_;rw [iN] at h;simp only [oH] at h;induction q:rd r.2 x using bS with
   | ol xs=>rw [q] at h;exact qw (k:=λq:D×List D=>k (.d q.1) (List.set r.2 x (.ol q.2))) h λq h=>h
   | _=>rw [q] at h;exact h.elim
  | _=>rw [q] at e;injection e
 case B=>
  exact λh=>(o h).then λr h=>eg h λp h=>(n h).then λr h=>eg h λq h=>by
   induction p using c7 with
   | str x=>induction q using c7 with
    | str y=>
     dsimp only;have h:oK (if nN x y then _ else none) _:=h;induction w:nN x y with
     | false=>rw [w] at h;exact h.elim
     | true=>rw [w] at h;exact h
    | _=>exact h.elim
   | _=>exact h.elim
 case comp=>
  intro f k ke h;have h:kY (motive:=λU=>Prop) _ (λr=>bV Y.K (.comp e xs rg it c) f r/\k r.1 r.2) (Y.co xs f):=h;induction q:Y.co xs f with
  | some r=>rw [q] at h;refine a5 hG λm hm ρ=>?_;clear hG H j A ic;subst ρ;rw [h.1 m hm];exact h.2
  | none=>
  rw [q] at h;refine (A h).then λr h=>eg h λp h=>hJ h λN h=>?_;have h:zT (λd f k=>oK (cE f xs d) λf=>(AC C Y c).t f (λt f=>gk (motive:=λU=>Prop) (k none f) (fb C Y e f (λv f=>dD v λd=>k (some d) f) ke) t) ke) N r.2 (λq f=>k (.ol q) (a0E f xs)):=h;refine Res.bind (NQ (k:=λq f=>k (.ol q) (a0E f xs)) (λd f k h=>?_) h);refine hJ h λf h=>(ic.2 h).then λt h=>?_;obtain ⟨b,f⟩:=t;induction b with
  | false=>exact h
  | true=>exact (j h).then λr h=>eg h λd h=>h
 case nil=>exact ⟨λh=>h,λh=>h.elim,λh=>h.elim⟩
 case cons=>
  intro e es j i;refine ⟨λh=>(j h).then λr h=>eg h λp h=>(i.1 h).bind,λ{f k ke} h=>?_,λ{f k ke} h=>?_⟩
  .induction es using bO with
   | nil=>exact (j h).then λr h=>sL (k:=λr=>_) h
   | cons e' es=>
    exact (j h).then λr h=>eg h λp h=>hJ (zM h) λt h=>by
     induction t with
     | false=>exact h
     | true=>exact i.2.1 h
  induction es using bO with
  | nil=>exact (j h).then λr h=>sL (k:=λr=>_) h
  | cons e' es=>
   exact (j h).then λr h=>eg h λp h=>hJ (zM h) λt h=>by
    induction t with
    | true=>exact h
    | false=>exact i.2.2 h
 case I=>exact ⟨λh=>h,λh=>h⟩
 case O=>exact λe j=>⟨λh=>(j h).then λr h=>eg h λd h=>h,λh=>(j h).then λr h=>Res.unbind (tn h λb h=>h)⟩
end
abbrev KS:=Ctl->Fr->Prop
def Wa(x a:Nat)(v:V)(f:Fr):Out (Ctl×Fr):=match rd f x with
  | .oi c as vs=>if as.length< 100&&qP v then .ok (.next,f.set x (.oi c (dG as vs a v).1 (dG as vs a v).2)) else .x
  | .d (.y ..)=>match a,v with
   | 3,.d (.bool _)=>.ok (.next,f)
   | _,_=>.x
  | _=>.x
def Wc(x:Nat)(d i:D)(f:Fr):Out (Ctl×Fr):=match rd f x,i with
  | .od ks vs,.str k=>if k==jr||decide (df< ks.length) then .x else .ok (.next,f.set x (.od (dO ks vs k d).1 (dO ks vs k d).2))
  | _,_=>.x
def We(x a:Nat)(d i:D)(f:Fr):Out (Ctl×Fr):=match rd f x with
  | .oi c as vs=>match fk as vs a,i with
   | some (.od ks ds),.str k=>if k==jr||decide (df< ks.length) then .x else .ok (.next,f.set x (.oi c as (dG as vs a (.od (dO ks ds k d).1 (dO ks ds k d).2)).2))
   | some (.ol xs),.int j=>if 0<=j&&decide (j.toNat< xs.length)&&decide (xs.length<=df) then .ok (.next,f.set x (.oi c as (dG as vs a (.ol (xs.set j.toNat d))).2)) else .x
   | _,_=>.x
  | _=>.x
def u6(f:Fr)(x:Nat)(v:V)(k:Fr->Prop):Prop:=bS (fe f x) (k (gN f v x)) (λU=>k (gN f v x)) (λU=>False) (λU=>k (gN f v x)) (λU=>k (gN f v x)) (λU U=>k (gN f v x)) (λU U U=>k (gN f v x))
theorem yX{y:Type}{x:Nat}{k:Fr->Prop}{h:Fr->Out y}{p:y->Prop}(r:u6 f x v k)(w:∀f,k f->Res (h f) p ke):Res ((put f x v).bind h) p ke:=by
 unfold u6 at r;rw [iN] at r;simp only [oH] at r;unfold put;induction q:rd f x using bS with
 | k d=>rw [q] at r;exact r.elim
 | _=>rw [q] at r;exact w _ r
def wX(o:Out (Ctl×Fr))(k:KS):Prop:=Out.rec (λr=>k r.1 r.2) (λU=>False) False o
theorem zv{k:KS}(h:wX o k):Res o (λr=>k r.1 r.2) ke:=by
 induction o with
 | ok=>exact h
 | _=>exact h.elim
def dK(v:V)(k:D->Prop):Prop:=bS v False k (λU=>False) (λU=>False) (λU=>False) (λU U=>False) (λU U U=>False)
def raK(v:V)(ke:KE):Prop:=match v with
 | .d (.str m)=>ke m
 | _=>False
def mB(K:Nat)(s:S)(f:Fr)(o:Out (Ctl×Fr)):Prop:=∀m,K<=m->ex (b6 fns m) s f=o
abbrev de(K:Nat)(s:S)(f f':Fr):Prop:=mB K s f (.ok (.next,f'))
section
variable (C:Hd)(Q:Opt)
abbrev N1:=Fr->KS->KE->Prop
def GP(x:Nat)(e:E):N1:=λf k ke=>fb C Q e f (λv f=>fw v (u6 f x v (k .next))) ke
def G6(xs:List Nat)(e:E):N1:=λf k ke=>fb C Q e f (λv f=>dD v λp=>oK (cE f xs p) (k .next)) ke
def G3(x a:Nat)(e:E):N1:=λf k ke=>fb C Q e f (λv f=>fw v (wX (Wa x a v f) k)) ke
def G4(x:Nat)(i e:E):N1:=λf k ke=>fb C Q e f (λv f=>dD v λp=>gk (fb C Q i f (λv f=>dD v λq=>wX (Wc x p q f) k) ke) False (lG (fe f x))) ke
def G5(x a:Nat)(i e:E):N1:=λf k ke=>fb C Q e f (λv f=>dD v λp=>bK (Bt (fe f x) a) (fb C Q i f (λv f=>dD v λq=>wX (We x a p q f) k) ke)) ke
def GQ(x:Nat)(q:Op)(e:E):N1:=λf k ke=>dK (fe f x) λo=>fb C Q e f (λv f=>dD v λp=>po (wo q o p) (Q.au q o p) λd=>u6 f x (.d d) (k .next)) ke
def GS(t:E)(_ _:List S)(a b:N1):N1:=λf k ke=>fb C Q t f (λv f=>px v λt=>gk (b f k ke) (a f k ke) t) ke
def GW(t:E)(_:List S)(b:N1):N1:=λf k ke=>HR (λf k=>fb C Q t f (λv f=>px v λt=>k t f) ke) (λf k=>b f k ke) Av f k
def GR(xs:List Nat)(rg:Bool)(it:E)(bs:List S)(b:N1):N1:=λf k ke=>kY (fb C Q it f (λv f=>dD v λp=>oK (dN rg p) λq=>Hi (λd f k=>oK (cE f xs d) λf=>b f k ke) q f k) ke) (λo=>mB Q.K (.for xs rg it bs) f o/\Res o (λr=>k r.1 r.2) ke) (Q.fo xs f)
def GU(e:E):N1:=λf k ke=>fb C Q e f (λv f=>fw v (k (.ret v) f)) ke
def G8(e:E):N1:=λf k ke=>fb C Q e f (λv f=>dD v λU=>k .next f) ke
def F9(e:E):N1:=λf U ke=>fb C Q e f (λv U=>raK v ke) ke
def GV(x:Nat)(e:E):N1:=λf k ke=>fb C Q e f (λv f=>fw v (u6 f x v (k .next))) λm=>bK (cI m) (k (.ret (.d (.str m))) (f.map λU=>.u))
def G7(_:S)(_:List S)(a b:N1):N1:=λf k ke=>a f (λc f=>rX (b f k ke) (k .brk f) (λv=>k (.ret v) f) c) ke
def exK(s:S):N1:=S.rec (motive_1:=λU=>N1) (motive_2:=λU=>N1) (λU U U=>False) (GP C Q) (G6 C Q) (G3 C Q) (G4 C Q) (G5 C Q) (GQ C Q) (GS C Q) (GW C Q) (GR C Q) (GU C Q) (λf k U=>k .brk f) (G8 C Q) (F9 C Q) (GV C Q) (λf k U=>k .next f) G7 s
def fT(s:List S):N1:=S.rec_1 (motive_1:=λU=>N1) (motive_2:=λU=>N1) (λU U U=>False) (GP C Q) (G6 C Q) (G3 C Q) (G4 C Q) (G5 C Q) (GQ C Q) (GS C Q) (GW C Q) (GR C Q) (GU C Q) (λf k U=>k .brk f) (G8 C Q) (F9 C Q) (GV C Q) (λf k U=>k .next f) G7 s
end
section
variable {C:Hd}{Q:Opt}{G:cB}
def QS(C:Hd)(Q:Opt)(G:cB)(s:S):Prop:=∀{f:Fr} {k:KS} {ke:KE},exK C Q s f k ke->Res (ex G s f) (λr=>k r.1 r.2) ke
def HS(C:Hd)(Q:Opt)(G:cB)(s:List S):Prop:=∀{f:Fr} {k:KS} {ke:KE},fT C Q s f k ke->Res (exs G s f) (λr=>k r.1 r.2) ke
theorem vD(j:∃m,Q.K<=m/\G=b6 fns m)(H:tH C G)(s:List S):HS C Q G s:=by
 have E:∀e,QE C Q G e:=λe {_ _ _} h=>FA j H e h;refine λ{_ _ _}=>S.rec_1 (motive_1:=QS C Q G) (motive_2:=HS C Q G) (bad:=id) (a:=λx e {_ _ _} h=>(E e h).then λr h=>sX h λh=>yX h λf h=>h) (sT:=λxs e {_ _ _} h=>(E e h).then λr h=>eg h λp h=>hJ h λf h=>h) (sA:=λx a e {_ _ _} h=>(E e h).then λr h=>sX h λh=>zv h) (sI:=λx i e=>?AA) (sP:=λx a i e=>?z) (aug:=λx B e=>?aug) (ite:=λt a b I y=>?ite) (w:=λt b y {_ _ ke} h=>SQ (testK:=λf k=>fb C Q t f (λv f=>px v λt=>k t f) ke) (bodyK:=λf k=>fT C Q b f k ke) (λf k h=>(E t h).then λr h=>Res.unbind (tn h λb h=>h)) (λf k h=>y h) h) («for»:=λxs rg it b y=>?l) (ret:=λe {_ _ _} h=>(E e h).then λr h=>sX h λh=>h) (brk:=λ{_ _ _} h=>h) (expr:=λe {_ _ _} h=>(E e h).then λr h=>eg h λp h=>h) (raise:=λe=>?raise) (tryA:=λx e=>?tryA) ?nil ?u s;case AA=>
  exact λh=>(E e h).then λr h=>eg h λp h=>by
   rw [iN] at h;induction q:lG (rd r.2 x) with
   | true=>rw [q] at h;exact h.elim
   | false=>rw [q] at h;exact (E i h).then λr h=>eg h λq h=>zv h
 case z=>exact λh=>(E e h).then λr h=>eg h λp h=>by refine xA (nG h) λq h=>?_;rw [iN] at q;dsimp only;rw [q];exact (E i h).then λr h=>eg h λq h=>zv h
 case aug=>
  intro f k ke h;show Res (match rd f x with | .d o=>_ | _=>_) _ ke;have h:dK (fe f x) _:=h;rw [iN] at h;induction q:rd f x using bS with
  | d o=>rw [q] at h;exact (E e h).then λr h=>eg h λp h=>qw h λd h=>yX h λf h=>h
  | _=>rw [q] at h;exact h.elim
 case ite=>
  exact λh=>Res.bind ((E t h).then λr h=>Res.ah (tn h λb h=>by
   induction b with
   | false=>exact y h
   | true=>exact I h))
 case l=>
  intro f k ke h;have h:kY (motive:=λU=>Prop) _ (λo=>mB Q.K (.for xs rg it b) f o/\Res o (λr=>k r.1 r.2) ke) (Q.fo xs f):=h;induction q:Q.fo xs f with
  | some o=>rw [q] at h;refine a5 j λm N O=>?_;clear j H E y;subst O;rw [h.1 m N];exact h.2
  | none=>
  rw [q] at h;exact (E it h).then λr h=>eg h λp h=>hJ h λM h=>QG (ke:=ke) (stepK:=λd f k=>oK (cE f xs d) λf=>fT C Q b f k ke) (λd f k h=>hJ h λf h=>y h) h
 case raise=>
  exact λh=>(E e h).then λr h=>by
   obtain ⟨v,f⟩:=r;induction v using bS with
   | d d=>induction d using c7 with
    | str m=>exact h
    | _=>exact h.elim
   | _=>exact h.elim
 case tryA=>
  intro f k ke h;have h:=E e h;show Res (match ev G e f with | .ok r=>_ | .err m=>_ | .x=>_) _ ke;induction q:ev G e f with
  | ok r=>rw [q] at h;exact sX (show fw r.1 _ from h) λh=>yX h λf h=>h
  | err m=>rw [q] at h;refine xA (nG (show bK (cI m) _ from h)) λe h=>?_;dsimp only;rw [if_pos e];exact h
  | x=>rw [q] at h;exact h
 case nil=>exact λh=>h
 case u=>
  exact λs A is g {_ _ _} h=>(is h).then λr h=>by
   obtain ⟨c,f⟩:=r;induction c with
   | next=>exact g h
   | _=>exact h
def zB(C:Hd)(Q:Opt)(fn:Fn)(Y:List V)(k:V->V->Prop)(ke:KE):Prop:=oK (oM fn Y) λf=>fT C Q fn.body f (λc f=>rX (Res (back fn f) (λb=>k (.d .none) b) ke) False (λv=>Res (back fn f) (λb=>k v b) ke) c) ke
theorem MZ(p:∃m,Q.K<=m/\G=b6 fns m)(H:tH C G){fn:Fn}{k:V->V->Prop}{ke:KE}(h:zB C Q fn Y k ke):Res (kB G fn Y) (λr=>k r.1 r.2) ke:=hJ h λf h=>(vD p H _ h).then λr h=>by
  obtain ⟨c,f⟩:=r;induction c with
  | next=>exact Res.then h λU h=>h
  | brk=>exact h.elim
  | ret v=>exact Res.then h λU h=>h
end
abbrev eQ:=Nat->List V->Option (Out (V×V))
def At(K:Nat)(i:Nat)(Y:List V)(r:Out (V×V)):Prop:=∀m,K<=m->b6 fns m i Y=r
def dy(o:eQ)(Q:Opt)(n:Nat):Hd:=uO (λg Y k ke=>oK (o g Y) λr=>At Q.K g Y r/\Res r (λr=>k r.1 r.2) ke) (λU p g Y k ke=>kY (oK fns[g]? λfn=>zB p Q fn Y k ke) (λr=>At Q.K g Y r/\Res r (λr=>k r.1 r.2) ke) (o g Y)) n
theorem oG(o:eQ)(Q:Opt):∀(n m:Nat),Q.K+n<=m->tH (dy o Q n) (b6 fns m):=by
 intro n;induction n with
 | zero=>
  intro m p g Y k ke h;have h:oK (o g Y) _:=h;induction q:o g Y with
  | none=>rw [q] at h;exact h.elim
  | some r=>rw [q] at h;rw [h.1 m (ZF p)];exact h.2
 | succ n z=>
  intro m p g Y k ke h;have h:kY (oK fns[g]? λfn=>zB (dy o Q n) Q fn Y k ke) (λr=>At Q.K g Y r/\Res r (λr=>k r.1 r.2) ke) (o g Y):=h;induction q:o g Y with
  | some r=>rw [q] at h;rw [h.1 m (ZG p)];exact h.2
  | none=>
   rw [q] at h;have h:=h;induction y:fns[g]? with
   | none=>rw [y] at h;exact h.elim
   | some fn=>rw [y] at h;obtain ⟨m,rfl⟩:∃u,m=u+1:=⟨m -1,(ZH p)⟩;show Res (match fns[g]? with | some fn=>kB (b6 fns m) fn Y | none=>.x) _ ke;rw [y];exact MZ (a7 m (ZI p) rfl) (z m (ZJ p)) h
theorem At.of{n i:Nat}{Y:List V}{P:Prop}(o:eQ)(Q:Opt)(p:P)(e:dy o Q n i Y (λv b=>(v,b)=r) (λU=>False)=P):At (Q.K+n) i Y (.ok r):=λm k=>by
 have h:=oG o Q n m k i Y _ _ (e▸p);generalize b6 fns m i Y=x at h ⊢;induction x with
 | ok q=>exact congrArg _ h
 | _=>exact h.elim
theorem At.err{n i:Nat}{Y:List V}{P:Prop}(o:eQ)(Q:Opt)(y:P)(e:dy o Q n i Y (λU U=>False) (λq=>q=k)=P):At (Q.K+n) i Y (.err k):=λm p=>by
 have h:=oG o Q n m p i Y _ _ (e▸y);generalize b6 fns m i Y=x at h ⊢;induction x with
 | err q=>exact congrArg _ h
 | _=>exact h.elim
def bQ:eQ:=λU U=>none
def ac(K:Nat):Opt:=⟨K,λU U U=>none,λU U U=>none,λU U=>none,λU U U=>none,λU U U=>none,λU U=>none,λU U U=>none,λU U=>none,λU U=>none⟩
theorem At.run{n i:Nat}{Y:List V}(e:dy bQ (ac 0) n i Y (λv b=>(v,b)=r) (λU=>False)=(r=r)):At n i Y (.ok r):=iH n▸At.of bQ (ac 0) rfl e
theorem At.up{K k i:Nat}{Y:List V}(a:At K i Y r)(h:K<=k):At k i Y r:=λm p=>a m (cW h p)
inductive AllT:List Prop->Prop
 | nil:AllT []
 | cons {p:Prop} {l:List Prop} (h:p) (t:AllT l):AllT (p::l)
def cj:List Prop->Prop->Prop
 | [],q=>q
 | p::l,q=>p/\cj l q
theorem lw{q:Prop}(h:q){l:List Prop}(t:AllT l):cj l q:=by
 induction t with
 | nil=>exact h
 | cons a U k=>exact ⟨a,k⟩
section
variable {n i:Nat}{Y:List V}{r:V×V}{Ps:List Prop}(o:eQ)(Q:Opt)
theorem At.l(h:AllT Ps)(e:dy o Q n i Y (λv b=>(v,b)=r) (λU=>False)=cj Ps (r=r)):At (Q.K+n) i Y (.ok r):=At.of o Q (lw rfl h) e
theorem At.e(h:AllT Ps)(e:dy o Q n i Y (λU U=>False) (λq=>q=k)=cj Ps (k=k)):At (Q.K+n) i Y (.err k):=At.err o Q (lw rfl h) e
end
theorem vM{P:Prop}(o:eQ)(Q:Opt)(y:P)(e:fT (dy o Q n) Q k f (λc f=>(c,f)=r) (λU=>False)=P):∀m,Q.K+n<=m->exs (b6 fns m) k f= .ok r:=λm p=>by
 have h:=vD (a7 m (wC p) rfl) (oG o Q n m (wD p)) k (e▸y);generalize exs (b6 fns m) k f=x at h ⊢;induction x with
 | ok q=>exact congrArg _ h
 | _=>exact h.elim
theorem bT{Ps:List Prop}(o:eQ)(Q:Opt)(k:AllT Ps)(e:fT (dy o Q n) Q p f (λc f=>(c,f)=r) (λU=>False)=cj Ps (r=r)):∀m,Q.K+n<=m->exs (b6 fns m) p f= .ok r:=vM o Q (lw rfl k) e
theorem f9{Ps:List Prop}(o:eQ)(Q:Opt)(p:AllT Ps)(q:fb (dy o Q n) Q e f (λc f=>(c,f)=r) (λU=>False)=cj Ps (r=r)):bV (Q.K+n) e f r:=λm k=>by
 have h:=FA (a7 m (wC k) rfl) (oG o Q n m (wD k)) e (q▸lw rfl p);generalize ev (b6 fns m) e f=x at h ⊢;induction x with
 | ok q=>exact congrArg _ h
 | _=>exact h.elim
open Mine.Internal.L.At renaming l->ct,run->eT,e->gn
open Mine.Internal.L.AllT renaming cons->fG
theorem ND:∀{x y:Tx},hS x y=true->x=y:=by
 intro x;induction x with
 | nil=>exact λ{y} h=>by rcases y with U | U;rfl;exact ff h
 | cons a x k=>
  intro y h;rcases y with U | ⟨b,y⟩
  .exact ff h
  have h:(match uP a b with | true=>hS x y | false=>false)=true:=h;induction q:uP a b with
  | false=>rw [q] at h;injection h
  | true=>rw [q] at h;rw [Jd q,k h]
def cY:D->D->Bool
 | .none,.none=>true
 | .bool a,.bool b=>a==b
 | .int a,.int b=>a==b
 | .str a,.str b=>hS a b
 | _,_=>false
def zU:List D->List D->Bool
 | [],[]=>true
 | a::x,b::y=>cY a b&&zU x y
 | _,_=>false
def HW:V->V->Bool
 | .d a,.d b=>cY a b
 | .ol a,.ol b=>zU a b
 | _,_=>false
theorem l8(h:cY a b=true):a=b:=by
 induction a using c7<;>induction b using c7<;>first | rfl | (exfalso;exact gG h) | skip
 .exact congrArg _ (beq_iff_eq.mp h)
 .exact congrArg _ (beq_iff_eq.mp h)
 exact congrArg _ (ND h)
theorem MA:∀{a b:List D},zU a b=true->a=b:=by
 intro a;induction a with
 | nil=>exact λ{b} h=>by rcases b with U | U;rfl;exact ff h
 | cons a x q=>
  intro b h;rcases b with U | ⟨b,y⟩
  .exact ff h
  refine xA (gY.mp h) λk p=>?_;rw [l8 k,q p]
theorem Qx(h:HW a b=true):a=b:=by
 induction a using bS<;>induction b using bS<;>first | (exfalso;exact gG h) | skip
 .exact congrArg _ (l8 h)
 exact congrArg _ (MA h)
def ft(n:Nat)(l:List (Nat×List V×V)):Prop:=ob True (λc U k=>dy bQ (ac 0) n c.1 c.2.1 (λv b=>bK (HW v c.2.2&&lG b) k) (λU=>False)) l
theorem At.seq'{n:Nat}{l:List (Nat×List V×V)}(h:ft n l)(c:Nat×List V×V)(m:c∈l):At n c.1 c.2.1 (.ok (c.2.2,.u)):=by
 induction l with
 | nil=>cases m
 | cons d l w=>
  have k:∀m,n<=m->b6 fns m d.1 d.2.1= .ok (d.2.2,.u)/\ft n l:=λm p=>by
   have h:=oG bQ (ac 0) n m (by exact ZL p) d.1 d.2.1 _ _ h;generalize b6 fns m d.1 d.2.1=x at h ⊢;induction x with
   | ok q=>
    have h:=h;refine xA (nG h) λe h=>xA (gY.mp e) λy z=>⟨?_,h⟩;clear h;obtain ⟨v,b⟩:=q;obtain rfl:=Qx y;clear h e y;induction b using bS<;>first | rfl | (exfalso;exact gG z)
   | _=>exact h.elim
  rcases dp.mp m with rfl | m
  .exact λm p=>(k m p).1
  exact w (k n (fj _)).2 m
theorem At.seq{n:Nat}{l:List (Nat×List V×V)}(h:ft n l=True){c:Nat×List V×V}(m:c∈l):At n c.1 c.2.1 (.ok (c.2.2,.u)):=At.seq' (h▸trivial) c m
def wrds:List D:=[.str [97],.str [],.str [97,98],.str [32,97,32],.str oQ,.str [65,44,98],.str [97,97,98],.none,.str [90,122,9]]
def txs:List D:=wrds++[.str [45,51],.str [45,50],.str [45,49],.str [48],.str [49],.str [50],.str [51],.str [52],.str vZ,.str [84,82,85,69],.str [48,46,53],.str [49,46,53],.str [50,46,53],.str [51,46,53],.str [108,111]]
def plc:List D:=[.none,.int (-1),.int 0,.int 1,.int 2,.int 3,.int 4,.int 5,.int 6]
def YX(s:Tx)(a b:Int):Tx:=(s.take b.toNat).drop (a -1).toNat
def ph(w p q:D):D:=match w,p,q with
 | .str s,.int a,.int b=>.str (YX s a b)
 | _,_,_=>.none
def YW(s:Tx)(a b:Int)(f:Tx):Tx:=
 let i:=(a -1).toNat;let c:=min (min b.toNat s.length -i) f.length
 s.take i++f.take c++s.drop (i+c)
def pd(w p q v:D):D:=match w,p,q,v with
 | .str s,.int a,.int b,.str f=>.str (YW s a b f)
 | _,_,_,_=>.none
theorem kG{k p z:Type}{f:k->p->z}{l:List k}{m:List p}{a:k}{b:p}(q:a∈l)(y:b∈m):f a b∈l.flatMap λa=>m.map (f a):=gj.mpr (a7 a q (cM.mpr (a7 b y rfl)))
theorem AN{k p q v:Type}{f:k->p->q->v}{l:List k}{m:List p}{n:List q}{a:k}{b:p}{c:q}(y:a∈l)(z:b∈m)(u:c∈n):f a b c∈l.flatMap λa=>m.flatMap λb=>n.map (f a b):=gj.mpr (a7 a y (kG z u))
theorem Hz{k p q y r:Type}{f:k->p->q->y->r}{l:List k}{m:List p}{n:List q}{o:List y}{a:k}{b:p}{c:q}{d:y}(z:a∈l)(u:b∈m)(v:c∈n)(w:d∈o):f a b c d∈l.flatMap λa=>m.flatMap λb=>n.flatMap λc=>o.map (f a b c):=gj.mpr (a7 a z (AN u v w))
open Mine.Internal.L.At renaming seq->fQ
theorem SF:ft 3 (txs.flatMap λw=>plc.flatMap λp=>plc.map λq=>(54,[.d w,.d p,.d q],.d (ph w p q)))=True:=⋯
theorem S2:ft 3 (txs.flatMap λw=>plc.flatMap λp=>plc.map λq=>(97,[.d w,.d p,.d q],.d (ph w p q)))=True:=⋯
abbrev pj(f:Nat)(w p q v:D):Nat×List V×V:=(f,[.d w,.d p,.d q,.d v],.d (pd w p q v))
abbrev pl(f n:Nat):Prop:=ft 3 (((wrds.drop n).take 3).flatMap λw=>plc.flatMap λp=>plc.flatMap λq=>wrds.map (pj f w p q))=True
theorem as0:pl 55 0:=⋯
theorem as3:pl 55 3:=⋯
theorem as6:pl 55 6:=⋯
theorem pu0:pl 98 0:=⋯
theorem pu3:pl 98 3:=⋯
theorem pu6:pl 98 6:=⋯
theorem a0J(a:pl f 0)(b:pl f 3)(c:pl f 6)(l:w∈wrds)(r:p∈plc)(t:q∈plc)(v:h∈wrds):At 3 f [.d w,.d p,.d q,.d h] (.ok (.d (pd w p q h),.u)):=by have k (n) (z:pl f n) y:=fQ z (Hz (f:=pj f) (a:=w) y r t v);exact (mZ.mp (l:w∈(wrds.drop 0).take 3++((wrds.drop 3).take 3++(wrds.drop 6).take 3))).elim (k 0 a) λy=>(mZ.mp y).elim (k 3 b) (k 6 c)
def gz(k:Bool)(w:D):D:=match w with
 | .str s=>.str (s.map λc=>if k then (if 97<=c/\c<=122 then c -32 else c) else (if 65<=c/\c<=90 then c+32 else c))
 | _=>.none
def gx(l r:Bool)(w:D):D:=match w with
 | .str s=>
  let s:=if l then s.dropWhile λc=>c==32||c==9 else s
  .str (if r then (s.reverse.dropWhile λc=>c==32||c==9).reverse else s)
 | _=>.none
def tN(s a:Tx):Bool:=match s with
 | []=>a.isEmpty
 | c::r=>a.isPrefixOf (c::r)||tN r a
def AQ(a f:Tx)(every:Bool):Nat->Tx->Tx
 | 0,s=>s
 | n+1,s=>match s with
  | []=>[]
  | c::r=>if a.isPrefixOf (c::r) then f++(if every then AQ a f every n ((c::r).drop a.length) else (c::r).drop a.length) else c::AQ a f every n r
def jv(w a o:D)(every:Bool):D:=match w,a with
 | .str s,.str a=>match o with
  | .str f=>.str (AQ a f every s.length s)
  | _=>if tN s a then .none else .str s
 | _,_=>.none
def npar(a:Tx):Nat->Tx->Tx->List D
 | 0,p,_=>if p.isEmpty then [] else [.str p.reverse]
 | n+1,p,s=>match s with
  | []=>if p.isEmpty then [] else [.str p.reverse]
  | c::r=>if a.isPrefixOf (c::r) then .str p.reverse::npar a n [] ((c::r).drop a.length) else npar a n (c::p) r
def eP(w a:D):List D:=match w,a with
 | .str s,.str a=>if a.isEmpty then s.map λc=>.str [c] else npar a s.length [] s
 | _,_=>[.none]
def fM(w a:D):D:=match w,a with
 | .str s,.str a=>.int (if a.isPrefixOf s then 1 else 0)
 | _,_=>.none
def jx(w c:D):D:=match w,c with
 | .str s,.int n=>.str (iF n.toNat s).flatten
 | _,_=>.none
def aims:List D:=[.str [97],.str [46],.str [97,98],.str [],.str [98]]
def aim1:List D:=[.str [97],.str [46],.str [97,98],.str [98]]
def oths:List D:=[.str [120],.str [],.none,.str hH]
def tfs:List Bool:=[true,false]
theorem SK:ft 4 (txs.flatMap λw=>tfs.map λu=>(if u then 57 else 58,[.d w],.d (gz u w)))=True:=⋯
theorem Ql:ft 4 (txs.flatMap λw=>tfs.map λu=>(99,[.d w,.d (.bool u)],.d (gz u w)))=True:=⋯
def sides:List (D×Bool×Bool):=[((.str jM),true,true),((.str lr),true,false),((.str lq),false,true)]
theorem SI:ft 4 (txs.flatMap λw=>sides.map λs=>(105,[.d w,.k s.1],.d (gx s.2.1 s.2.2 w)))=True:=⋯
theorem Rm:ft 4 (txs.flatMap λw=>sides.map λs=>(100,[.d w,.d s.1],.d (gx s.2.1 s.2.2 w)))=True:=⋯
theorem Qm:ft 4 (txs.flatMap λw=>aim1.flatMap λa=>oths.flatMap λo=>tfs.map λe=>(106,[.d w,.k (.l [o]),.k a,.k (.bool e)],.d (jv w a o e)))=True:=⋯
theorem Rb:ft 4 (txs.flatMap λw=>aim1.flatMap λa=>oths.flatMap λo=>tfs.map λe=>(101,[.d w,.d a,.d o,.d (.bool e)],.d (jv w a o e)))=True:=⋯
theorem Sy:ft 4 (wrds.flatMap λw=>aims.map λa=>(53,[.d w,.d a],.ol (eP w a)))=True:=⋯
theorem Rj:ft 4 (wrds.flatMap λw=>aims.map λa=>(102,[.d w,.d a],.ol (eP w a)))=True:=⋯
theorem SA:ft 4 (wrds.flatMap λw=>aims.map λa=>(60,[.d w,.d a],.d (fM w a)))=True:=⋯
def nk(u:V):Prop:=∀y,u≠ .k y
theorem dH:nk (.d x):=λU h=>by injection h
theorem dC:nk .u:=λU h=>by injection h
theorem oE{K:Nat}{g:D->D}(F:List D->V->Fr)(N:Nat)(e:ds.length<=N)(z:nk u0)(i:∀acc u d,nk u->cE (F acc u) [x] d=some (F acc (.d d)))(r:bV K it f (v,F [] u0))(c:frz v=some p)(o:dN rg p=some ds) (hs:∀acc d,acc.length< N->d∈ds->∀m,K<=m->exs (b6 fns m) b (F acc (.d d))= .ok (.next,F (acc++[g d]) (.d d))):∃u,nk u/\de K (.for [x] rg it b) f (F (ds.map g) u):=by
 have t:∀(es:List D) (acc:List D) u,nk u->acc.length+es.length<=N->(∀d∈es,d∈ds)->∃w,nk w/\∀m,K<=m->fm (λd f=>(cg (cE f [x] d)).bind λf=>exs (b6 fns m) b f) es (F acc u)= .ok (.next,F (acc++es.map g) w):=by
  intro es;induction es with
  | nil=>exact λacc u z U U=>(a7 u z (λm q=>by rw [xz,n9];rfl))
  | cons d es s=>refine λacc u z hn l=>a5 (s (acc++[g d]) (.d d) dH (by simp at hn ⊢;exact AS hn) λy n=>l y (.tail _ n)) λw k j=>(a7 w k (λm q=>?_));show bt (bt (cg (cE (F acc u) [x] d)) λf=>exs (b6 fns m) b f) _=_;rw [i acc u d z];show bt (exs (b6 fns m) b (F acc (.d d))) _=_;rw [hs acc d (by simp at hn;exact AT hn) (l d (.head _)) m q];show fm _ es _=_;rw [j m q,eZ,jW];rfl
 refine a5 (t ds [] u0 z (by simpa using e) λd h=>h) λu k h=>(a7 u k (λm q=>?_));show bt (ev (b6 fns m) it f) _=_;rw [r m q];show bt (match frz v with | some d=>dS (d,F [] u0) | none=>.x) _=_;rw [c];show bt (cg (dN rg p)) _=_;rw [o];exact h m q
abbrev CH:D:=(.str cJ)
def gg(n:Nat):List D:=(fO n).map λi=>.str [117+i]
def eY(n:Nat):D:=.dct [ku] [.y CH (.l (gg n)) .none]
def qO:D:=.dct [tj,vW] [.y CH (.l [.str [108,111],.str oQ]) .none,.y CH (.l [.str qA]) .none]
set_option genInjectivity true in
structure Kd where
 k:D
 dom:List D
 f:D->D
def x5:D->D
 | .int i=>.str (qG i)
 | _=>.none
def x6:D->D
 | .int i=>if i==1 then (.str [84,82,85,69]) else (.str vZ)
 | _=>.none
def x4:D->D
 | .t [.int n,.int d]=>.str (qG (n.fdiv d)++if d==2 then [46,53] else [])
 | _=>.none
def pz:D->D
 | .int i=>if i==1 then (.str [108,111]) else (.str oQ)
 | _=>.none
def wt:List D:=[.int (-3),.int (-2),.int (-1),.int 0,.int 1,.int 2,.int 3,.int 4,.none]
def wu:List D:=[.int 0,.int 1,.none]
def wr:List D:=[.t [.int 0,.int 1],.t [.int 1,.int 2],.t [.int 1,.int 1],.t [.int 3,.int 2],.t [.int 2,.int 1],.t [.int 5,.int 2],.t [.int 3,.int 1],.t [.int 7,.int 2],.none]
def domF:List D:=[.int 1,.int 2,.none]
def kds:List Kd:=[⟨(.str dv),wt,x5⟩,⟨(.str dJ),wu,x6⟩,⟨(.str iQ),wr,x4⟩]
inductive Val:D->List D->D->V->Prop
 | ch {ws:List D} (l:ws.length<=3) (h:∀w∈ws,w∈wrds):Val (.y CH (.l ws) .none) ws .none (.d (.l ws))
 | nm {ws:List D} (l:ws.length<=3) (h:∀w∈ws,w∈wrds):Val (.y CH (.l ws) (eY ws.length)) ws (.l (gg ws.length)) (.d (.l ws))
 | nul:Val (.nul (.str [78,85,76,76]) .none) [] .none (.ol [])
 | ot {κ:Kd} (hk:κ∈kds) {ns:List D} (l:ns.length<=3) (h:∀w∈ns,w∈κ.dom):Val (.y κ.k (.l ns) .none) (ns.map κ.f) .none (.d (.l (ns.map κ.f)))
 | fc {ns:List D} (l:ns.length<=3) (h:∀w∈ns,w∈domF):Val (.y (.str [105,110,116,101,103,101,114]) (.l ns) qO) (ns.map pz) .none (.ol (ns.map pz))
theorem QP:ft 12 (kds.flatMap λκ=>κ.dom.map λx=>(45,[.d κ.k,.d x,.d CH,.d (.l [])],.d (κ.f x)))=True:=⋯
theorem Ue{κ:Kd}(p:κ∈kds)(h:x∈κ.dom):At 12 45 [.d κ.k,.d x,.d CH,.d (.l [])] (.ok (.d (κ.f x),.u)):=fQ QP (gj.mpr (a7 κ p (cM.mpr (a7 x h rfl))))
def cH(l:List (Nat×(List V->Option V))):eQ:=λg k=>match l.lookup g with
 | some f=>(f k).map λv=>.ok (v,.u)
 | none=>none
def oI(g:Nat)(f:List V->Option V):eQ:=cH [(g,f)]
def cN{k:Type}(l:List k)(p:k->Prop):Prop:=ob True (λd U q=>p d/\q) l
theorem ki{k:Type}{p:k->Prop}:∀{l:List k},(∀x∈l,p x)->cN l p:=by
 intro l;induction l with
 | nil=>exact λU=>trivial
 | cons x l q=>exact λh=>⟨h x (.head _),q λy m=>h y (.tail _ m)⟩
theorem kg{k:Type}{p:k->Prop}:∀{l:List k},cN l p->∀x∈l,p x:=by
 intro l;induction l with
 | nil=>exact λU U m=>by cases m
 | cons y l q=>
  intro h x m;rcases dp.mp m with rfl | m
  .exact h.1
  exact q h.2 x m
def ub(v:V)(p:Prop):Nat->Prop
 | 0=>p
 | n+1=>fw v (ub v p n)
theorem zc(h:∀p,p->fw v p){p:Prop}(k:p):∀n,ub v p n
 | 0=>k
 | n+1=>h _ (zc h k n)
theorem At.h{n i:Nat}{k:List V}{r:V×V}{Ps:List Prop}(o:eQ)(q:Opt)(j:Nat)(y:∀p,p->fw r.1 p)(h:AllT Ps)(e:dy o q n i k (λv b=>(v,b)=r) (λU=>False)=cj Ps (ub r.1 (r=r) j)):At (q.K+n) i k (.ok r):=At.of o q (lw (zc y rfl j) h) e
theorem At.aR{q:Type}{n:Nat}(l:List q)(y:Opt)(j:Nat)(i:q->Nat)(k:q->List V)(o:q->eQ)(r:q->V×V)(Ps:q->List Prop)(u:∀x p,p->fw (r x).1 p)(h:(cN l λx=>dy (o x) y n (i x) (k x) (λv b=>(v,b)=r x) (λU=>False))=cN l λx=>cj (Ps x) (ub (r x).1 (r x=r x) j))(a:∀x∈l,AllT (Ps x)):∀x∈l,At (y.K+n) (i x) (k x) (.ok (r x)):=λx z=>At.of (o x) y (kg (h.symm▸ki (λx z=>lw (zc (u x) rfl j) (a x z)):cN l λx=>dy (o x) y n (i x) (k x) (λv b=>(v,b)=r x) (λU=>False)) x z) rfl
theorem At.aQ{p:Type}{n:Nat}(l:List p)(q:Opt)(i:p->Nat)(k:p->List V)(o:p->eQ)(r:Tx)(Ps:p->List Prop)(h:(cN l λx=>dy (o x) q n (i x) (k x) (λU U=>False) (λm=>m=r))=cN l λx=>cj (Ps x) (r=r))(a:∀x∈l,AllT (Ps x)):∀x∈l,At (q.K+n) (i x) (k x) (.err r):=λx y=>At.err (o x) q (kg (h.symm▸ki (λx y=>lw rfl (a x y)):cN l λx=>dy (o x) q n (i x) (k x) (λU U=>False) (λm=>m=r)) x y) rfl
theorem nv{p:Type}{n:Nat}{Ps:p->List Prop}(o:eQ)(k:Opt){l:List p}(F:p->Fr)(g:p->Ctl×Fr)(a:∀x,AllT (Ps x))(h:(cN l λx=>fT (dy o k n) k q (F x) (λc f=>(c,f)=g x) (λU=>False))=cN l λx=>cj (Ps x) (g x=g x)):∀x∈l,∀m,k.K+n<=m->exs (b6 fns m) q (F x)= .ok (g x):=λx y=>vM o k (kg (h.symm▸ki (λx U=>lw rfl (a x)):cN l λx=>fT (dy o k n) k q (F x) (λc f=>(c,f)=g x) (λU=>False)) x y) rfl
theorem qg{K:Nat}{g:D->D}(F:V->Fr)(c:∀u d,nk u->cE (F u) [x] d=some (F (.d d)))(n:∀u,a0E (F u) [x]=F .u)(k:bV K it f (v,F .u))(Q:frz v=some p)(s:dN rg p=some ds) (hs:∀d∈ds,bV K e (F (.d d)) (.d (g d),F (.d d))):bV K (.comp e [x] rg it none) f (.ol (ds.map g),F .u):=λm j=>by
 have z:∀(es:List D) (u:V),nk u->(∀d∈es,d∈ds)->∃w,iO (λd f=>(cg (cE f [x] d)).bind λf=>(evTo (b6 fns m) none f).bind λt=>match t.1 with
   | true=>(ev (b6 fns m) e t.2).bind λr=>(fz r).bind λq=>.ok (some q.1,q.2)
   | false=>.ok (none,t.2)) es (F u)= .ok (es.map g,F w):=by
  intro es;induction es with
  | nil=>exact λu U U=>⟨u,rfl⟩
  | cons d es N=>refine λu Y l=>xE (N (.d d) dH λy M=>l y (.tail _ M)) λw i=>⟨w,?_⟩;show bt (bt (cg (cE (F u) [x] d)) _) _=_;rw [c u d Y];show bt (bt (ev (b6 fns m) e (F (.d d))) _) _=_;rw [hs d (l d (.head _)) m j];show bt (iO _ es (F (.d d))) _=_;rw [i];rfl
 refine xE (z ds .u dC λd h=>h) λu h=>?_;show bt (ev (b6 fns m) it f) _=_;rw [k m j];show bt (match frz v with | some d=>dS (d,F .u) | none=>.x) _=_;rw [Q];show bt (cg (dN rg p)) _=_;rw [s];refine (congrArg (λo=>bt o λq=>dS (k9 q.1,a0E q.2 [x])) h).trans ?_;show dS (k9 (ds.map g),a0E (F u) [x])=_;rw [n]
def my(l:List (Nat×V))(f:Fr):Fr:=l.foldl (λf p=>f.set p.1 p.2) f
def Opt.loop(o:Opt)(l:List (Nat×V)):Opt:={o with fo:=λU f=>some (.ok (.next,my l f))}
def Opt.aD(o:Opt)(m:Tx):Opt:={o with fo:=λU U=>some (.err m)}
def Opt.comp(o:Opt)(v:V):Opt:={o with co:=λU f=>some (v,f)}
def Opt.l(o:Opt):Opt:={o with
 bi:=λb r=>match b,r with
  | .len,[.l xs]=>some (.d (.int xs.length))
  | .list,[.l xs]=>some (.ol xs)
  | _,_=>none
 lm:=λm r xs=>match m,r with
  | .append,[d]=>some (.none,xs++[d])
  | _,_=>none}
theorem cK{xs:List D}(h:xs.length<=n)(hn:n<=df:=by decide):kJ .len [.l xs]=some (.d (.int xs.length)):=by show (cG (cL xs.length) (some xs.length)).map _=_;rw [show cL xs.length=true from decide_eq_true (cW h hn)];rfl
theorem eB{xs:List D}(h:xs.length<=n)(hn:n<=df:=by decide):kJ .list [.l xs]=some (.ol xs):=by show cG (cL xs.length) _=_;rw [show cL xs.length=true from decide_eq_true (cW h hn)];rfl
theorem fL{xs:List D}(h:xs.length< n)(hn:n<=df:=by decide):hZ .append [d] xs=some (.none,xs++[d]):=by show cG (decide (xs.length< df)) _=_;rw [show decide (xs.length< df)=true from decide_eq_true (iG h hn)];rfl
theorem j9(l:ns.length<=n)(hn:n<=df:=by decide):dN false (.l ns)=some ns:=by show cG (cL ns.length) (some ns)=_;unfold cG;rw [if_pos (show cL ns.length=true from decide_eq_true (cW l hn))]
theorem kb{P:Kd->Prop}(k:P ⟨(.str dv),wt,x5⟩)(p:P ⟨(.str dJ),wu,x6⟩)(q:P ⟨(.str iQ),wr,x4⟩):∀κ∈kds,P κ:=by
 intro κ h;rcases dp.mp h with rfl | h
 .exact k
 rcases dp.mp h with rfl | h
 .exact p
 rw [fh.mp h];exact q
theorem Val.frz(p:Val v ws nd k):Internal.frz k=some (.l ws)/\nk k/\isNone v=false:=by induction p<;>exact ⟨rfl,(λU h=>by injection h),rfl⟩
theorem Val.two{v:D}(p:Val v ws nd k):k= .d (.l ws)\/k= .ol ws:=by induction p<;>first | exact .inl rfl | exact .inr rfl
theorem Val.len{v:D}{nd:D}(k:Val v ws nd p):ws.length<=3:=by induction k<;>first | assumption | (rw [cR];assumption) | decide
theorem P5(κ:Kd)(t:κ∈kds){ns:List D}(l:ns.length<=3)(h:∀w∈ns,w∈κ.dom):At 20 63 [.d .none,.d (.y κ.k (.l ns) .none)] (.ok (.d (.l (ns.map κ.f)),.u)):=by
 have q:bV 13 (.comp (.call 45 [.f 0 0,.v 4,.v 1,.v 2]) [4] false (.f 0 1) none) [.d (.y κ.k (.l ns) .none),.d CH,.d (.l []),.d (.l ns),.u] (.ol (ns.map κ.f),[.d (.y κ.k (.l ns) .none),.d CH,.d (.l []),.d (.l ns),.u]):=qg (λu=>[.d (.y κ.k (.l ns) .none),.d CH,.d (.l []),.d (.l ns),u]) (λu d j=>by induction u using bS<;>first | rfl | exact absurd rfl (j _)) (λu=>rfl) (λm U=>rfl) rfl (j9 l) λd r=>f9 (n:=1) (oI 45 λp=>match p with
    | [_,.d x,_,_]=>some (.d (κ.f x))
    | _=>none) (ac 12) (.cons (Ue t (h d r)) .nil) ⋯
 have z:(ns.map κ.f).length<=3:=by rw [cR];exact l
 clear h;generalize ns.map κ.f=ws at q z ⊢;revert κ;refine kb ?_ ?_ ?_;all_goals exact λq=>ct (n:=7) bQ ((ac 13).comp (.ol ws)).l (.cons q (.cons (eB z) .nil)) ⋯
theorem vE(h:n<=m):(gg n).length<=m:=by simpa [gg] using h
def zs(k:List D):List (List D):=[]::(k.map (λa=>[a])++(k.flatMap λa=>k.map λb=>[a,b])++k.flatMap λa=>k.flatMap λb=>k.map λc=>[a,b,c])
theorem uf{p:Prop}(h:(a::b::c::d::l).length<=3):p:=absurd h (by simp)
theorem D2(k:l.length<=3)(h:∀w∈l,w∈dom):l∈zs dom:=by
 rcases l with U | ⟨a,U | ⟨b,U | ⟨c,U | ⟨d,l⟩⟩⟩⟩
 .exact .head _
 .exact .tail _ (o9 _ (o9 _ (cM.mpr (a7 a (h a (.head _)) rfl))))
 .exact .tail _ (o9 _ (uF _ (kG (h a (.head _)) (h b (.tail _ (.head _))))))
 .exact .tail _ (uF _ (AN (h a (.head _)) (h b (.tail _ (.head _))) (h c (.tail _ (.tail _ (.head _))))))
 exact uf k
theorem SJ:ft 20 ((zs domF).map λns=>(63,[.d .none,.d (.y (.str dv) (.l ns) qO)],.ol (ns.map pz)))=True:=⋯
theorem S8:ft 5 ((zs domF).map λns=>(92,[.d (.y (.str dv) (.l ns) qO)],.ol (ns.map pz)))=True:=⋯
theorem kh(p:Val v ws nd q):At 20 63 [.d .none,.d v] (.ok (q,.u)):=by
 induction p with
 | nul=>exact eT ⋯
 | ch l U=>exact ct (n:=8) bQ (ac 12).l (.cons (eB l) .nil) ⋯
 | nm l U=>exact ct (n:=8) bQ (ac 12).l (.cons (eB l) (.cons (eB (vE l)) (.cons (eB (vE l)) .nil))) ⋯
 | ot k l h=>exact P5 _ k l h
 | @fc ns l h=>exact fQ SJ (cM.mpr (a7 ns (D2 l h) rfl))
theorem OK:∀κ∈kds,∀ns,At 5 93 [.d (.y κ.k (.l ns) .none)] (.ok (.d .none,.u)):=kb (λns=>eT ⋯) (λns=>eT ⋯) (λns=>eT ⋯)
theorem DY(p:Val v ws nd q):At 5 93 [.d v] (.ok (.d nd,.u)):=by
 induction p with
 | ot k=>exact OK _ k _
 | _=>exact eT ⋯
def jz(v:D)(acc:List D)(u:V):Fr:=[.d v,.ol acc,u,.u]
def wY:List S:=match CY with
 | [_,_,_,.for _ _ _ b,_]=>b
 | _=>[]
theorem F6{ns p:List D}{f:D->D}(l:ns.length<=3)(h:∀x∈ns,x∈p)(z:∀acc:List D,acc.length< 3->∀x∈p,∀m,0<=m->exs (b6 fns m) wY (jz (.y (.str k) (.l ns) a) acc (.d x))= .ok (.next,jz (.y (.str k) (.l ns) a) (acc++[f x]) (.d x))) : ∃u,nk u/\de 0 (.for [2] false (.f 0 1) wY) (jz (.y (.str k) (.l ns) a) [] .u) (jz (.y (.str k) (.l ns) a) (ns.map f) u):=oE (jz (.y (.str k) (.l ns) a)) 3 l dC (λacc u d w=>by induction u using bS<;>first | rfl | exact absurd rfl (w _)) (λm U=>rfl) rfl (j9 l) λacc d q v=>z acc q d (h d v)
theorem F5(l:ws.length<=3)(h:∀w∈ws,w∈wrds){a:D}(p:a= .none\/∃n,a=eY n):At 5 92 [.d (.y CH (.l ws) a)] (.ok (.ol ws,.u)):=by refine a5 (F6 (k:=cJ) (a:=a) (f:=id) l h λacc p=>nv (n:=0) bQ (ac 0).l (λx=>jz _ acc (.d x)) _ (λx=>.cons (fL (d:=x) p) .nil) ⋯) λu U h=>?_;rw [C8] at h;rcases p with rfl | ⟨n,rfl⟩<;>exact ct (n:=5) bQ ((ac 0).loop [(1,.ol ws),(2,u)]) (.cons h .nil) ⋯
theorem zA{p:List D}{f:D->D}(z:∀(ns acc:List D),(cN p λx=>fT (dy bQ (ac 0).l 0) (ac 0).l wY (jz (.y (.str k) (.l ns) .none) acc (.d x)) (λc g=>(c,g)=(.next,jz (.y (.str k) (.l ns) .none) (acc++[f x]) (.d x))) (λU=>False))=cN p λx=>cj [hZ .append [f x] acc=some (.none,acc++[f x])] ((h4,jz (.y (.str k) (.l ns) .none) (acc++[f x]) (.d x))=(h4,jz (.y (.str k) (.l ns) .none) (acc++[f x]) (.d x)))) (r:∀ns ws u,dy bQ ((ac 0).loop [(1,.ol ws),(2,u)]) 5 92 [.d (.y (.str k) (.l ns) .none)] (λv b=>(v,b)=(.ol ws,.u)) (λU=>False)=cj [de 0 (.for [2] false (.f 0 1) wY) (jz (.y (.str k) (.l ns) .none) [] .u) (jz (.y (.str k) (.l ns) .none) ws u)] ((k9 ws,V.u)=(k9 ws,V.u))) (ns:List D) (l:ns.length<=3) (h:∀w∈ns,w∈p):At 5 92 [.d (.y (.str k) (.l ns) .none)] (.ok (.ol (ns.map f),.u)):=by exact a5 (F6 l h λacc q=>nv bQ (ac 0).l (λx=>jz _ acc (.d x)) _ (λx=>.cons (fL q) .nil) (z ns acc)) λu U h=>ct bQ ((ac 0).loop [(1,.ol (ns.map f)),(2,u)]) (.cons h .nil) (r _ _ _)
theorem S9:∀κ∈kds,∀ns:List D,ns.length<=3->(∀w∈ns,w∈κ.dom)->At 5 92 [.d (.y κ.k (.l ns) .none)] (.ok (.ol (ns.map κ.f),.u)):=kb (zA (λns acc=>⋯) λns ws u=>⋯) (zA (λns acc=>⋯) λns ws u=>⋯) (zA (λns acc=>⋯) λns ws u=>⋯)
theorem yZ(p:Val v ws nd q):At 5 92 [.d v] (.ok (.ol ws,.u)):=by
 induction p with
 | nul=>exact eT ⋯
 | ch l h=>exact F5 l h (.inl rfl)
 | nm l h=>exact F5 l h (.inr ⟨_,rfl⟩)
 | ot k l h=>exact S9 _ k _ l h
 | @fc ns l h=>exact fQ S8 (cM.mpr (a7 ns (D2 l h) rfl))
def cP(k:D)(ys:List D):V:=.oi 0 [0,1,2,3,4] [.d k,.d (.l ys),.d .none,.d (.bool false),.d (.bool false)]
def iq(v:D)(ys:List D):V:=match v with
 | .y (.str k) _ a=>match hS k cJ with
  | true=>.d (.y CH (.l ys) a)
  | false=>cP CH ys
 | _=>cP CH ys
theorem sj(v:D)(ys:List D)(p:Prop)(h:p):fw (iq v ys) p:=by
 induction v using c7 with
 | y k l a=>induction k using c7 with
  | str k=>show fw (match hS k cJ with | true=>.d (.y CH (.l ys) a) | false=>cP CH ys) p;induction hS k cJ using dj<;>exact h
  | _=>exact h
 | _=>exact h
def eC:List V->Option V
 | v::_=>some v
 | _=>none
def bR(v:V):List V->Option V:=λU=>some v
theorem g9(h:isNone v=false):At 2 49 [.d v,.d nm] (.ok (.d v,.u)):=by
 have:cZ .is v .none=some false:=by show cG (isNone .none) (some (isNone v))=_;rw [h];rfl
 exact ct (n:=2) bQ {(ac 0) with cm:=λU U U=>some false} (.cons this .nil) ⋯
section
variable {v:D}{ws:List D}{nd:D}{Y:V}
theorem Dl{K:Nat}(l:ys.length<=3):∀κ∈kds,∀a,bV (K+1) (.comp (.cv (.v 2) [.v 4]) [4] false (.call 63 [.v 0,.v 1]) none) [.d .none,.d (.y κ.k (.l ns) a),.d fv,.u,.u] (.ol ys,[.d .none,.d (.y κ.k (.l ns) a),.d fv,.u,.u])->At (K+8) 65 [.d .none,.d (.y κ.k (.l ns) a),.d fv] (.ok (iq (.y κ.k (.l ns) a) ys,.u)):=kb (λa p=>ct (n:=7) bQ ((ac (K+1)).comp (.ol ys)).l (.cons p (.cons (eB l) .nil)) ⋯) (λa p=>ct (n:=7) bQ ((ac (K+1)).comp (.ol ys)).l (.cons p (.cons (eB l) .nil)) ⋯) (λa p=>ct (n:=7) bQ ((ac (K+1)).comp (.ol ys)).l (.cons p (.cons (eB l) .nil)) ⋯)
theorem sh(k:Val v ws nd Y){K:Nat}(y:20<=K){F:D->D}(q:∀w∈ws,bV (K+1) (.cv (.v 2) [.v 4]) [.d .none,.d v,.d fv,.u,.d w] (.d (F w),[.d .none,.d v,.d fv,.u,.d w])):At (K+8) 65 [.d .none,.d v,.d fv] (.ok (iq v (ws.map F),.u)):=by
 have p:bV (K+1) (.comp (.cv (.v 2) [.v 4]) [4] false (.call 63 [.v 0,.v 1]) none) [.d .none,.d v,.d fv,.u,.u] (.ol (ws.map F),[.d .none,.d v,.d fv,.u,.u]):=qg (λu=>[.d .none,.d v,.d fv,.u,u]) (λu d r=>by induction u using bS<;>first | rfl | exact absurd rfl (r _)) (λu=>rfl) (f9 (oI 63 (bR Y)) (ac K) (.cons ((kh k).up y) .nil) ⋯) k.frz.1 (j9 k.len) q;have l:(ws.map F).length<=3:=by rw [cR];exact k.len
 clear q;generalize ws.map F=ys at p l;have a:=fG p (.cons (eB l) .nil);induction k with
 | ot z U U=>exact Dl l _ z _ p
 | fc=>exact Dl l _ (.head _) _ p
 | nm t=>exact ct (n:=7) bQ ((ac (K+1)).comp (.ol ys)).l a ⋯
 | _=>exact ct (n:=7) bQ ((ac (K+1)).comp (.ol ys)).l a ⋯
end
theorem At.u{K i:Nat}{k:List V}{r:Out (V×V)}(a:At K i k r)(K':Nat)(h:K<=K':=by decide):At K' i k r:=a.up h
theorem Gg(h:w∈txs)(u:Bool):At 4 (if u then 57 else 58) [.d w] (.ok (.d (gz u w),.u)):=fQ SK (kG h (by induction u using dj<;>decide))
theorem ES{k:Type}{x:k}{a b:List k}(h:x∈a):x∈a++b:=o9 _ h
theorem Val.tx{v:D}{nd:D}(z:Val v ws nd Y):∀w∈ws,w∈txs:=by
 have k:∀κ∈kds,∀x∈κ.dom,κ.f x∈txs:=by
  have:(kds.all λκ=>κ.dom.all λx=>txs.any λt=>cY t (κ.f x))=true:=by decide +kernel
  refine λκ q x p=>a5 (jY.mp (dM.mp (dM.mp this κ q) x p)) λt y e=>?_;rw [<-l8 e];exact y
 have u:∀x∈domF,pz x∈txs:=by
  have:(domF.all λx=>txs.any λt=>cY t (pz x))=true:=by decide +kernel
  refine λx p=>a5 (jY.mp (dM.mp this x p)) λt y e=>?_;rw [<-l8 e];exact y
 induction z with
 | ch U h=>exact λw m=>ES (h w m)
 | nm U h=>exact λw m=>ES (h w m)
 | nul=>exact λw m=>by cases m
 | ot q U h=>exact λw m=>by refine a5 (cM.mp m) λx p e=>?_;rw [<-e];exact k _ q x (h x p)
 | fc U h=>exact λw m=>by refine a5 (cM.mp m) λx p e=>?_;rw [<-e];exact u x (h x p)
section
variable {v:D}{ws:List D}{nd:D}{Y:V}
theorem Val.need(k:Val v ws nd Y)(nm:D):At 28 49 [.d v,.d nm] (.ok (.d v,.u)):=(g9 k.frz.2.2).u 28
theorem PC(k:Val v ws nd Y):At 29 75 [.d .none,.d (.l [.t [.str [120],v]]),.d .none] (.ok (iq v (ws.map (gz true)),.u)):=by have t:At 12 43 [.d (.l [.t [.str [120],v]]),.d (.l [.str [120]])] (.ok (.ol [v],.u)):=eT ⋯;have m:=sh k (fj 20) (fv:=.fn 57) (F:=gz true) λw p=>f9 (oI 57 (bR (.d (gz true w)))) (ac 20) (.cons ((Gg (k.tx w p) true).u 20) .nil) ⋯;exact At.h (n:=1) (cH [(43,bR (.ol [v])),(49,eC),(65,bR (iq v (ws.map (gz true))))]) (ac 28) 1 (sj _ _) (.cons (t.u 28) (.cons (k.need (.str [120])) (.cons m .nil))) ⋯
theorem OF(k:Val v ws nd Y):At 29 76 [.d .none,.d (.l [.t [.none,v]]),.d .none] (.ok (iq v (ws.map (gz false)),.u)):=by have t:At 12 43 [.d (.l [.t [.none,v]]),.d (.l [.str [120]])] (.ok (.ol [v],.u)):=eT ⋯;have m:=sh k (fj 20) (fv:=.fn 58) (F:=gz false) λw p=>f9 (oI 58 (bR (.d (gz false w)))) (ac 20) (.cons ((Gg (k.tx w p) false).u 20) .nil) ⋯;exact At.h (n:=1) (cH [(43,bR (.ol [v])),(49,eC),(65,bR (iq v (ws.map (gz false))))]) (ac 28) 1 (sj _ _) (.cons (t.u 28) (.cons (k.need (.str [120])) (.cons m .nil))) ⋯
theorem VD(h:w∈txs){s:D×Bool×Bool}(hs:s∈sides):At 4 105 [.d w,.k s.1] (.ok (.d (gx s.2.1 s.2.2 w),.u)):=fQ SI (kG h hs)
def c1(x:D):D:=.y CH (.l [x]) .none
theorem Pz(v:D):∀s∈sides,At 28 43 [.d (.l [.t [.none,v],.t [.str jK,c1 s.1]]),.d (.l [.str [120],.str jK,.str zJ])] (.ok (.ol [v,c1 s.1,.none],.u)):=λs U=>(eT (n:=12) ⋯).u 28
theorem RR:ft 8 (sides.map λs=>(64,[.d (c1 s.1),.d (.str jK),.d (.str jM)],.d s.1))=True:=⋯
theorem SH(s:D×Bool×Bool)(hs:s∈sides):At 28 64 [.d (c1 s.1),.d (.str jK),.d (.str jM)] (.ok (.d s.1,.u)):=(fQ RR (cM.mpr (a7 s hs rfl))).u 28
theorem Nd(k:Val v ws nd Y):∀s∈sides,At 29 77 [.d .none,.d (.l [.t [.none,v],.t [.str jK,c1 s.1]]),.d .none] (.ok (iq v (ws.map (gx s.2.1 s.2.2)),.u)):=At.aR (n:=1) sides (ac 28) 1 _ _ (λs=>cH [(43,bR (.ol [v,c1 s.1,.none])),(64,bR (.d s.1)),(49,eC),(65,bR (iq v (ws.map (gx s.2.1 s.2.2))))]) _ (λs=>[At 28 43 [.d (.l [.t [.none,v],.t [.str jK,c1 s.1]]),.d (.l [.str [120],.str jK,.str zJ])] (.ok (.ol [v,c1 s.1,.none],.u)),At 28 64 [.d (c1 s.1),.d (.str jK),.d (.str jM)] (.ok (.d s.1,.u)),At 28 49 [.d v,.d (.str [120])] (.ok (.d v,.u)),At 28 65 [.d .none,.d v,.d (.clo 105 [s.1])] (.ok (iq v (ws.map (gx s.2.1 s.2.2)),.u))]) (λs=>sj _ _) ⋯ λs hs=>.cons (Pz v s hs) (.cons (SH s hs) (.cons (k.need _) (.cons (sh k (fj 20) λw p=>f9 (oI 105 (bR (.d (gx s.2.1 s.2.2 w)))) (ac 20) (.cons ((VD (k.tx w p) hs).u 20) .nil) ⋯) .nil)))
theorem Nc(v:D):At 29 77 [.d .none,.d (.l [.t [.none,v],.t [.str jK,c1 (.str qB)]]),.d .none] (.err (Ga++[8216]++jM++[8217,44,32,8216]++lr++[8217,44,32,8216]++lq++[8217])):=gn (n:=29) bQ (ac 0) .nil ⋯
def lg(b:Bool):D:=.y (.str dJ) (.l [.int (if b then 1 else 0)]) .none
structure Cb where
 a:D
 o:D
 x:Bool
 e:Bool
def Cb.bad(c:Cb):Bool:=!c.x&&(cY c.a (.str [46])||cY c.o (.str hH))
def cbs:List Cb:=aims.flatMap λa=>oths.flatMap λo=>tfs.flatMap λx=>tfs.map λe=>⟨a,o,x,e⟩
def Cb.rows(c:Cb)(v:D):D:=.l [.t [.none,c1 c.a],.t [.none,c1 c.o],.t [.str [120],v],.t [.str jt,lg c.x]]
def fV:Tx:=wl
theorem SD(v:D):∀c∈cbs.filter Cb.bad,At 36 (if c.e then 83 else 82) [.d .none,.d (c.rows v),.d .none] (.err fV):=At.aQ (n:=36) (cbs.filter Cb.bad) (ac 0) (λc=>if c.e then 83 else 82) (λc=>[.d .none,.d (c.rows v),.d .none]) (λU=>bQ) fV (λU=>[]) ⋯ λU U=>.nil
def Cb.nil(c:Cb):Bool:=cY c.a (.str [])
def cbs1:List Cb:=cbs.filter λc=>!c.bad&&!c.nil
def wp:List Cb:=cbs.filter λc=>!c.bad&&c.nil
def Cb.fv(c:Cb):D:=.clo 106 [.l [c.o],c.a,.bool c.e]
def B6:D:=.l [.str oN,.str th,.str [120],.str vS,.str qC,.str jt,.str qz]
theorem Eh(c:Cb)(v:D):At 28 43 [.d (c.rows v),.d B6] (.ok (.ol [c1 c.a,c1 c.o,v,.none,.none,lg c.x,.none],.u)):=(eT (n:=12) ⋯).u 28
theorem Eg(z:isNone v=false){l:List Cb}{R:Cb->V}(y:∀c p,p->fw (R c) p) (h:(cN l λc=>dy (cH [(49,eC),(65,bR (R c)),(43,bR (.ol [c1 c.a,c1 c.o,v,.none,.none,lg c.x,.none]))]) (ac 28) 14 (if c.e then 83 else 82) [.d .none,.d (c.rows v),.d .none] (λw b=>(w,b)=(R c,.u)) (λU=>False))=cN l λc=>cj [At 28 43 [.d (c.rows v),.d B6] (.ok (.ol [c1 c.a,c1 c.o,v,.none,.none,lg c.x,.none],.u)),At 28 49 [.d (c1 c.a),.d (.str oN)] (.ok (.d (c1 c.a),.u)),At 28 49 [.d (c1 c.o),.d (.str th)] (.ok (.d (c1 c.o),.u)),At 28 49 [.d v,.d (.str [120])] (.ok (.d v,.u)),At 28 65 [.d .none,.d v,.d c.fv] (.ok (R c,.u))] (ub (R c) ((R c,V.u)=(R c,V.u)) 2)) (q:∀c∈l,At 28 65 [.d .none,.d v,.d c.fv] (.ok (R c,.u))):∀c∈l,At 42 (if c.e then 83 else 82) [.d .none,.d (c.rows v),.d .none] (.ok (R c,.u)):=At.aR l (ac 28) 2 _ _ (λc=>cH [(49,eC),(65,bR (R c)),(43,bR (.ol [c1 c.a,c1 c.o,v,.none,.none,lg c.x,.none]))]) (λc=>(R c,.u)) _ y h λc k=>.cons (Eh c v) (.cons ((g9 rfl).u 28) (.cons ((g9 rfl).u 28) (.cons ((g9 z).u 28) (.cons (q c k) .nil))))
theorem U1(h:w∈txs)(p:a∈aim1)(q:o∈oths)(e:Bool):At 4 106 [.d w,.k (.l [o]),.k a,.k (.bool e)] (.ok (.d (jv w a o e),.u)):=fQ Qm (Hz h p q (by induction e using dj<;>decide))
theorem DE:∀c∈cbs1,c.a∈aim1/\c.o∈oths:=by
 have:(cbs1.all λc=>(aim1.any λt=>cY t c.a)&&oths.any λt=>cY t c.o)=true:=by decide +kernel
 refine λc y=>xA (gY.mp (dM.mp this c y)) λp q=>a5 (jY.mp p) λt z e=>a5 (jY.mp q) λu w k=>?_;rw [<-l8 e,<-l8 k];exact ⟨z,w⟩
theorem Vz(k:Val v ws nd Y):∀c∈cbs1,At 42 (if c.e then 83 else 82) [.d .none,.d (c.rows v),.d .none] (.ok (iq v (ws.map λw=>jv w c.a c.o c.e),.u)):=Eg k.frz.2.2 (λc=>sj _ _) ⋯ λc p=>sh k (fj 20) λw q=>f9 (oI 106 (bR (.d (jv w c.a c.o c.e)))) (ac 20) (.cons ((U1 (k.tx w q) (DE c p).1 (DE c p).2 c.e).u 20) .nil) ⋯
theorem SE(k:Val v [] nd Y):∀c∈wp,At 42 (if c.e then 83 else 82) [.d .none,.d (c.rows v),.d .none] (.ok (iq v [],.u)):=Eg k.frz.2.2 (λc=>sj _ _) ⋯ λc q=>sh (F:=id) k (fj 20) λw p=>by cases p
def orE(g:Nat)(m:Tx)(o:eQ):eQ:=λk a=>if k==g then some (.err m) else o k a
def nZ:Tx:=zI
theorem Lk(k:Val v ws nd Y)(p:ws≠[])(e:Bool)(o:D):At 28 65 [.d .none,.d v,.d (.clo 106 [.l [o],.str [],.bool e])] (.err nZ):=by
 have t:=kh k;have l:=k.len;rcases k.two with rfl | rfl
 .rcases ws with U | ⟨a,U | ⟨b,U | ⟨c,U | ⟨d,ns⟩⟩⟩⟩
  .exact absurd rfl p
  .exact gn (n:=8) (oI 63 (bR (.d (.l [a])))) (ac 20) (.cons t .nil) ⋯
  .exact gn (n:=8) (oI 63 (bR (.d (.l [a,b])))) (ac 20) (.cons t .nil) ⋯
  .exact gn (n:=8) (oI 63 (bR (.d (.l [a,b,c])))) (ac 20) (.cons t .nil) ⋯
  exact uf l
 rcases ws with U | ⟨a,U | ⟨b,U | ⟨c,U | ⟨d,ns⟩⟩⟩⟩
 .exact absurd rfl p
 .exact gn (n:=8) (oI 63 (bR (.ol [a]))) (ac 20) (.cons t .nil) ⋯
 .exact gn (n:=8) (oI 63 (bR (.ol [a,b]))) (ac 20) (.cons t .nil) ⋯
 .exact gn (n:=8) (oI 63 (bR (.ol [a,b,c]))) (ac 20) (.cons t .nil) ⋯
 exact uf l
theorem sub_zero(k:Val v ws nd Y)(p:ws≠[]):∀c∈wp,At 42 (if c.e then 83 else 82) [.d .none,.d (c.rows v),.d .none] (.err nZ):=At.aQ (n:=14) wp (ac 28) _ _ (λc=>orE 65 nZ (cH [(49,eC),(43,bR (.ol [c1 c.a,c1 c.o,v,.none,.none,lg c.x,.none]))])) nZ (λc=>[At 28 43 [.d (c.rows v),.d B6] (.ok (.ol [c1 c.a,c1 c.o,v,.none,.none,lg c.x,.none],.u)),At 28 49 [.d (c1 c.a),.d (.str oN)] (.ok (.d (c1 c.a),.u)),At 28 49 [.d (c1 c.o),.d (.str th)] (.ok (.d (c1 c.o),.u)),At 28 49 [.d v,.d (.str [120])] (.ok (.d v,.u)),At 28 65 [.d .none,.d v,.d (.clo 106 [.l [c.o],.str [],.bool c.e])] (.err nZ)]) ⋯ λc q=>.cons (Eh c v) (.cons ((g9 rfl).u 28) (.cons ((g9 rfl).u 28) (.cons ((g9 k.frz.2.2).u 28) (.cons (Lk k p _ _) .nil))))
end
theorem ml{J:Type}{K:Nat}{x:Nat}{b:List S}{it:E}{f:Fr}{v:V}{p:D}{rg:Bool}{g:D->D}(F:List D->J->Fr)(P:J->Prop)(N:Nat){ds:List D}(s:ds.length<=N)(j0:J)(e:P j0)(u:bV K it f (v,F [] j0))(Q:frz v=some p)(n:dN rg p=some ds) (hs:∀acc j d,P j->acc.length< N->d∈ds->∃k f1,P k/\cE (F acc j) [x] d=some f1/\∀m,K<=m->exs (b6 fns m) b f1= .ok (.next,F (acc++[g d]) k)):∃j,P j/\de K (.for [x] rg it b) f (F (ds.map g) j):=by
 have r:∀(es:List D) (acc:List D) j,P j->acc.length+es.length<=N->(∀d∈es,d∈ds)->∃k,P k/\∀m,K<=m->fm (λd f=>(cg (cE f [x] d)).bind λf=>exs (b6 fns m) b f) es (F acc j)= .ok (.next,F (acc++es.map g) k):=by
  intro es;induction es with
  | nil=>exact λacc j z U U=>(a7 j z (λm q=>by simp [fm]))
  | cons d es M=>refine λacc j z hn t=>c0 (hs acc j d z (by simp at hn;exact AT hn) (t d (.head _))) λI f1 c l i=>a5 (M (acc++[g d]) I c (by simp at hn ⊢;exact AS hn) λy Y=>t y (.tail _ Y)) λk w o=>(a7 k w (λm q=>?_));show bt (bt (cg (cE (F acc j) [x] d)) λf=>exs (b6 fns m) b f) _=_;rw [l];show bt (exs (b6 fns m) b f1) _=_;rw [i m q];show fm _ es _=_;rw [o m q,eZ,jW];rfl
 refine a5 (r ds [] j0 e (by simpa using s) λd h=>h) λj z h=>(a7 j z (λm q=>?_));show bt (ev (b6 fns m) it f) _=_;rw [u m q];show bt (match frz v with | some d=>dS (d,F [] j0) | none=>.x) _=_;rw [Q];show bt (cg (dN rg p)) _=_;rw [n];exact h m q
def Opt.ar(o:Opt)(t:Bool):Opt:={o with cm:=λc U b=>match c,b with
 | .eq,.int 0=>some t
 | _,_=>none}
theorem lA(k:rs≠[]):cZ .eq (.int rs.length) (.int 0)=some false:=by
 show mH _ _=_;rw [qu rfl];induction rs using bO with
 | nil=>exact absurd rfl k
 | cons a r=>simp<;>exact HF
def plr:List D:=[.t [.int (-1),.int 1],.t [.int 0,.int 1],.t [.int 1,.int 1],.t [.int 2,.int 1],.t [.int 3,.int 1],.t [.int 4,.int 1],.t [.int 5,.int 1],.t [.int 6,.int 1],.t [.int 5,.int 2],.none]
def bN:D->D
 | .t [.int n,.int d]=>.int (if d==2 then 2 else n)
 | _=>.none
theorem vH:∀r∈plr,bN r∈plc:=by
 have:(plr.all λr=>plc.any λt=>cY t (bN r))=true:=by decide +kernel
 refine λr k=>a5 (jY.mp (dM.mp this r k)) λt p e=>?_;rw [<-l8 e];exact p
def c9(rs:List D):D:=.y (.str iQ) (.l rs) .none
def plB:List S:=match CR with
 | [_,_,.for _ _ _ b,_]=>b
 | _=>[]
def pb(rs acc:List D)(u:V):Fr:=[.d (c9 rs),.ol acc,u]
theorem RY(rs acc:List D):(cN plr λx=>fT (dy bQ (ac 0).l 4) (ac 0).l plB (pb rs acc (.d x)) (λc f=>(c,f)=(.next,pb rs (acc++[bN x]) (.d x))) (λU=>False))=cN plr λx=>cj [hZ .append [bN x] acc=some (.none,acc++[bN x])] ((h4,pb rs (acc++[bN x]) (.d x))=(h4,pb rs (acc++[bN x]) (.d x))):=⋯
theorem pZ(h:∀r∈rs,r∈plr)(l:rs.length<=4)(p:rs≠[]):At 20 71 [.d (c9 rs)] (.ok (.ol (rs.map bN),.u)):=by have k:bV 10 (.attr (.call 48 [.v 0,.str iQ,.list []]) 1) [.d (c9 rs),.ol [],.u] (.d (.l rs),pb rs [] .u):=f9 (n:=10) bQ (ac 0).l (.cons (eB l) .nil) ⋯;exact a5 (oE (x:=2) (pb rs) 4 l dC (λacc u d w=>by induction u using bS<;>first | rfl | exact absurd rfl (w _)) k rfl (j9 l) λacc d q y m z=>nv bQ (ac 0).l (λx=>pb rs acc (.d x)) _ (λx=>.cons (fL q) .nil) (RY rs acc) d (h d y) m (by show 0+4<=m;exact c5 z rfl)) λu U hs=>ct (n:=10) bQ (((ac 10).loop [(1,.ol (rs.map bN)),(2,u)]).l.ar false) (.cons (cK l) (.cons (lA p) (.cons hs .nil))) ⋯
def cC(l:List D)(i:Int):D:=l.getD i.toNat .none
def Opt.aK(o:Opt):Opt:={o with
 bn:=λk p q=>match k,p,q with
  | .mod,.int a,.int b=>some (.d (.int (a.fmod b)))
  | _,_,_=>none
 sb:=λp q=>match p,q with
  | .l xs,.int i=>some (cC xs i)
  | _,_=>none}
theorem ko{xs:List D}{i:Int}(k:0<=i)(q:i< xs.length){n:Nat}(l:xs.length<=n)(hn:n<=df:=by decide):kI (.l xs) (.int i)=some (cC xs i):=by show cG (cL xs.length) ((lh xs.length i).bind λn=>xs[n]?)=_;have p:=(AU k q);rw [show cL xs.length=true from decide_eq_true (cW l hn)];unfold lh;rw [if_pos k,if_pos p];show xs[i.toNat]? =_;unfold cC;rw [fC,fD p];rfl
theorem iM(p:Int){xs:List D}(h:xs≠[]):mq .mod (.int p) (.int xs.length)=some (.d (.int (p.fmod xs.length))):=by
 show cG ((xs.length:Int) !=0) _=_;have:((xs.length:Int) !=0)=true:=by
  induction xs using bO with
  | nil=>exact absurd rfl h
  | cons a r=>simp<;>exact HF
 rw [this];rfl
theorem sJ(p:Int){xs:List D}(h:xs≠[]):0<=p.fmod xs.length/\p.fmod xs.length< xs.length:=by
 have:0< (xs.length:Int):=by
  induction xs using bO with
  | nil=>exact absurd rfl h
  | cons a r=>simp<;>omega
 exact ⟨Jt _ this,Jv _ this⟩
theorem jI{xs:List D}{i:Int}(p:0<=i)(q:i< xs.length):cC xs i∈xs:=by have k:=(AU p q);unfold cC;rw [fC,fD k];exact IZ k
theorem iL(p:Int){xs:List D}(h:xs≠[]){n:Nat}(l:xs.length<=n)(hn:n<=df:=by decide):kI (.l xs) (.int (p.fmod xs.length))=some (cC xs (p.fmod xs.length)):=ko (sJ p h).1 (sJ p h).2 l hn
theorem fJ(p:Int){xs:List D}(h:xs≠[]):cC xs (p.fmod xs.length)∈xs:=jI (sJ p h).1 (sJ p h).2
theorem g8{n:Int}(h:n.natAbs<=k)(p:k<=df:=by decide):dN true (.int n)=some ((fO n.toNat).map λ(i:Nat)=>.int (i:Int)):=by show cG (cL n.natAbs) _=_;rw [show cL n.natAbs=true from decide_eq_true (cW h p)];rfl
def jQ(ws fs ls:List D)(t:Int->Int):D->D
 | .int i=>ph (cC ws (t i)) (cC fs (i.fmod fs.length)) (cC ls (i.fmod ls.length))
 | _=>.none
def two(b:Bool)(l:List D):V:=if b then .d (.l l) else .ol l
abbrev Ip:List S:=match CX with
 | [_,_,_,_,_,_,.for _ _ _ b,_,_,_]=>b
 | _=>[]
def rq(rows v:D)(ws rs qs fs ls acc:List D)(u:V)(b:Bool):Fr:=[.d .none,.d rows,.d .none,.d v,.d (c9 rs),.d (c9 qs),.d (.l ws),two b fs,two b ls,.ol acc,u,.u]
def HP:eQ:=oI 54 λk=>match k with
 | [.d w,.d p,.d q]=>some (.d (ph w p q))
 | _=>none
theorem Gc(z:w∈txs)(k:p∈plc)(y:q∈plc):At 3 54 [.d w,.d p,.d q] (.ok (.d (ph w p q),.u)):=fQ SF (AN z k y)
theorem Sz{rows v:D}(g:∀w∈ws,w∈txs)(j:∀p∈fs,p∈plc)(f:∀p∈ls,p∈plc)(e:ws.length<=4)(r:fs.length<=4)(t:ls.length<=4)(k:fs≠[])(q:ls≠[])(o:acc.length< 4){i:Int}(y:0<=i)(z:i< ws.length)(b:Bool):∀m,4<=m->exs (b6 fns m) Ip (rq rows v ws rs qs fs ls acc (.d (.int i)) b)= .ok (.next,rq rows v ws rs qs fs ls (acc++[jQ ws fs ls id (.int i)]) (.d (.int i)) true):=by have a:AllT [_,_,_,_,_,_,_,_,_]:=.cons (ko y z e) (.cons (cK r) (.cons (iM i k) (.cons (iL i k r) (.cons (cK t) (.cons (iM i q) (.cons (iL i q t) (.cons ((Gc (g _ (jI y z)) (j _ (fJ i k)) (f _ (fJ i q))).u 3) (.cons (fL (d:=jQ ws fs ls id (.int i)) o) .nil))))))));exact bT (n:=1) HP (ac 3).aK.l a (by clear a;induction b using dj<;>kernel_rfl)
def cT(n:Int):List D:=(fO n.toNat).map λ(i:Nat)=>.int (i:Int)
theorem ij{n:Int}(h:d∈cT n):∃i:Int,d= .int i/\0<=i/\i< n:=by refine a5 (cM.mp h) λi k p=>?_;clear h;subst p;exact (cF i rfl tW (by have:=jk.mp k;exact ZM this))
theorem gc{n:Int}(h:n.toNat<=k):(cT n).length<=k:=by simpa [cT] using h
theorem Fc(g:∀w∈ws,w∈txs)(t:∀p∈fs,p∈plc)(f:∀p∈ls,p∈plc)(q:ws.length<=4)(o:fs.length<=4)(e:ls.length<=4)(c:ws=[]\/(fs≠[]/\ls≠[])) : ∃j:V×Bool,nk j.1/\de 4 (.for [10] true (.bi .len [.v 6]) Ip) (rq rows v ws rs qs fs ls [] .u false) (rq rows v ws rs qs fs ls ((cT ws.length).map (jQ ws fs ls id)) j.1 j.2):=by
 refine ml (v:=.d (.int ws.length)) (λacc j=>rq rows v ws rs qs fs ls acc j.1 j.2) (λj=>nk j.1) 4 (gc (pa q)) (.u,false) dC (f9 (n:=1) bQ (ac 3).l (.cons (cK q) .nil) ⋯) rfl (g8 (wE q)) λacc j d m z r=>?_;obtain ⟨i,rfl,y,k⟩:=ij r;obtain ⟨s,Q⟩:=c.resolve_left λw=>by rw [w] at k;simp at k;exact ZN y k
 obtain ⟨u,b⟩:=j;exact (d6 (.d (.int i),true) (rq rows v ws rs qs fs ls acc (.d (.int i)) b) dH (by induction u using bS<;>first | rfl | exact absurd rfl (m _)) (Sz g t f q o e s Q z y k b))
inductive Shp:D->Prop
 | ch (i:D):Shp (.y CH i .none)
 | nm (i:D) (n:Nat):Shp (.y CH i (eY n))
 | nul:Shp (.nul (.str [78,85,76,76]) .none)
 | it (i a:D):Shp (.y (.str [105,110,116,101,103,101,114]) i a)
 | lg (i a:D):Shp (.y (.str [108,111,103,105,99,97,108]) i a)
 | db (i a:D):Shp (.y (.str [100,111,117,98,108,101]) i a)
theorem R0:∀κ∈kds,∀i a,Shp (.y κ.k i a):=kb .it .lg .db
theorem Val.aO(p:Val v ws nd q):Shp v:=by
 induction p with
 | ch=>exact .ch _
 | nm=>exact .nm _ _
 | nul=>exact .nul
 | ot k=>exact R0 _ k _ _
 | fc=>exact .it _ _
def wG(v:D)(rs qs:List D):D:=.l [.t [.none,v],.t [.none,c9 rs],.t [.none,c9 qs]]
def mM:List V->Option V
 | [.d (.y _ (.l rs) _)]=>some (.ol (rs.map bN))
 | _=>none
def Opt.gt0(o:Opt)(t:Bool):Opt:={o with cm:=λc U b=>match c,b with
 | .gt,.int 0=>some t
 | .eq,.int 0=>some !t
 | _,_=>none}
theorem gt0(ws:List D):cZ .gt (.int ws.length) (.int 0)=some !ws.isEmpty:=by
 show some (decide ((0:Int)< ws.length))=_;induction ws using bO with
 | nil=>rfl
 | cons a r=>simp<;>omega
def x3:List V->Option V
 | [.d (.l [.t [_,v],.t [_,a],.t [_,b]]),_]=>some (.ol [v,a,b])
 | _=>none
def lC(ws:List D)(fs ls:List D):List D:=(cT ws.length).map (jQ ws fs ls id)
theorem Nb(z:Val v ws nd C){rs qs:List D}(Y:∀r∈rs,r∈plr)(Q:∀r∈qs,r∈plr)(N:rs.length<=4)(M:qs.length<=4)(G:rs≠[])(I:qs≠[]) : At 36 72 [.d .none,.d (wG v rs qs),.d .none] (.ok (iq v (lC ws (rs.map bN) (qs.map bN)),.u)):=by
 have t:At 28 43 [.d (wG v rs qs),.d (.l [.str [120],.str kx,.str ky])] (.ok (.ol [v,c9 rs,c9 qs],.u)):=(eT (n:=12) ⋯).u 28;have x:=(kh z).u 28;have j:=dX z.len;have lg:(lC ws (rs.map bN) (qs.map bN)).length<=4:=by unfold lC;rw [cR];exact gc (pa j)
 have c:(rs.map bN).length<=4:=by simpa using N
 have o:(qs.map bN).length<=4:=by simpa using M
 have y:=z.two;have s:=z.aO;have i:=z.need (.str [120]);have w:=gt0 ws;induction q:ws.isEmpty with
 | true=>
  rw [q] at w;obtain rfl:=lP.mp q;obtain ⟨⟨u,b⟩,O,k⟩:=Fc (rows:=wG v rs qs) (v:=v) (ws:=[]) (rs:=rs) (qs:=qs) (fs:=[]) (ls:=[]) (λU h=>by cases h) (λU h=>by cases h) (λU h=>by cases h) ∅ ∅ ∅ (.inl rfl);have k:de 28 _ _ _:=λm f=>k m (c5 f rfl);have a:AllT [_,_,_,_,_,_,_]:=.cons t (.cons i (.cons x (.cons (cK j) (.cons w (.cons k (.cons (eB lg) .nil))))));clear z x t k w q i;rcases y with rfl | rfl
  .exact ct (n:=8) (cH [(43,x3),(49,eC),(63,bR (.d (.l []))),(71,mM)]) (((ac 28).loop [(9,.ol []),(10,u),(7,two b []),(8,two b [])]).l.gt0 false) a (by clear a;induction s<;>kernel_rfl)
  exact ct (n:=8) (cH [(43,x3),(49,eC),(63,bR (.ol [])),(71,mM)]) (((ac 28).loop [(9,.ol []),(10,u),(7,two b []),(8,two b [])]).l.gt0 false) a (by clear a;induction s<;>kernel_rfl)
 | false=>
  rw [q] at w;obtain ⟨⟨u,b⟩,O,k⟩:=Fc (rows:=wG v rs qs) (v:=v) (rs:=rs) (qs:=qs) z.tx (fs:=rs.map bN) (ls:=qs.map bN) (λp g=>by obtain ⟨r,h,e⟩:=cM.mp g;rw [<-e];exact vH r (Y r h)) (λp g=>by obtain ⟨r,h,e⟩:=cM.mp g;rw [<-e];exact vH r (Q r h)) j c o (.inr ⟨by simpa using G,by simpa using I⟩);have k:de 28 _ _ _:=λm f=>k m (c5 f rfl);have a:AllT [_,_,_,_,_,_,_,_,_,_,_]:=.cons t (.cons i (.cons x (.cons (cK j) (.cons w (.cons ((g9 (v:=c9 rs) (nm:=(.str kx)) rfl).u 28) (.cons ((pZ Y N G).u 28) (.cons ((g9 (v:=c9 qs) (nm:=(.str ky)) rfl).u 28) (.cons ((pZ Q M I).u 28) (.cons k (.cons (eB lg) .nil))))))))));clear z x t k w q i;rcases y with rfl | rfl
  .exact ct (n:=8) (cH [(43,x3),(49,eC),(63,bR (.d (.l ws))),(71,mM)]) (((ac 28).loop [(9,.ol (lC ws (rs.map bN) (qs.map bN))),(10,u),(7,two b (rs.map bN)),(8,two b (qs.map bN))]).l.gt0 true) a (by clear a;induction s<;>kernel_rfl)
  exact ct (n:=8) (cH [(43,x3),(49,eC),(63,bR (.ol ws)),(71,mM)]) (((ac 28).loop [(9,.ol (lC ws (rs.map bN) (qs.map bN))),(10,u),(7,two b (rs.map bN)),(8,two b (qs.map bN))]).l.gt0 true) a (by clear a;induction s<;>kernel_rfl)
theorem vG{rs:List D}(h:∀r∈rs,r∈plr):∀p∈rs.map bN,p∈plc:=λp k=>by refine a5 (cM.mp k) λr q e=>?_;rw [<-e];exact vH r (h r q)
theorem fK{k p:Type}{f:k->p}{l:List k}{n:Nat}(h:l.length<=n):(l.map f).length<=n:=by rw [cR];exact h
theorem t7{k p:Type}{f:k->p}{l:List k}(h:l≠[]):l.map f≠[]:=λe=>h (List.map_eq_nil_iff.mp e)
abbrev sgB:List S:=match CO with
 | [_,_,_,_,_,_,_,.for _ _ _ b,_]=>b
 | _=>[]
def mo(ws fs ls:List D):Int:=qQ ws.length fs.length ls.length
def BF(rows v:D)(ws rs qs fs ls acc:List D)(u:V):Fr:=[.d .none,.d rows,.d .none,.d v,.d (c9 rs),.d (c9 qs),.d (.l ws),.d (.l fs),.d (.l ls),.d (.int (mo ws fs ls)),.ol acc,u]
theorem yV{a b c n:Nat}(k:a<=n)(p:b<=n)(q:c<=n):(qQ a b c).natAbs<=n/\(qQ a b c).toNat<=n:=by unfold qQ;split<;>split<;>first | exact ⟨k,k⟩ | exact ⟨p,p⟩ | exact ⟨q,q⟩
theorem So{ws rs qs fs ls:List D}(c:∀w∈ws,w∈txs)(g:∀p∈fs,p∈plc)(o:∀p∈ls,p∈plc)(y:ws.length<=4)(k:fs.length<=4)(q:ls.length<=4)(t:ws≠[])(z:fs≠[])(r:ls≠[]) : ∃u,nk u/\de 4 (.for [11] true (.v 9) sgB) (BF rows v ws rs qs fs ls [] .u) (BF rows v ws rs qs fs ls ((cT (mo ws fs ls)).map (jQ ws fs ls λi=>i.fmod ws.length)) u):=by refine xA (yV y k q) λm1 m2=>oE (BF rows v ws rs qs fs ls) 4 (gc m2) dC (λacc u d e=>by induction u using bS<;>first | rfl | exact absurd rfl (e _)) (λm U=>rfl) rfl (g8 m1) λacc d f j=>ck (ij j) λi s Q Y=>?_;clear j;subst s;have a:AllT [_,_,_,_,_,_,_,_,_,_,_]:=.cons (cK y) (.cons (iM i t) (.cons (iL i t y) (.cons (cK k) (.cons (iM i z) (.cons (iL i z k) (.cons (cK q) (.cons (iM i r) (.cons (iL i r q) (.cons ((Gc (c _ (fJ i t)) (g _ (fJ i z)) (o _ (fJ i r))).u 3) (.cons (fL (d:=jQ ws fs ls (λi=>i.fmod ws.length) (.int i)) f) .nil))))))))));exact bT (n:=1) HP (ac 3).aK.l a ⋯
def Aq(v:D)(rs qs:List D):D:=.l [.t [.none,v],.t [.str vY,c9 qs],.t [.none,c9 rs]]
def wN:List V->Option V
 | [.d (.l [.t [_,v],.t [_,b],.t [_,a]]),_]=>some (.ol [v,a,b])
 | _=>none
def qW(ws fs ls:List D):List D:=(cT (mo ws fs ls)).map (jQ ws fs ls λi=>i.fmod ws.length)
def mA(ws fs ls:List D):List D:=if ws.isEmpty then [] else qW ws fs ls
def Opt.max(o:Opt)(ws fs ls:List D):Opt:={o with bi:=λb r=>match b,r with
  | .max,[_,_,_]=>some (.d (.int (mo ws fs ls)))
  | b,r=>o.bi b r}
theorem KX{v:D}{ws:List D}{nd:D}{B:V}(z:Val v ws nd B){rs qs:List D}(g:∀r∈rs,r∈plr)(f:∀r∈qs,r∈plr)(c:rs.length<=4)(o:qs.length<=4)(Y:rs≠[])(Q:qs≠[]) : At 36 73 [.d .none,.d (Aq v rs qs),.d .none] (.ok (cP CH (mA ws (rs.map bN) (qs.map bN)),.u)):=by
 have t:At 28 43 [.d (Aq v rs qs),.d (.l [.str vX,.str vU,.str vY])] (.ok (.ol [v,c9 rs,c9 qs],.u)):=(eT (n:=12) ⋯).u 28;have x:=(kh z).u 28;have w:=dX z.len;have p:(rs.map bN).length<=4:=fK c;have k:(qs.map bN).length<=4:=fK o;have M:=(pZ g c Y).u 28;have N:=(pZ f o Q).u 28;have s:=(g9 (v:=c9 rs) (nm:=(.str vU)) rfl).u 28;have y:=z.two;have I:=z.need (.str vX);have j:cZ .eq (.int ws.length) (.int 0)=some ws.isEmpty:=by
  clear z w y;induction ws using bO with
  | nil=>rfl
  | cons a r=>exact lA (by simp)
 unfold mA;induction q:ws.isEmpty with
 | true=>
  rw [q] at j;obtain rfl:=lP.mp q;have a:AllT [_,_,_,_,_,_,_,_,_]:=.cons t (.cons I (.cons x (.cons s (.cons M (.cons N (.cons (cK w) (.cons j (.cons (eB (xs:=[]) (n:=0) (fj _)) .nil))))))));rcases y with rfl | rfl
  .exact ct (n:=8) (cH [(43,wN),(49,eC),(63,bR (.d (.l []))),(71,mM)]) ((ac 28).l.ar true) a ⋯
  exact ct (n:=8) (cH [(43,wN),(49,eC),(63,bR (.ol [])),(71,mM)]) ((ac 28).l.ar true) a ⋯
 | false=>
  rw [q] at j;have C:ws≠[]:=λe=>by rw [e] at q;injection q
  refine a5 (So (rows:=Aq v rs qs) (v:=v) (rs:=rs) (qs:=qs) z.tx (vG g) (vG f) w p k C (t7 Y) (t7 Q)) λu H i=>?_;have i:de 28 _ _ _:=λm G=>i m (c5 G rfl);have lg:(qW ws (rs.map bN) (qs.map bN)).length<=4:=fK (gc (yV w p k).2);have O:kJ .max [.int ws.length,.int (rs.map bN).length,.int (qs.map bN).length]=some (.d (.int (mo ws (rs.map bN) (qs.map bN)))):=rfl;have a:AllT [_,_,_,_,_,_,_,_,_,_,_,_,_,_]:=.cons t (.cons I (.cons x (.cons s (.cons M (.cons N (.cons (cK w) (.cons j (.cons (cK w) (.cons (cK p) (.cons (cK k) (.cons O (.cons i (.cons (eB lg) .nil)))))))))))));rcases y with rfl | rfl
  .exact ct (n:=8) (cH [(43,wN),(49,eC),(63,bR (.d (.l ws))),(71,mM)]) ((((ac 28).loop [(10,.ol (qW ws (rs.map bN) (qs.map bN))),(11,u)]).l.max ws (rs.map bN) (qs.map bN)).ar false) a ⋯
  exact ct (n:=8) (cH [(43,wN),(49,eC),(63,bR (.ol ws)),(71,mM)]) ((((ac 28).loop [(10,.ol (qW ws (rs.map bN) (qs.map bN))),(11,u)]).l.max ws (rs.map bN) (qs.map bN)).ar false) a ⋯
def cv(ws:List D)(a:D):D:=.y CH (.l ws) a
def ei(v:D):Bool:=match v with
 | .y (.str k) _ _=>!hS k cJ
 | _=>true
theorem Val.char(q:Val v ws nd z):ei v=true\/∃a,v=cv ws a/\(a= .none\/∃n,a=eY n)/\(∀w∈ws,w∈wrds)/\z= .d (.l ws):=by
 have k:∀κ∈kds,∀i a,ei (.y κ.k i a)=true:=kb (λU U=>rfl) (λU U=>rfl) λU U=>rfl;induction q with
 | ch U h=>exact .inr (js _ rfl (.inl rfl) h rfl)
 | nm U h=>exact .inr (js _ rfl (.inr ⟨_,rfl⟩) h rfl)
 | nul=>exact .inl rfl
 | ot p=>exact .inl (k _ p _ _)
 | fc=>exact .inl rfl
theorem pX{P:D->Prop}(s:Shp v)(h:ei v=true)(k:P (.nul (.str oP) .none))(p:∀i a,P (.y (.str dv) i a))(q:∀i a,P (.y (.str dJ) i a))(z:∀i a,P (.y (.str iQ) i a)):P v:=by
 induction s with
 | ch=>exact absurd h gG
 | nm=>exact absurd h gG
 | nul=>exact k
 | it=>exact p _ _
 | lg=>exact q _ _
 | db=>exact z _ _
abbrev asB:List S:=match CL with
 | [_,_,_,_,_,_,.for _ _ _ b,_]=>b
 | _=>[]
def wP(rows:D)(a:D)(ws rs qs hs fs ls acc:List D)(u:V)(b:Bool):Fr:=[.d .none,.d rows,.d .none,.d (cv ws a),.d (c9 rs),.d (c9 qs),.d (cv hs .none),two b fs,two b ls,.ol acc,u]
def jP(ws fs ls hs:List D):D->D
 | .int i=>pd (cC ws i) (cC fs (i.fmod fs.length)) (cC ls (i.fmod ls.length)) (cC hs (i.fmod hs.length))
 | _=>.none
def putL(ws fs ls hs:List D):List D:=(cT ws.length).map (jP ws fs ls hs)
def a0q:eQ:=oI 55 λk=>match k with
 | [.d w,.d p,.d q,.d h]=>some (.d (pd w p q h))
 | _=>none
theorem Q7{ws rs qs hs fs ls:List D}(M:∀w∈ws,w∈wrds)(s:∀p∈fs,p∈plc)(Y:∀p∈ls,p∈plc)(Q:∀w∈hs,w∈wrds)(k:ws.length<=4)(g:fs.length<=4)(e:ls.length<=4)(o:hs.length<=4)(q:fs≠[])(z:ls≠[])(y:hs≠[]) : ∃j:V×Bool,nk j.1/\de 6 (.for [10] true (.call 23 [.v 3]) asB) (wP rows a ws rs qs hs fs ls [] .u false) (wP rows a ws rs qs hs fs ls (putL ws fs ls hs) j.1 j.2):=by refine ml (v:=.d (.int ws.length)) (λacc j=>wP rows a ws rs qs hs fs ls acc j.1 j.2) (λj=>nk j.1) 4 (gc (pa k)) (.u,false) dC (f9 (n:=2) bQ (ac 4).l (.cons (cK k) .nil) ⋯) rfl (g8 (wE k)) λacc j d f c m=>ck (ij m) λi N r t=>?_;clear m;subst N;obtain ⟨u,b⟩:=j;have l:AllT [_,_,_,_,_,_,_,_,_,_,_,_]:=.cons (ko r t k) (.cons (cK g) (.cons (iM i q) (.cons (iL i q g) (.cons (cK e) (.cons (iM i z) (.cons (iL i z e) (.cons (cK o) (.cons (iM i y) (.cons (iL i y o) (.cons ((a0J as0 as3 as6 (M _ (jI r t)) (s _ (fJ i q)) (Y _ (fJ i z)) (Q _ (fJ i y))).u 4) (.cons (fL (d:=jP ws fs ls hs (.int i)) c) .nil)))))))))));refine (d6 (.d (.int i),true) (wP rows a ws rs qs hs fs ls acc (.d (.int i)) b) dH (by induction u using bS<;>first | rfl | exact absurd rfl (f _)) ?_);clear f;induction b using dj<;>exact bT (n:=2) a0q (ac 4).aK.l l ⋯
def pf(v:D)(rs qs hs:List D):D:=.l [.t [.none,v],.t [.str kx,c9 rs],.t [.str ky,c9 qs],.t [.str tm,cv hs .none]]
def BL:List V->Option V
 | [.d (.l [.t [_,v],.t [_,a],.t [_,b],.t [_,c]]),_]=>some (.ol [v,a,b,c])
 | _=>none
def nT:Tx:=Ar
theorem CT(v:D)(rs qs hs:List D):At 28 43 [.d (pf v rs qs hs),.d (.l [.str [120],.str kx,.str ky,.str tm])] (.ok (.ol [v,c9 rs,c9 qs,cv hs .none],.u)):=(eT (n:=12) ⋯).u 28
theorem Lo(s:Shp v)(h:ei v=true)(rs qs hs:List D):At 36 74 [.d .none,.d (pf v rs qs hs),.d .none] (.err nT):=by
 have t:=CT v rs qs hs;revert t;refine pX (P:=λv=>At 28 43 [.d (pf v rs qs hs),.d (.l [.str [120],.str kx,.str ky,.str tm])] (.ok (.ol [v,c9 rs,c9 qs,cv hs .none],.u))->At 36 74 [.d .none,.d (pf v rs qs hs),.d .none] (.err nT)) s h ?_ ?_ ?_ ?_
 .exact λt=>gn (n:=8) (cH [(43,BL)]) (ac 28) (.cons t .nil) ⋯
 all_goals exact λi a t=>gn (n:=8) (cH [(43,BL)]) (ac 28) (.cons t .nil) ⋯
theorem Ma(s:a= .none\/∃n,a=eY n)(N:∀w∈ws,w∈wrds)(g:ws.length<=4){rs qs hs:List D}(z:∀r∈rs,r∈plr)(y:∀r∈qs,r∈plr)(Q:∀w∈hs,w∈wrds)(f:rs.length<=4)(i:qs.length<=4)(j:hs.length<=4)(c:rs≠[])(e:qs≠[])(o:hs≠[]) : At 36 74 [.d .none,.d (pf (cv ws a) rs qs hs),.d .none] (.ok (.d (cv (putL ws (rs.map bN) (qs.map bN) hs) a),.u)):=by
 have t:=CT (cv ws a) rs qs hs;have q:(rs.map bN).length<=4:=fK f;have p:(qs.map bN).length<=4:=fK i;refine a5 (Q7 (rows:=pf (cv ws a) rs qs hs) (a:=a) (rs:=rs) (qs:=qs) N (vG z) (vG y) Q g q p j (t7 c) (t7 e) o) λI M k=>?_;clear M;obtain ⟨u,b⟩:=I;have k:de 28 _ _ _:=λm Y=>k m (c5 Y rfl);have lg:(putL ws (rs.map bN) (qs.map bN) hs).length<=4:=fK (gc (pa g));have l:AllT [_,_,_,_,_,_,_,_,_,_]:=.cons t (.cons ((g9 (v:=cv ws a) (nm:=(.str [120])) rfl).u 28) (.cons (cK j) (.cons (lA o) (.cons ((g9 (v:=c9 rs) (nm:=(.str kx)) rfl).u 28) (.cons ((pZ z f c).u 28) (.cons ((g9 (v:=c9 qs) (nm:=(.str ky)) rfl).u 28) (.cons ((pZ y i e).u 28) (.cons k (.cons (eB lg) .nil)))))))));rcases s with rfl | ⟨n,rfl⟩
 all_goals exact ct (n:=8) (cH [(43,BL),(49,eC),(71,mM)]) (((ac 28).loop [(9,.ol (putL ws (rs.map bN) (qs.map bN) hs)),(10,u),(7,two b (rs.map bN)),(8,two b (qs.map bN))]).l.ar false) l ⋯
def fW(a w:D):D:=match w,a with
 | .str s,.str a=>.int (if tN s a then 1 else 0)
 | _,_=>.int 0
def nQ(v a:D)(x:Bool):D:=.l [.t [.none,c1 a],.t [.str [120],v],.t [.str jt,lg x]]
theorem RX:ft 20 ((aims.flatMap λa=>tfs.map λx=>(a,x)).filterMap λp=>if !p.2&&cY p.1 (.str [46]) then none else some (80,[.d .none,.d (c1 p.1),.d (lg p.2),.d .none],.d p.1))=True:=⋯
theorem V8(k:a∈aims)(h:(!x&&cY a (.str [46]))=false):At 20 80 [.d .none,.d (c1 a),.d (lg x),.d .none] (.ok (.d a,.u)):=fQ RX (uH.mpr (a7 (a,x) (kG k (by clear h;induction x using dj<;>decide)) (by dsimp only;rw [h];rfl)))
abbrev HZ:List S:=match Db with
 | [_,_,_,.for _ _ _ b,_]=>b
 | _=>[]
def nV(rows v a:D)(x:Bool)(acc:List D)(u:V):Fr:=[.d .none,.d rows,.d .none,.d (c1 a),.d v,.d .none,.d .none,.d (lg x),.d .none,.d a,.ol acc,u]
theorem QK(rows v:D)(x:Bool)(acc:List D):(cN (aims.flatMap λa=>txs.map λt=>(a,t)) λp=>fT (dy bQ (ac 0).l 0) (ac 0).l HZ (nV rows v p.1 x acc (.d p.2)) (λc f=>(c,f)=(.next,nV rows v p.1 x (acc++[fW p.1 p.2]) (.d p.2))) (λU=>False))=cN (aims.flatMap λa=>txs.map λt=>(a,t)) λp=>cj [hZ .append [fW p.1 p.2] acc=some (.none,acc++[fW p.1 p.2])] ((h4,nV rows v p.1 x (acc++[fW p.1 p.2]) (.d p.2))=(h4,nV rows v p.1 x (acc++[fW p.1 p.2]) (.d p.2))):=⋯
theorem Oj(k:Val v ws nd o){a:D}(w:a∈aims){x:Bool}(h:(!x&&cY a (.str [46]))=false):At 36 84 [.d .none,.d (nQ v a x),.d .none] (.ok (cP (.str dJ) (ws.map (fW a)),.u)):=by
 have t:At 28 43 [.d (nQ v a x),.d (.l [.str oN,.str [120],.str vS,.str qC,.str jt,.str qz])] (.ok (.ol [c1 a,v,.none,.none,lg x,.none],.u)):=(eT (n:=12) ⋯).u 28;have z:bV 28 (.call 63 [.v 0,.call 49 [.v 4,.str [120]]]) (nV (nQ v a x) v a x [] .u) (o,nV (nQ v a x) v a x [] .u):=by
  have l:AllT [_,_]:=.cons ((g9 (nm:=(.str [120])) k.frz.2.2).u 20) (.cons (kh k) .nil);rcases k.two with rfl | rfl
  .exact λm q=>f9 (cH [(63,bR (.d (.l ws))),(49,eC)]) (ac 20) l ⋯ m (by show 20+1<=m;exact c5 q rfl)
  exact λm q=>f9 (n:=1) (cH [(63,bR (.ol ws)),(49,eC)]) (ac 20) l ⋯ m (by show 20+1<=m;exact c5 q rfl)
 obtain ⟨u,U,r⟩:=oE (u0:=.u) (b:=HZ) (x:=11) (rg:=false) (g:=fW a) (nV (nQ v a x) v a x) 3 k.len dC (λacc u d i=>by induction u using bS<;>first | rfl | exact absurd rfl (i _)) z k.frz.1 (j9 k.len) λacc d y j m q=>nv (n:=0) bQ (ac 0).l (λp:D×D=>nV (nQ v a x) v p.1 x acc (.d p.2)) _ (λp=>.cons (fL (d:=fW p.1 p.2) y) .nil) (QK (nQ v a x) v x acc) (a,d) (kG (f:=λa t=>(a,t)) w (k.tx d j)) m (dR m);exact ct (n:=8) (cH [(43,bR (.ol [c1 a,v,.none,.none,lg x,.none])),(80,bR (.d a))]) ((ac 28).loop [(10,.ol (ws.map (fW a))),(11,u)]).l (.cons t (.cons ((V8 w h).u 28) (.cons r (.cons (eB (fK (f:=fW a) k.len)) .nil)))) ⋯
theorem MD(v:D):At 36 84 [.d .none,.d (nQ v (.str [46]) false),.d .none] (.err fV):=gn (n:=36) bQ (ac 0) .nil ⋯
def mJ:Tx:=zF
def hW(v w:D):D:=.l [.t [.none,v],.t [.none,w]]
def tk2:List V->Option V
 | [.d (.l [.t [_,v],.t [_,a]]),_]=>some (.ol [v,a])
 | _=>none
theorem CV(v w:D):At 28 43 [.d (hW v w),.d (.l [.str [120],.str vT])] (.ok (.ol [v,w],.u)):=(eT (n:=12) ⋯).u 28
theorem M6(s:Shp v)(h:ei v=true)(hs:List D):At 36 79 [.d .none,.d (hW v (cv hs .none)),.d .none] (.err mJ):=by
 have t:=CV v (cv hs .none);revert t;refine pX (P:=λv=>At 28 43 [.d (hW v (cv hs .none)),.d (.l [.str [120],.str vT])] (.ok (.ol [v,cv hs .none],.u))->At 36 79 [.d .none,.d (hW v (cv hs .none)),.d .none] (.err mJ)) s h ?_ ?_ ?_ ?_
 .exact λt=>gn (n:=8) (cH [(43,tk2)]) (ac 28) (.cons t .nil) ⋯
 all_goals exact λi a t=>gn (n:=8) (cH [(43,tk2)]) (ac 28) (.cons t .nil) ⋯
def fq(ws hs:List D):Int:=if (hs.length:Int)> ws.length then hs.length else ws.length
def Ic(ws hs:List D)(a:D)(u:V):Fr:=[.d (cv ws a),.d (cv hs .none),.d (.fn 60),.d (.int (fq ws hs)),u]
def B1(ws hs:List D):D->D
 | .int i=>fM (cC ws (i.fmod ws.length)) (cC hs (i.fmod hs.length))
 | _=>.none
theorem Vu(p:w∈wrds)(k:a∈aims):At 4 60 [.d w,.d a] (.ok (.d (fM w a),.u)):=fQ SA (kG p k)
def a0C:eQ:=oI 60 λk=>match k with
 | [.d w,.d a]=>some (.d (fM w a))
 | _=>none
def wK(ws hs:List D):List D:=(cT (fq ws hs)).map (B1 ws hs)
theorem qk{ws hs:List D}(k:ws.length<=n)(p:hs.length<=n):(fq ws hs).natAbs<=n/\(fq ws hs).toNat<=n:=by unfold fq;split<;>first | exact ⟨k,k⟩ | exact ⟨p,p⟩
theorem N9(M:a= .none\/∃n,a=eY n)(s:∀w∈ws,w∈wrds)(y:ws.length<=4){hs:List D}(N:∀w∈hs,w∈aims)(z:hs.length<=4)(o:hs≠[]) : At 36 79 [.d .none,.d (hW (cv ws a) (cv hs .none)),.d .none] (.ok (cP (.str dJ) (if ws.isEmpty then [] else wK ws hs),.u)):=by
 have t:=CV (cv ws a) (cv hs .none);have j:cZ .eq (.int ws.length) (.int 0)=some ws.isEmpty:=by
  clear s y t;induction ws using bO with
  | nil=>rfl
  | cons a r=>exact lA (by simp)
 induction q:ws.isEmpty with
 | true=>rw [q] at j;clear s;obtain rfl:=lP.mp q;have l:AllT [_,_,_,_]:=.cons t (.cons (cK y) (.cons j (.cons (eB (xs:=[]) (fj _)) .nil)));exact ct (n:=8) (cH [(43,tk2)]) ((ac 28).l.ar true) l ⋯
 | false=>
  rw [q] at j;have Q:ws≠[]:=λe=>by rw [e] at q;injection q
  refine xA (qk y z) λm1 m2=>?_;have c:=qg (K:=10) (f:=Ic ws hs a .u) (rg:=true) (it:=.v 3) (x:=4) (e:=.cv (.v 2) [.sub (.f 0 1) (.b .mod (.v 4) (.call 23 [.v 0])),.sub (.f 1 1) (.b .mod (.v 4) (.call 23 [.v 1]))]) (Ic ws hs a) (ds:=cT (fq ws hs)) (g:=B1 ws hs) (v:=.d (.int (fq ws hs))) (p:=.int (fq ws hs)) (λu d G=>by induction u using bS<;>first | rfl | exact absurd rfl (G _)) (λu=>rfl) (λm U=>rfl) rfl (g8 (k:=4) m1) λd Y=>by refine ck (ij Y) λi O C B=>?_;clear Y;subst O;have l:AllT [_,_,_,_,_,_,_]:=.cons (cK y) (.cons (iM i Q) (.cons (iL i Q y) (.cons (cK z) (.cons (iM i o) (.cons (iL i o z) (.cons ((Vu (s _ (fJ i Q)) (N _ (fJ i o))).u 6) .nil))))));exact f9 (n:=4) a0C (ac 6).aK.l l ⋯
  have c:bV 28 _ _ _:=λm I=>c m (c5 I rfl);have l:AllT [_,_,_,_,_,_,_,_,_]:=.cons t (.cons (cK y) (.cons j (.cons (cK z) (.cons (lA o) (.cons (cK y) (.cons (cK z) (.cons c (.cons (eB (fK (f:=B1 ws hs) (gc m2))) .nil))))))));rcases M with rfl | ⟨n,rfl⟩
  all_goals exact ct (n:=8) (cH [(43,tk2)]) (((ac 28).comp (.ol (wK ws hs))).l.ar false) l ⋯
theorem jH(h:exs G [s] f= .ok (.next,f1)):exs G (s::b) f=exs G b f1:=by
 have k:exs G [s] f=(ex G s f).bind λr=>match r.1 with
  | .next=>exs G [] r.2
  | c=>.ok (c,r.2):=rfl
 have p:exs G (s::b) f=(ex G s f).bind λr=>match r.1 with
  | .next=>exs G b r.2
  | c=>.ok (c,r.2):=rfl
 rw [k] at h;rw [p];induction q:ex G s f with
 | ok r=>
  rw [q] at h;obtain ⟨c,g⟩:=r;clear q;induction c with
  | next=>cases h;rfl
  | _=>cases h
 | _=>rw [q] at h;injection h
theorem Wt{Ps:List Prop}(o:eQ)(k:Opt)(z:AllT Ps)(e:fT (dy o k n) k p f (λU U=>False) (λq=>q=msg)=cj Ps (msg=msg)):∀m,k.K+n<=m->exs (b6 fns m) p f= .err msg:=λm y=>by
 have h:=vD (a7 m (wC y) rfl) (oG o k n m (wD y)) p (e▸lw rfl z);generalize exs (b6 fns m) p f=x at h ⊢;induction x with
 | err q=>exact congrArg _ h
 | _=>exact h.elim
theorem QH{K:Nat}(k:bV K it f (v,f0))(w:frz v=some p)(u:dN rg p=some (d::ds))(z:cE f0 [x] d=some f1)(hs:∀m,K<=m->exs (b6 fns m) b f1= .err q):mB K (.for [x] rg it b) f (.err q):=λm y=>by show bt (ev (b6 fns m) it f) _=_;rw [k m y];show bt (match frz v with | some d=>dS (d,f0) | none=>.x) _=_;rw [w];show bt (cg (dN rg p)) _=_;rw [u];show bt (bt (cg (cE f0 [x] d)) λf=>exs (b6 fns m) b f) _=_;rw [z];show bt (exs (b6 fns m) b f1) _=_;rw [hs m y];rfl
def a0r(w a:D):D:=.y CH (.l (eP w a)) .none
def hY(v a:D)(x:Bool):D:=.l [.t [.none,v],.t [.str vV,c1 a],.t [.str jt,lg x]]
abbrev x1:List S:=match y1 with
 | [_,_,_,_,_,.for _ _ _ (s::_),_]=>[s]
 | _=>[]
abbrev BG:List S:=match y1 with
 | [_,_,_,_,_,.for _ _ _ (_::b),_]=>b
 | _=>[]
def jC(rows a:D)(ws:List D)(s:Tx)(x:Bool)(acc:List D)(u y:V):Fr:=[.d .none,.d rows,.d .none,.d (cv ws a),.d (c1 (.str s)),.d (lg x),.d .none,.d .none,.d (.l [.str s]),.ol acc,u,y]
theorem Wv(i:Int):kI (.l [iJ s]) (.int (i.fmod 1))=some (.str s):=by have:i.fmod 1=0:=Int.fmod_one _;rw [this];rfl
theorem FO(a:D):At 8 23 [.d (c1 a)] (.ok (.d (.int 1),.u)):=eT ⋯
theorem QC(x:Bool):At 20 50 [.d (lg x),.d (.bool false)] (.ok (.d (.bool x),.u)):=by induction x using dj<;>exact eT ⋯
theorem Qn:ft 20 ((aims.flatMap λa=>tfs.map λx=>(a,x)).filterMap λp=>if !p.2&&cY p.1 (.str [46]) then none else some (69,[.d p.1,.d (.bool p.2)],.d .none))=True:=⋯
theorem U2(k:a∈aims)(h:(!x&&cY a (.str [46]))=false):At 20 69 [.d a,.d (.bool x)] (.ok (.d .none,.u)):=fQ Qn (uH.mpr (a7 (a,x) (kG k (by clear h;induction x using dj<;>decide)) (by dsimp only;rw [h];rfl)))
theorem Vt(p:w∈wrds)(k:a∈aims):At 4 53 [.d w,.d a] (.ok (.ol (eP w a),.u)):=fQ Sy (kG p k)
theorem RW:∀w∈wrds,∀a∈aims,(eP w a).length<=4:=by
 have:(wrds.all λw=>aims.all λa=>decide ((eP w a).length<=4))=true:=by decide +kernel
 exact λw p a k=>of_decide_eq_true (dM.mp (dM.mp this w p) a k)
def spO(s:Tx)(x:Bool):eQ:=cH [(50,bR (.d (.bool x))),(69,bR (.d .none)),(53,λk=>match k with
 | [.d w,.d a]=>some (.ol (eP w a))
 | _=>none)]
def Io(ws:List D)(s:Tx):D->D
 | .int i=>a0r (cC ws i) (.str s)
 | _=>.none
def pr(ws:List D)(s:Tx):List D:=(cT ws.length).map (Io ws s)
def Opt.one(o:Opt)(a:D):Opt:={o with sb:=λU U=>some a}
theorem Ef{i:Int}(p:nk y):∀m,4<=m->exs (b6 fns m) x1 (jC rows a ws s x acc (.d (.int i)) y)= .ok (.next,jC rows a ws s x acc (.d (.int i)) (.d (.str s))):=by
 have l:AllT [_]:=.cons (Wv (s:=s) i) .nil;induction y using bS with
 | k z=>exact absurd rfl (p z)
 | _=>exact bT (n:=0) bQ ((ac 4).one (.str s)) l ⋯
theorem Ss(o:∀w∈ws,w∈wrds)(p:ws.length<=4)(r: .str s∈aims)(h:(!x&&cY (.str s) (.str [46]))=false):∃j:V×V,(nk j.1/\nk j.2)/\de 26 (.for [10] true (.call 23 [.v 3]) (x1++BG)) (jC rows a ws s x [] .u .u) (jC rows a ws s x (pr ws s) j.1 j.2):=by refine ml (v:=.d (.int ws.length)) (λacc (j:V×V)=>jC rows a ws s x acc j.1 j.2) (λj=>nk j.1/\nk j.2) 4 (gc (pa p)) (.u,.u) ⟨dC,dC⟩ (λm k=>f9 bQ (ac 4).l (.cons (cK p) .nil) ⋯ m (by show 4+2<=m;exact c5 k rfl)) rfl (g8 (wE p)) λacc j d g t f=>ck (ij f) λi e q z=>?_;clear f;subst e;obtain ⟨u,y⟩:=j;refine (d6 (.d (.int i),.d (.str s)) (jC rows a ws s x acc (.d (.int i)) y) ⟨dH,dH⟩ (by induction u using bS<;>first | rfl | exact absurd rfl (g.1 _)) (λm k=>?_));have l:AllT [_,_,_,_,_,_]:=.cons ((QC x).u 24) (.cons ((U2 r h).u 24) (.cons (ko q z p) (.cons ((Vt (o _ (jI q z)) r).u 24) (.cons (eB (RW _ (o _ (jI q z)) _ r)) (.cons (fL (d:=Io ws s (.int i)) t) .nil)))));exact (jH (Ef g.2 m (c5 k rfl))).trans (bT (n:=2) (spO s x) (ac 24).aK.l l ⋯ m k)
def Im:D:=.l [.str [120],.str vV,.str jt,.str qC,.str qz]
def um:List V->Option V
 | [.d (.l [.t [_,v],.t [_,a],.t [_,b]]),_]=>some (.ol [v,a,b,.none,.none])
 | _=>none
theorem yd(v a:D)(x:Bool):At 28 43 [.d (hY v a x),.d Im] (.ok (.ol [v,c1 a,lg x,.none,.none],.u)):=(eT (n:=12) ⋯).u 28
def mQ:Tx:=zG
theorem N7(s:Shp w)(h:ei w=true)(a:D)(x:Bool):At 36 70 [.d .none,.d (hY w a x),.d .none] (.err mQ):=by
 have t:=yd w a x;revert t;refine pX (P:=λv=>At 28 43 [.d (hY v a x),.d Im] (.ok (.ol [v,c1 a,lg x,.none,.none],.u))->At 36 70 [.d .none,.d (hY v a x),.d .none] (.err mQ)) s h ?_ ?_ ?_ ?_
 .exact λt=>gn (n:=8) (cH [(43,um)]) (ac 28) (.cons t .nil) ⋯
 all_goals exact λi b t=>gn (n:=8) (cH [(43,um)]) (ac 28) (.cons t .nil) ⋯
theorem yW:∀d∈pr ws s,∃l,d= .y CH (.l l) .none:=λd p=>by refine a5 (cM.mp p) λe he k=>?_;subst k;refine a5 (ij he) λi k U=>?_;clear he p;subst k;exact ⟨_,rfl⟩
theorem Ed(q:∀d∈R,∃l,d= .y CH (.l l) .none)(l:R.length<=4)(nm:D):bV 4 (.comp (.call 26 [.v 2]) [2] false (.v 0) none) [.d (.l R),.d nm,.u] (.ol R,[.d (.l R),.d nm,.u]):=by
 have h:=qg (f:=[.d (.l R),.d nm,.u]) (it:=.v 0) (x:=2) (e:=.call 26 [.v 2]) (λu=>[.d (.l R),.d nm,u]) (ds:=R) (g:=id) (v:=.d (.l R)) (p:=.l R) (λu d z=>by induction u using bS<;>first | rfl | exact absurd rfl (z _)) (λu=>rfl) (λm U=>rfl) rfl (j9 l) λd k=>by refine xE (q d k) λl w=>?_;clear k;subst w;exact f9 (n:=4) bQ (ac 0) .nil ⋯
 rwa [C8] at h
theorem Dv{x:Bool}{u y:V}(z:∀d∈R,∃l,d= .y CH (.l l) .none)(w:R.length<=4){a:D}(f:a= .none\/∃n,n<=4/\a=eY n) (q:de 28 (.for [10] true (.call 23 [.v 3]) (x1++BG)) (jC (hY (cv ws a) (.str s) x) a ws s x [] .u .u) (jC (hY (cv ws a) (.str s) x) a ws s x R u y)):At 40 70 [.d .none,.d (hY (cv ws a) (.str s) x),.d .none] (.ok (.d (.y (.str eV) (.l R) a),.u)):=by
 have t:=yd (cv ws a) (.str s) x;have r:=(g9 (v:=cv ws a) (nm:=(.str [120])) rfl).u 28;have j:=(FO (.str s)).u 28;have i:At 28 63 [.d .none,.d (c1 (.str s))] (.ok (.d (.l [.str s]),.u)):=(eT (n:=20) ⋯).u 28;rcases f with rfl | ⟨n,hn,rfl⟩
 .have k:bV 28 _ _ _:=λm p=>Ed z w .none m (c5 p rfl);have l:AllT [_,_,_,_,_,_]:=.cons t (.cons r (.cons j (.cons i (.cons q (.cons k .nil)))));exact ct (n:=12) (cH [(43,um),(49,eC),(23,bR (.d (.int 1))),(63,bR (.d (.l [.str s])))]) (((ac 28).loop [(9,.ol R),(10,u),(11,y)]).comp (.ol R)).l l ⋯
 have k:bV 28 _ _ _:=λm p=>Ed z w (.l (gg n)) m (c5 p rfl);have l:AllT [_,_,_,_,_,_,_,_]:=.cons t (.cons r (.cons j (.cons i (.cons q (.cons (eB (vE hn)) (.cons k (.cons (eB (vE hn)) .nil)))))));exact ct (n:=12) (cH [(43,um),(49,eC),(23,bR (.d (.int 1))),(63,bR (.d (.l [.str s])))]) (((ac 28).loop [(9,.ol R),(10,u),(11,y)]).comp (.ol R)).l l ⋯
theorem Po(q:a= .none\/∃n,n<=4/\a=eY n)(t:∀w∈ws,w∈wrds)(z:ws.length<=4)(hs: .str s∈aims)(h:ws=[]\/(!x&&cY (.str s) (.str [46]))=false):At 40 70 [.d .none,.d (hY (cv ws a) (.str s) x),.d .none] (.ok (.d (.y (.str eV) (.l (pr ws s)) a),.u)):=by
 rcases h with rfl | h
 .exact Dv yW (dR _) q (a5 (ml (g:=id) (v:=.d (.int 0)) (λacc (j:Unit)=>jC (hY (cv [] a) (.str s) x) a [] s x [] .u .u) (λU=>True) 0 ∅ () trivial (λm p=>f9 (n:=8) bQ (ac 0) .nil ⋯ m (by show 0+8<=m;exact c5 p rfl)) rfl rfl λU U U U h=>absurd h (Jj _)) λu U k=>k)
 refine a5 (Ss (rows:=hY (cv ws a) (.str s) x) (a:=a) t z hs h) λi r k=>?_;clear r;obtain ⟨u,y⟩:=i;exact Dv yW (fK (gc (pa z))) q λm p=>k m (c5 p rfl)
theorem N6{ws:List D}{a:D}(o:ws≠[])(q:ws.length<=4):At 40 70 [.d .none,.d (hY (cv ws a) (.str [46]) false),.d .none] (.err fV):=by
 have t:=yd (cv ws a) (.str [46]) false;have z:=(g9 (v:=cv ws a) (nm:=(.str [120])) rfl).u 28;have c:=(FO (.str [46])).u 28;have s:At 28 63 [.d .none,.d (c1 (.str [46]))] (.ok (.d (.l [.str [46]]),.u)):=(eT (n:=20) ⋯).u 28;obtain ⟨k,y⟩:∃k,ws.length=k+1:=by clear q t z;induction ws using bO with
  | nil=>exact absurd rfl o
  | cons b r=>exact ⟨_,rfl⟩
 have g:dN true (.int ws.length)=some (.int 0::((dQ 1 k).map λi=>.int i)):=by rw [g8 (ZO q y),y];show some ((fO (k+1)).map _)=_;rw [List.range_succ_eq_map,eZ,List.range'_eq_map_range];simp [JX,pJ]
 have j:∀m,28<=m->exs (b6 fns m) (x1++BG) (jC (hY (cv ws a) (.str [46]) false) a ws [46] false [] (.d (.int 0)) .u)= .err fV:=λm p=>by exact (jH (Ef dC m (c5 p rfl))).trans (Wt (n:=20) bQ (ac 8) .nil ⋯ m (by show 8+20<=m;exact c5 p rfl))
 have w:=QH (K:=28) (x:=10) (f:=jC (hY (cv ws a) (.str [46]) false) a ws [46] false [] .u .u) (f0:=jC (hY (cv ws a) (.str [46]) false) a ws [46] false [] .u .u) (it:=.call 23 [.v 3]) (v:=.d (.int ws.length)) (f1:=jC (hY (cv ws a) (.str [46]) false) a ws [46] false [] (.d (.int 0)) .u) (λm p=>f9 (n:=2) bQ (ac 4).l (.cons (cK q) .nil) ⋯ m (by show 4+2<=m;exact c5 p rfl)) rfl g rfl j;exact gn (n:=12) (cH [(43,um),(49,eC),(23,bR (.d (.int 1))),(63,bR (.d (.l [.str [46]])))]) ((ac 28).aD fV) (.cons t (.cons z (.cons c (.cons s (.cons w .nil))))) ⋯
def eF(c:Bool)(t:D):D:=match t with
 | .str s=>.int s.length
 | _=>if c then .none else .int 2
abbrev ncB:List S:=match Dc with
 | [_,_,_,_,.for _ _ _ b,_,_,_]=>b
 | _=>[]
def nX(rows v:D)(acc:List D)(u:V):Fr:=[.d .none,.d rows,.d .none,.d v,.d .none,.d .none,.d .none,.ol acc,u,.u,.u,.u,.u]
inductive Shq:D->Prop
 | ch (i:D):Shq (.y CH i .none)
 | nm (i:D) (n:Nat):Shq (.y CH i (eY n))
 | nul:Shq (.nul (.str [78,85,76,76]) .none)
 | it (i:D):Shq (.y (.str [105,110,116,101,103,101,114]) i .none)
 | lg (i:D):Shq (.y (.str [108,111,103,105,99,97,108]) i .none)
 | db (i:D):Shq (.y (.str [100,111,117,98,108,101]) i .none)
def WU(v:D):Bool:=match v with
 | .y (.str k) _ (.dct ..)=>hS k dv
 | _=>false
theorem R5:∀κ∈kds,∀i,Shq (.y κ.k i .none):=kb .it .lg .db
theorem Val.bJ(p:Val v ws nd q):Shq v\/(WU v=true/\∃i,v= .y (.str dv) i qO):=by
 induction p with
 | ch=>exact .inl (.ch _)
 | nm=>exact .inl (.nm _ _)
 | nul=>exact .inl .nul
 | ot k=>exact .inl (R5 _ k _)
 | fc=>exact .inr (iT rfl _ rfl)
def Xf(v:D):Prop:=∀(rows:D) (acc:List D),(cN txs λx=>fT (dy bQ (ac 0).l 0) (ac 0).l ncB (nX rows v acc (.d x)) (λc f=>(c,f)=(.next,nX rows v (acc++[eF (!ei v) x]) (.d x))) (λU=>False))=cN txs λx=>cj [hZ .append [eF (!ei v) x] acc=some (.none,acc++[eF (!ei v) x])] ((h4,nX rows v (acc++[eF (!ei v) x]) (.d x))=(h4,nX rows v (acc++[eF (!ei v) x]) (.d x)))
def nO(v:D):D:=.l [.t [.none,v]]
def ncA(v:D):V:=match v with
 | .y _ _ (.dct ks ds)=>.d (.dct ks ds)
 | _=>.d .none
def B9(ys:List D)(v:D):V:=.oi 0 [0,1,2,3,4] [.d (.str dv),.d (.l ys),ncA v,.d (.bool false),.d (.bool false)]
def ncK:List V->Option V
 | [.d (.l [.t [_,v]]),_]=>some (.ol [v,.none,.none,.none])
 | _=>none
theorem Rp(v:D):At 28 43 [.d (nO v),.d (.l [.str [120],.str [116,121,112,101],.str [97,108,108,111,119,78,65],.str [107,101,101,112,78,65]])] (.ok (.ol [v,.none,.none,.none],.u)):=(eT (n:=12) ⋯).u 28
def Opt.aW(o:Opt)(l:List (Nat×V)):Opt:={o with fo:=λxs f=>if xs==[8] then some (.ok (.next,my l f)) else none}
theorem OL(k:Val v ws nd i)(s:Shq v):At 36 85 [.d .none,.d (nO v),.d .none] (.ok (B9 (ws.map (eF (!ei v))) v,.u)):=by
 have r:Xf v:=by clear k;induction s<;>exact λrows acc=>⋯
 have p:bV 28 (.call 63 [.v 0,.v 3]) (nX (nO v) v [] .u) (i,nX (nO v) v [] .u):=by
  have l:AllT [_]:=.cons (kh k) .nil;rcases k.two with rfl | rfl
  .exact λm q=>f9 (cH [(63,bR (.d (.l ws)))]) (ac 20) l ⋯ m (by show 20+1<=m;exact c5 q rfl)
  exact λm q=>f9 (cH [(63,bR (.ol ws))]) (ac 20) l ⋯ m (by show 20+1<=m;exact c5 q rfl)
 obtain ⟨u,U,y⟩:=oE (x:=8) (rg:=false) (g:=eF (!ei v)) (nX (nO v) v) 3 k.len dC (λacc u d j=>by induction u using bS<;>first | rfl | exact absurd rfl (j _)) p k.frz.1 (j9 k.len) λacc d z w m q=>nv (n:=0) bQ (ac 0).l (λx=>nX (nO v) v acc (.d x)) _ (λx=>.cons (fL (d:=eF (!ei v) x) z) .nil) (r (nO v) acc) d (k.tx d w) m (dR m);have lg:(ws.map (eF (!ei v))).length<=3:=fK k.len;have x:=k.need (.str [120]);have t:=Rp v;clear p r k;generalize ws.map (eF (!ei v))=ys at y lg ⊢;have l:AllT [_,_,_,_]:=.cons t (.cons x (.cons y (.cons (eB lg) .nil)));exact ct (n:=8) (cH [(43,ncK),(49,eC)]) ((ac 28).aW [(7,.ol ys),(8,u)]).l l (by clear l;clear x t y;induction s<;>kernel_rfl)
def AP:Tx:=As
theorem ML(i:D):At 36 85 [.d .none,.d (nO (.y (.str dv) i qO)),.d .none] (.err AP):=gn (n:=36) bQ (ac 0) .nil ⋯
theorem Ua{J:Type}{K:Nat}{x:Nat}{v:V}{p:D}{rg:Bool}{g:D->D}{bad:D->Bool}(F:List D->J->Fr)(P:J->Prop)(N:Nat){ds:List D}(A:ds.length<=N)(j0:J)(c:P j0)(t:bV K it f (v,F [] j0))(a:frz v=some p)(G:dN rg p=some ds) (hs:∀acc j d,P j->acc.length< N->d∈ds->bad d=false->∃o f1,P o/\cE (F acc j) [x] d=some f1/\∀m,K<=m->exs (b6 fns m) b f1= .ok (.next,F (acc++[g d]) o)) (s:∀acc j d,P j->acc.length< N->d∈ds->bad d=true->∃f1,cE (F acc j) [x] d=some f1/\∀m,K<=m->exs (b6 fns m) b f1= .err msg) (h:ds.any bad=true):mB K (.for [x] rg it b) f (.err msg):=by
 have l:∀(es:List D) (acc:List D) j,P j->acc.length+es.length<=N->(∀d∈es,d∈ds)->es.any bad=true->∀m,K<=m->fm (λd f=>(cg (cE f [x] d)).bind λf=>exs (b6 fns m) b f) es (F acc j)= .err msg:=by
  intro es;induction es with
  | nil=>exact λU U U U U h=>absurd h gG
  | cons d es ih=>
   intro acc j i hn r k m z;have e:acc.length< N:=by simp at hn;exact AT hn
   induction q:bad d with
   | true=>refine a5 (s acc j d i e (r d (.head _)) q) λf1 u w=>?_;show bt (bt (cg (cE (F acc j) [x] d)) λf=>exs (b6 fns m) b f) _=_;rw [u];show bt (exs (b6 fns m) b f1) _=_;rw [w m z];rfl
   | false=>refine c0 (hs acc j d i e (r d (.head _)) q) λj1 f1 n u w=>?_;show bt (bt (cg (cE (F acc j) [x] d)) λf=>exs (b6 fns m) b f) _=_;rw [u];show bt (exs (b6 fns m) b f1) _=_;rw [w m z];exact ih (acc++[g d]) j1 n (by simp at hn ⊢;exact AS hn) (λy hy=>r y (.tail _ hy)) (by rw [C7,q] at k;exact k) m z
 intro m z;show bt (ev (b6 fns m) it f) _=_;rw [t m z];show bt (match frz v with | some d=>dS (d,F [] j0) | none=>.x) _=_;rw [a];show bt (cg (dN rg p)) _=_;rw [G];exact l ds [] j0 c (by simpa using A) (λd h=>h) h m z
theorem O5{u:Type}{n:Nat}(o:eQ)(k:Opt){l:List u}(F:u->Fr)(h:(cN l λx=>fT (dy o k n) k p (F x) (λU U=>False) (λm=>m=msg))=cN l λx=>(msg=msg)):∀x∈l,∀m,k.K+n<=m->exs (b6 fns m) p (F x)= .err msg:=λx w m z=>by
 have h:=vD (a7 m (wC z) rfl) (oG o k n m (wD z)) p (kg (h.symm▸ki (λU U=>rfl):cN l λx=>fT (dy o k n) k p (F x) (λU U=>False) (λm=>m=msg)) x w);generalize exs (b6 fns m) p (F x)=y at h ⊢;induction y with
 | err q=>exact congrArg _ h
 | _=>exact h.elim
theorem eJ(h:exs G a f= .ok (.next,f1)):exs G (a++b) f=exs G b f1:=by
 induction a generalizing f with
 | nil=>cases h;rfl
 | cons s a y=>
  have k:exs G (s::a) f=(ex G s f).bind λr=>match r.1 with
   | .next=>exs G a r.2
   | c=>.ok (c,r.2):=rfl
  have p:exs G (s::(a++b)) f=(ex G s f).bind λr=>match r.1 with
   | .next=>exs G (a++b) r.2
   | c=>.ok (c,r.2):=rfl
  rw [k] at h;rw [J3,p];induction q:ex G s f with
  | ok r=>
   rw [q] at h;obtain ⟨c,g⟩:=r;clear q;induction c with
   | next=>exact y h
   | _=>cases h
  | _=>rw [q] at h;injection h
def ct5:List D:=[.int 0,.int 1,.int 2,.none,.int (-1)]
def tI(t c:D):Bool:=match t,c with
 | .str _,.int n=>decide (n< 0)
 | _,_=>false
abbrev wZ:List S:=match v8 with
 | [_,_,_,_,_,.for _ _ _ (a::b::_),_,_,_,_]=>[a,b]
 | _=>[]
abbrev uj:List S:=match v8 with
 | [_,_,_,_,_,.for _ _ _ (_::_::b),_,_,_,_]=>b
 | _=>[]
abbrev BD:E:=match v8 with
 | [_,_,_,_,_,.for _ _ e _,_,_,_,_]=>e
 | _=>.bad
def ci(Y:List D):D:=.y (.str dv) (.l Y) .none
def gh(rows v:D)(ws Y acc:List D)(u y z:V):Fr:=[.d .none,.d rows,.d .none,.d v,.d (ci Y),.d (.l ws),.d (.l Y),.ol acc,u,y,z,.u,.u]
def rpP:List (D×D):=txs.flatMap λt=>ct5.map λc=>(t,c)
def mL:Opt:={(ac 0) with lm:=(ac 0).l.lm}
def ro:List (D×D):=rpP.filter λp=>!tI p.1 p.2
def rn:List (D×D):=rpP.filter λp=>tI p.1 p.2
theorem a0L(rows v:D)(ws Y acc:List D)(u:V):(cN ro λp=>fT (dy bQ mL 4) mL uj (gh rows v ws Y acc u (.d p.1) (.d p.2)) (λc f=>(c,f)=(.next,gh rows v ws Y (acc++[jx p.1 p.2]) u (.d p.1) (.d p.2))) (λU=>False))=cN ro λp=>cj [hZ .append [jx p.1 p.2] acc=some (.none,acc++[jx p.1 p.2])] ((h4,gh rows v ws Y (acc++[jx p.1 p.2]) u (.d p.1) (.d p.2))=(h4,gh rows v ws Y (acc++[jx p.1 p.2]) u (.d p.1) (.d p.2))):=⋯
def iA:Tx:=zH
theorem Vn(rows v:D)(ws Y acc:List D)(u:V):(cN rn λp=>fT (dy bQ (ac 0) 4) (ac 0) uj (gh rows v ws Y acc u (.d p.1) (.d p.2)) (λU U=>False) (λm=>m=iA))=cN rn λp=>(iA=iA):=⋯
theorem E9{i:Int}(p:nk y)(q:nk z)(O:ws.length<=4)(Q:Y.length<=4)(I:ws≠[])(M:Y≠[]):∀m,4<=m->exs (b6 fns m) wZ (gh rows v ws Y acc (.d (.int i)) y z)= .ok (.next,gh rows v ws Y acc (.d (.int i)) (.d (cC ws (i.fmod ws.length))) (.d (cC Y (i.fmod Y.length)))):=by
 have l:AllT [_,_,_,_,_,_]:=.cons (cK O) (.cons (iM i I) (.cons (iL i I O) (.cons (cK Q) (.cons (iM i M) (.cons (iL i M Q) .nil)))));induction y using bS with
 | k y=>exact absurd rfl (p y)
 | _=>induction z using bS with
  | k z=>exact absurd rfl (q z)
  | _=>exact bT (n:=0) bQ (ac 4).aK.l l ⋯
def wF(ws Y:List D):D->D
 | .int i=>jx (cC ws (i.fmod ws.length)) (cC Y (i.fmod Y.length))
 | _=>.none
def qN(ws Y:List D):D->Bool
 | .int i=>tI (cC ws (i.fmod ws.length)) (cC Y (i.fmod Y.length))
 | _=>false
def jw(ws Y:List D):List D:=(cT (fq ws Y)).map (wF ws Y)
def kC(ws Y:List D):Bool:=(cT (fq ws Y)).any (qN ws Y)
theorem EU(k:t∈txs)(H:c∈ct5)(h:tI t c=false):(t,c)∈ro:=mY.mpr ⟨kG k H,by rw [h];rfl⟩
theorem ET(k:t∈txs)(H:c∈ct5)(h:tI t c=true):(t,c)∈rn:=mY.mpr ⟨kG k H,h⟩
section
variable {rows v:D}{ws Y:List D}(C:∀w∈ws,w∈txs)(H:∀c∈Y,c∈ct5)(O:ws.length<=4)(Q:Y.length<=4)(I:ws≠[])(M:Y≠[])
include O Q in
theorem GN:bV 6 BD (gh rows v ws Y [] .u .u .u) (.d (.int (fq ws Y)),gh rows v ws Y [] .u .u .u):=f9 (n:=2) bQ (ac 4).l (.cons (cK O) (.cons (cK Q) .nil)) ⋯
include C H I M O Q in
theorem F7(j:nk u)(f:nk y)(g:nk z)(q:acc.length< 4)(r:d∈cT (fq ws Y))(l:qN ws Y d=false):∃(k:V×V×V) (f1:Fr),(nk k.1/\nk k.2.1/\nk k.2.2)/\cE (gh rows v ws Y acc u y z) [8] d=some f1/\∀m,6<=m->exs (b6 fns m) (wZ++uj) f1= .ok (.next,gh rows v ws Y (acc++[wF ws Y d]) k.1 k.2.1 k.2.2):=by refine ck (ij r) λi o e c=>?_;clear r;subst o;refine (d6 (.d (.int i),.d (cC ws (i.fmod ws.length)),.d (cC Y (i.fmod Y.length))) (gh rows v ws Y acc (.d (.int i)) y z) ⟨dH,dH,dH⟩ (by induction u using bS<;>first | rfl | exact absurd rfl (j _)) (λm t=>(eJ (E9 f g O Q I M m (c5 t rfl))).trans ?_));have w:=EU (C _ (fJ i I)) (H _ (fJ i M)) l;exact nv bQ mL (λp:D×D=>gh rows v ws Y acc (.d (.int i)) (.d p.1) (.d p.2)) _ (λp=>.cons (fL q) .nil) (a0L rows v ws Y acc (.d (.int i))) (cC ws (i.fmod ws.length),cC Y (i.fmod Y.length)) w m (by exact c5 t rfl)
include C H I M O Q in
theorem F8(h:kC ws Y=false):∃j:V×V×V,de 6 (.for [8] true BD (wZ++uj)) (gh rows v ws Y [] .u .u .u) (gh rows v ws Y (jw ws Y) j.1 j.2.1 j.2.2):=by
 refine xA (qk O Q) λm1 m2=>?_;obtain ⟨j,U,z⟩:=ml (λacc j=>gh rows v ws Y acc j.1 j.2.1 j.2.2) (λj=>nk j.1/\nk j.2.1/\nk j.2.2) 4 (gc m2) (.u,.u,.u) ⟨dC,dC,dC⟩ (GN O Q) rfl (g8 m1) λacc j d p k y=>F7 C H O Q I M p.1 p.2.1 p.2.2 k y (by
  induction q:qN ws Y d with
  | false=>rfl
  | true=>rw [show kC ws Y=true from jY.mpr (a7 d y q)] at h;injection h)
 exact ⟨j,z⟩
include C H I M O Q in
theorem Pf(h:kC ws Y=true):mB 6 (.for [8] true BD (wZ++uj)) (gh rows v ws Y [] .u .u .u) (.err iA):=by refine xA (qk O Q) λm1 m2=>Ua (λacc j=>gh rows v ws Y acc j.1 j.2.1 j.2.2) (λj=>nk j.1/\nk j.2.1/\nk j.2.2) 4 (gc m2) (.u,.u,.u) ⟨dC,dC,dC⟩ (GN O Q) rfl (g8 m1) (λacc j d k q w r=>F7 C H O Q I M k.1 k.2.1 k.2.2 q w r) (λacc j d k q w r=>ck (ij w) λi f g o=>?_) h;clear w;subst f;obtain ⟨u,y,z⟩:=j;refine (a7 (gh rows v ws Y acc (.d (.int i)) y z) (by induction u using bS<;>first | rfl | exact absurd rfl (k.1 _)) (λm l=>(eJ (E9 k.2.1 k.2.2 O Q I M m (c5 l rfl))).trans ?_));have t:=ET (C _ (fJ i I)) (H _ (fJ i M)) r;exact O5 bQ (ac 0) (λp:D×D=>gh rows v ws Y acc (.d (.int i)) (.d p.1) (.d p.2)) (Vn rows v ws Y acc (.d (.int i))) (cC ws (i.fmod ws.length),cC Y (i.fmod Y.length)) t m (by exact c5 l rfl)
end
def pu:List V->Option V
 | [.d (.l [.t [_,v],.t [_,a]]),_]=>some (.ol [v,a])
 | _=>none
theorem vp(v:D)(Y:List D):At 28 43 [.d (hW v (ci Y)),.d (.l [.str [120],.str oO])] (.ok (.ol [v,ci Y],.u)):=(eT (n:=12) ⋯).u 28
section
variable {v:D}{ws:List D}{nd:D}{B:V}{Y:List D}
theorem Sc(k:Val v [] nd B)(Q:Y.length<=3):At 36 86 [.d .none,.d (hW v (ci Y)),.d .none] (.ok (cP CH [],.u)):=by
 have l:AllT [_,_,_,_,_,_,_,_]:=.cons (vp v Y) (.cons (k.need (.str [120])) (.cons ((kh k).u 28) (.cons ((g9 (v:=ci Y) (nm:=(.str oO)) rfl).u 28) (.cons (eB Q) (.cons (cK (xs:=[]) (fj _)) (.cons (show cZ .eq (.int ([]:List D).length) (.int 0)=some true from rfl) (.cons (eB (xs:=[]) (n:=0) (fj _)) .nil)))))));rcases k.two with rfl | rfl
 .exact ct (n:=8) (cH [(43,pu),(49,eC),(63,bR (.d (.l [])))]) ((ac 28).l.ar true) l ⋯
 exact ct (n:=8) (cH [(43,pu),(49,eC),(63,bR (.ol []))]) ((ac 28).l.ar true) l ⋯
theorem Sa(k:Val v ws nd B)(I:ws≠[])(H:∀c∈Y,c∈ct5)(Q:Y.length<=3)(M:Y≠[])(h:kC ws Y=true):At 36 86 [.d .none,.d (hW v (ci Y)),.d .none] (.err iA):=by
 have O:=k.len;have p:mB 28 _ _ _:=λm q=>Pf (rows:=hW v (ci Y)) (v:=v) k.tx H (dX O) (dX Q) I M h m (c5 q rfl);have l:AllT [_,_,_,_,_,_,_,_,_,_]:=.cons (vp v Y) (.cons (k.need (.str [120])) (.cons ((kh k).u 28) (.cons ((g9 (v:=ci Y) (nm:=(.str oO)) rfl).u 28) (.cons (eB Q) (.cons (cK O) (.cons (lA I) (.cons (cK Q) (.cons (lA M) (.cons p .nil)))))))));rcases k.two with rfl | rfl
 .exact gn (n:=8) (cH [(43,pu),(49,eC),(63,bR (.d (.l ws)))]) (((ac 28).aD iA).l.ar false) l ⋯
 exact gn (n:=8) (cH [(43,pu),(49,eC),(63,bR (.ol ws))]) (((ac 28).aD iA).l.ar false) l ⋯
inductive Shn:D->Prop
 | ch (i:D):Shn (.y CH i .none)
 | nul:Shn (.nul (.str [78,85,76,76]) .none)
 | it (i:D):Shn (.y (.str [105,110,116,101,103,101,114]) i .none)
 | lg (i:D):Shn (.y (.str [108,111,103,105,99,97,108]) i .none)
 | db (i:D):Shn (.y (.str [100,111,117,98,108,101]) i .none)
 | fc (i:D):Shn (.y (.str [105,110,116,101,103,101,114]) i qO)
theorem Val.bI(q:Val v ws nd B):Shn v\/(v= .y CH (.l ws) (eY ws.length)/\B= .d (.l ws)):=by
 induction q with
 | ch=>exact .inl (.ch _)
 | nm=>exact .inr ⟨rfl,rfl⟩
 | nul=>exact .inl .nul
 | ot p=>exact .inl (kb (P:=λκ=>∀i,Shn (.y κ.k i .none)) .it .lg .db _ p _)
 | fc=>exact .inl (.fc _)
theorem Vj(p:Val v ws nd B)(s:Shn v)(I:ws≠[])(H:∀c∈Y,c∈ct5)(Q:Y.length<=3)(M:Y≠[])(h:kC ws Y=false):At 36 86 [.d .none,.d (hW v (ci Y)),.d .none] (.ok (cP CH (jw ws Y),.u)):=by
 have O:=p.len;refine xE (F8 (rows:=hW v (ci Y)) (v:=v) p.tx H (dX O) (dX Q) I M h) λw k=>?_;obtain ⟨u,y,z⟩:=w;have k:de 28 _ _ _:=λm q=>k m (c5 q rfl);have lg:(jw ws Y).length<=3:=fK (gc (qk O Q).2);have l:AllT [_,_,_,_,_,_,_,_,_,_,_]:=.cons (vp v Y) (.cons (p.need (.str [120])) (.cons ((kh p).u 28) (.cons ((g9 (v:=ci Y) (nm:=(.str oO)) rfl).u 28) (.cons (eB Q) (.cons (cK O) (.cons (lA I) (.cons (cK Q) (.cons (lA M) (.cons k (.cons (eB lg) .nil))))))))));have t:=p.two;clear p k;generalize jw ws Y=ys at l ⊢;rcases t with rfl | rfl
 .exact ct (n:=8) (cH [(43,pu),(49,eC),(63,bR (.d (.l ws)))]) (((ac 28).loop [(7,.ol ys),(8,u),(9,y),(10,z)]).l.ar false) l (by clear l;clear k;induction s<;>kernel_rfl)
 exact ct (n:=8) (cH [(43,pu),(49,eC),(63,bR (.ol ws))]) (((ac 28).loop [(7,.ol ys),(8,u),(9,y),(10,z)]).l.ar false) l (by clear l;clear k;induction s<;>kernel_rfl)
def u7(ys:List D)(n:Nat):V:=if ys.length==n then .oi 0 [0,1,2,3,4] [.d CH,.d (.l ys),.od [ku] [.y CH (.l (gg n)) .none],.d (.bool false),.d (.bool false)] else cP CH ys
@[elab_as_elim] theorem Ih{k:Type}{P:List k->Prop}(l:List k)(n:l≠[])(h:l.length<=3)(c1:∀a,P [a])(p:∀a b,P [a,b])(q:∀a b c,P [a,b,c]):P l:=by
 rcases l with U | ⟨a,U | ⟨b,U | ⟨c,U | ⟨d,l⟩⟩⟩⟩
 .exact absurd rfl n
 .exact c1 a
 .exact p a b
 .exact q a b c
 exact absurd h (by simp)
abbrev mO(ws:List D):=cH [(43,pu),(49,eC),(63,bR (.d (.l ws)))]
abbrev mP(ws Y:List D)(u y z:V):=(ac 28).loop [(7,.ol (jw ws Y)),(8,u),(9,y),(10,z)]
theorem Vi(q:Val (.y CH (.l ws) (eY ws.length)) ws nd (.d (.l ws)))(I:ws≠[])(H:∀c∈Y,c∈ct5)(Q:Y.length<=3)(M:Y≠[])(h:kC ws Y=false):At 36 86 [.d .none,.d (hW (.y CH (.l ws) (eY ws.length)) (ci Y)),.d .none] (.ok (u7 (jw ws Y) ws.length,.u)):=by
 have O:=q.len;refine xE (F8 (rows:=hW (.y CH (.l ws) (eY ws.length)) (ci Y)) (v:=.y CH (.l ws) (eY ws.length)) q.tx H (dX O) (dX Q) I M h) λj w=>?_;obtain ⟨u,y,z⟩:=j;have w:de 28 _ _ _:=λm t=>w m (c5 t rfl);have l:AllT [_,_,_,_,_]:=.cons (vp (.y CH (.l ws) (eY ws.length)) Y) (.cons (q.need (.str [120])) (.cons ((kh q).u 28) (.cons ((g9 (v:=ci Y) (nm:=(.str oO)) rfl).u 28) (.cons w .nil))));clear q w h H;revert l;refine Ih ws I O (λa=>?_) (λa b=>?_) (λa b c=>?_)<;>refine Ih Y M Q (λk=>?_) (λk p=>?_) (λk p r=>?_)<;>intro l
 .exact ct (n:=8) (mO [a]) (mP [a] [k] u y z) l ⋯
 .exact ct (n:=8) (mO [a]) (mP [a] [k,p] u y z) l ⋯
 .exact ct (n:=8) (mO [a]) (mP [a] [k,p,r] u y z) l ⋯
 .exact ct (n:=8) (mO [a,b]) (mP [a,b] [k] u y z) l ⋯
 .exact ct (n:=8) (mO [a,b]) (mP [a,b] [k,p] u y z) l ⋯
 .exact ct (n:=8) (mO [a,b]) (mP [a,b] [k,p,r] u y z) l ⋯
 .exact ct (n:=8) (mO [a,b,c]) (mP [a,b,c] [k] u y z) l ⋯
 .exact ct (n:=8) (mO [a,b,c]) (mP [a,b,c] [k,p] u y z) l ⋯
 exact ct (n:=8) (mO [a,b,c]) (mP [a,b,c] [k,p,r] u y z) l ⋯
end
theorem Ww{A J:Type}{K:Nat}{xs:List Nat}{b:List S}{it:E}{f:Fr}{v:V}{p:D}{rg:Bool}(F:A->J->Fr)(g:A->D->A)(P:A->J->Prop){ds:List D}{a0:A}{j0:J}(e:P a0 j0)(u:bV K it f (v,F a0 j0))(s:frz v=some p)(n:dN rg p=some ds) (hs:∀a j d,P a j->d∈ds->∃k f1,P (g a d) k/\cE (F a j) xs d=some f1/\∀m,K<=m->exs (b6 fns m) b f1= .ok (.next,F (g a d) k)):∃j,P (ds.foldl g a0) j/\de K (.for xs rg it b) f (F (ds.foldl g a0) j):=by
 have r:∀(es:List D) (a:A) (j:J),P a j->(∀d∈es,d∈ds)->∃k,P (es.foldl g a) k/\∀m,K<=m->fm (λd f=>(cg (cE f xs d)).bind λf=>exs (b6 fns m) b f) es (F a j)= .ok (.next,F (es.foldl g a) k):=by
  intro es;induction es with
  | nil=>exact λa j z U=>(a7 j z (λm q=>rfl))
  | cons d es Y=>refine λa j z t=>c0 (hs a j d z (t d (.head _))) λM f1 c l i=>a5 (Y (g a d) M c λy Q=>t y (.tail _ Q)) λk w o=>(a7 k w (λm q=>?_));show bt (bt (cg (cE (F a j) xs d)) λf=>exs (b6 fns m) b f) _=_;rw [l];show bt (exs (b6 fns m) b f1) _=_;rw [i m q];exact o m q
 refine a5 (r ds a0 j0 e λd h=>h) λj z h=>(a7 j z (λm q=>?_));show bt (ev (b6 fns m) it f) _=_;rw [u m q];show bt (match frz v with | some d=>dS (d,F a0 j0) | none=>.x) _=_;rw [s];show bt (cg (dN rg p)) _=_;rw [n];exact h m q
abbrev Rows:=List (List D)
def f8(R:Rows):D:=.l (R.map .l)
def iy(R:Rows):Prop:=R.length<=4/\∀r∈R,r.length<=3/\∀t∈r,t= .none\/∃s:Tx,t= .str s/\s.length<=8
def wx(m:Int):D->Int
 | .l r=>if (r.length:Int)> m then r.length else m
 | _=>m
def eX(R:Rows):Int:=(R.map dq).foldl wx 0
def mx:D->D
 | .none=>(.str [78,65])
 | t=>t
def piece(p:Int):D->D
 | .l r=>if r.isEmpty then .str [] else mx (cC r (p.fmod r.length))
 | _=>.none
def kN:D->Tx
 | .str s=>s
 | _=>[]
def jn(sep:Tx)(l:List D):Tx:=im sep (l.map kN)
def nE(sep:Tx)(R:Rows):D->D
 | .int p=>.str (jn sep ((R.map dq).map (piece p)))
 | _=>.none
def eU(sep:Tx)(R:Rows):List D:=(cT (eX R)).map (nE sep R)
theorem qc{R:Rows}(h:d∈R.map dq):∃r,d= .l r/\r∈R:=by refine a5 (cM.mp h) λr k p=>?_;clear h;subst p;exact (a7 r rfl k)
theorem vK{R:Rows}(h:∀r∈R,r.length<=3):0<=eX R/\eX R<=3:=by
 have:∀(l:List D) (m:Int),0<=m->m<=3->(∀d∈l,∃r:List D,d= .l r/\r.length<=3)->0<=l.foldl wx m/\l.foldl wx m<=3:=by
  intro l;induction l with
  | nil=>exact λm p q U=>⟨p,q⟩
  | cons d l w=>
   refine λm p q k=>a5 (k d (.head _)) λr u z=>?_;subst u;refine w _ ?_ ?_ λy v=>k y (.tail _ v)
   .show 0<=if r.length> m then (r.length:Int) else m;split<;>first | exact p | exact Ck _
   show (if r.length> m then (r.length:Int) else m)<=3;split<;>first | exact q | exact ni.mpr z
 exact this _ 0 ∅ ∅ λd k=>by refine a5 (qc k) λr u z=>?_;clear k;subst u;exact (a7 r rfl (h r z))
def mK(n:Nat)(l:List D):Prop:=∀t∈l,∃s:Tx,t= .str s/\s.length<=n
theorem Fd:∀{l:List D} {n:Nat},mK n l->mz l=some (l.map kN)
 | [],_,_=>rfl
 | t::l,n,h=>by refine a5 (h _ (.head _)) λs p U=>?_;subst p;show (mz l).map (s:: ·)=_;rw [Fd λt k=>h t (.tail _ k)];rfl
theorem MK{sep:Tx}{n k:Nat}(hs:sep.length<=k):∀(l:List Tx) (m:Nat),(∀s∈l,s.length<=n)->l.foldl (λn x=>n+x.length+sep.length) m<=m+l.length*(n+k):=by
 intro l;induction l with
 | nil=>exact λm U=>by simp
 | cons x l p=>intro m h;have q:=h x (.head _);have p:=p (m+x.length+sep.length) λs m=>h s (.tail _ m);rw [n7,jE];refine cW p ?_;rw [Nat.add_mul];exact ZP hs q
theorem ER(hs:sep.length<=k)(h:mK n l)(p:l.length<=m)(z:m*(n+k)<=df:=by decide):uk .join (.str sep) [.l l]=some (.d (.str (jn sep l))):=by
 show (mz l).bind (λl=>cG (cL (nz sep l)) (some (eA (.str (im sep l)))))=_;rw [Fd h];show cG (cL (nz sep (l.map kN))) _=_;have:nz sep (l.map kN)<=df:=by
  have:=MK hs (l.map kN) 0 (λs hs=>by refine a5 (cM.mp hs) λt y q=>?_;subst q;refine a5 (h t y) λs q p=>?_;clear y hs;subst q;exact p)
  unfold nz;rw [cR,iH] at this;exact cW this (cW (Je _ p) z)
 rw [show cL (nz sep (l.map kN))=true from decide_eq_true this];rfl
theorem yx{R:Rows}(h:iy R)(p:Int):mK 8 ((R.map dq).map (piece p)):=λt z=>by
 refine a5 (cM.mp z) λd y k=>?_;subst k;refine a5 (qc y) λr k u=>?_;clear y z;subst k;show ∃s:Tx,(if r.isEmpty then iJ [] else mx (cC r (p.fmod r.length)))= .str s/\_;induction q:r.isEmpty with
 | true=>exact (a7 [] rfl ∅)
 | false=>
  have v:r≠[]:=λe=>by rw [e] at q;injection q
  rcases (h.2 r u).2 _ (fJ p v) with e | ⟨s,e,hs⟩
  .rw [e];exact (a7 _ rfl ∅)
  rw [e];exact (a7 s rfl hs)
abbrev Ie:List S:=match xY with
 | [_,.for _ _ _ b,_,_,_]=>b
 | _=>[]
abbrev BC:List S:=match xY with
 | [_,_,_,.for _ _ _ b,_]=>b
 | _=>[]
abbrev Ig:List S:=match BC with
 | [_,.for _ _ _ b,_]=>b
 | _=>[]
def iz(R:Rows)(sep:Tx)(c:Int)(z:V)(k:V)(q p y:V):Fr:=[.d (f8 R),.d (.str sep),.d (.int c),z,k,q,p,y]
theorem P8{R:Rows}(h:iy R)(sep:Tx):∃j,nk j/\de 0 (.for [3] false (.v 0) Ie) (iz R sep 0 .u .u .u .u .u) (iz R sep (eX R) j .u .u .u .u):=by
 obtain ⟨j,k,q⟩:=Ww (xs:=[3]) (b:=Ie) (it:=.v 0) (f:=iz R sep 0 .u .u .u .u .u) (λ(c:Int) (j:V)=>iz R sep c j .u .u .u .u) wx (λU j=>nk j) dC (λm U=>rfl) rfl (j9 (fK h.1)) λa j d k p=>by refine a5 (qc p) λr w z=>?_;clear p;subst w;exact (d6 (.d (.l r)) (iz R sep a (.d (.l r)) .u .u .u .u) dH (by induction j using bS<;>first | rfl | exact absurd rfl (k _)) (λm y=>bT (n:=0) bQ (ac 0).l (.cons (cK (h.2 r z).1) .nil) ⋯ m y))
 exact (a7 j k q)
def Opt.bz(o:Opt)(t:D):Opt:={o with sb:=λU U=>some t,bn:=o.aK.bn}
theorem Vc{R:Rows}(y:r.length<=3/\∀t∈r,t= .none\/∃s:Tx,t= .str s/\s.length<=8)(sep:Tx)(c p:Int)(k:V){acc:List D}(j:acc.length< 4){x:V}(v:nk x):∃i,nk i/\∀m,0<=m->exs (b6 fns m) Ig (iz R sep c (.d (.l r)) k (.d (.int p)) (.ol acc) x)= .ok (.next,iz R sep c (.d (.l r)) k (.d (.int p)) (.ol (acc++[piece p (.l r)])) i):=by
 induction q:r.isEmpty with
 | true=>clear y;obtain rfl:=lP.mp q;exact (a7 x v (bT (n:=0) bQ ((ac 0).l.ar true) (.cons (cK (xs:=[]) (fj _)) (.cons (show cZ .eq (.int ([]:List D).length) (.int 0)=some true from rfl) (.cons (fL (d:=.str []) j) .nil))) ⋯))
 | false=>
  have u:r≠[]:=λe=>by rw [e] at q;injection q
  have w:=iL p u y.1;have e:piece p (.l r)=mx (cC r (p.fmod r.length)):=by show (if r.isEmpty then _ else _)=_;rw [q];rfl
  rw [e];have z:=y.2 _ (fJ p u);generalize cC r (p.fmod r.length)=t at w z ⊢;refine (a7 (.d t) dH ?_);have l:AllT [_,_,_,_,_,_]:=.cons (cK y.1) (.cons (lA u) (.cons (cK y.1) (.cons (iM p u) (.cons w (.cons (fL (d:=mx t) j) .nil)))));rcases z with rfl | ⟨s,rfl,U⟩
  .exact bT (n:=0) bQ (((ac 0).l.ar false).bz .none) l (by induction x using bS<;>first | exact absurd rfl (v _) | kernel_rfl)
  exact bT (n:=0) bQ (((ac 0).l.ar false).bz (.str s)) l (by induction x using bS<;>first | exact absurd rfl (v _) | kernel_rfl)
theorem P9{R:Rows}(h:iy R)(sep:Tx)(c p:Int)(k:V)(q:nk z)(o:nk x):∃j:V×V,(nk j.1/\nk j.2)/\de 0 (.for [3] false (.v 0) Ig) (iz R sep c z k (.d (.int p)) (.ol []) x) (iz R sep c j.1 k (.d (.int p)) (.ol ((R.map dq).map (piece p))) j.2):=ml (λacc j=>iz R sep c j.1 k (.d (.int p)) (.ol acc) j.2) (λj=>nk j.1/\nk j.2) 4 (fK h.1) (z,x) ⟨q,o⟩ (λm U=>rfl) rfl (j9 (fK h.1)) λacc j d i f t=>by refine a5 (qc t) λr s g=>?_;clear t;subst s;refine a5 (Vc (R:=R) (h.2 r g) sep c p k f i.2) λn w e=>?_;obtain ⟨u,y⟩:=j;exact (d6 (.d (.l r),n) (iz R sep c (.d (.l r)) k (.d (.int p)) (.ol acc) y) ⟨dH,w⟩ (by clear e;induction u using bS<;>first | rfl | exact absurd rfl (i.1 _)) e)
def Opt.join(o:Opt)(sep:Tx):Opt:={o with sm:=λU U r=>match r with
 | [.l l]=>some (.d (.str (jn sep l)))
 | _=>none}
theorem Pa(h:iy R)(hs:sep.length<=4)(g:nk p):∃j:V×V×V×V,de 0 (.for [5] true (.v 2) BC) (iz R sep (eX R) p (.ol []) .u .u .u) (iz R sep (eX R) j.1 (.ol (eU sep R)) j.2.1 j.2.2.1 j.2.2.2):=by
 refine xA (vK λr g=>(h.2 r g).1) λc1 e=>?_;obtain ⟨j,U,Y⟩:=ml (b:=BC) (x:=5) (it:=.v 2) (f:=iz R sep (eX R) p (.ol []) .u .u .u) (λacc (j:V×V×V×V)=>iz R sep (eX R) j.1 (.ol acc) j.2.1 j.2.2.1 j.2.2.2) (λj=>nk j.1/\nk j.2.1/\nk j.2.2.1/\nk j.2.2.2) 3 (gc (AV c1 e)) (p,.u,.u,.u) ⟨g,dC,dC,dC⟩ (λm U=>rfl) rfl (g8 (k:=3) (tX c1 e)) λacc j d w M c=>by refine ck (ij c) λi o I G=>?_;clear c;subst o;obtain ⟨u,y,z,x⟩:=j;refine a5 (P9 h sep (eX R) i (.ol acc) w.1 w.2.2.2) λo q t=>?_;obtain ⟨s,Q⟩:=o;refine (d6 (s,.d (.int i),.d (.l ((R.map dq).map (piece i))),Q) (iz R sep (eX R) u (.ol acc) (.d (.int i)) z x) ⟨q.1,dH,dH,q.2⟩ (by clear t;induction y using bS<;>first | rfl | exact absurd rfl (w.2.1 _)) ?_);have N:=ER hs (yx h i) (fK (f:=piece i) (fK (f:=dq) h.1));have l:AllT [_,_,_]:=.cons t (.cons N (.cons (fL (d:=nE sep R (.int i)) M) .nil));exact bT (n:=0) bQ (((ac 0).loop [(3,s),(6,.ol ((R.map dq).map (piece i))),(7,Q)]).l.join sep) l (by clear t l;induction z using bS<;>first | exact absurd rfl (w.2.2.1 _) | kernel_rfl)
 exact ⟨j,Y⟩
theorem paste_texts(h:iy R)(hs:sep.length<=4):At 1 51 [.d (f8 R),.d (.str sep)] (.ok (.ol (eU sep R),.u)):=by exact a5 (P8 h sep) λu q k=>xE (Pa h hs q) λj p=>ct (n:=1) bQ {(ac 0) with fo:=λxs f=>if xs==[3] then some (.ok (.next,my [(2,.d (.int (eX R))),(3,u)] f)) else some (.ok (.next,my [(3,j.1),(4,.ol (eU sep R)),(5,j.2.1),(6,j.2.2.1),(7,j.2.2.2)] f))} (.cons k (.cons p .nil)) ⋯
def dE(sep:Tx)(R:Rows):D->List D
 | .str e=>[.str (jn e (eU sep R))]
 | _=>eU sep R
theorem si(h:iy R)(hs:sep.length<=4):mK 48 (eU sep R)/\(eU sep R).length<=3:=by
 refine xA (vK λr j=>(h.2 r j).1) λc1 w=>⟨λt q=>a5 (cM.mp q) λd u k=>?_,fK (gc (AV c1 w))⟩;subst k;refine a5 (ij u) λi k U=>?_;clear u q;subst k;refine (a7 _ rfl ?_);have e:∀(l:List Tx),(∀s∈l,s.length<=8)->(im sep l).length<=l.length*12:=by
  intro l;induction l with
  | nil=>exact λU=>dR _
  | cons x l f=>
   intro z;have v:=z x (.head _);induction l using bO with
   | nil=>exact dh v rfl
   | cons y r=>have:=f λs m=>z s (.tail _ m);show (x++sep++im sep (y::r)).length<=_;rw [ey,ey];simp only [jE] at this ⊢;exact ZQ hs v this
 have p:=yx h i;have:=e (((R.map dq).map (piece i)).map kN) λs hs=>by refine a5 (cM.mp hs) λt q k=>?_;subst k;refine a5 (p t q) λs k z=>?_;clear q hs;subst k;exact z
 simp only [cR] at this;have:=h.1;unfold jn;omega
theorem MU(h:iy R)(hs:sep.length<=4)(he:e= .none\/∃s:Tx,e= .str s/\s.length<=4):At 2 52 [.d (f8 R),.d (.str sep),.d e] (.ok (.ol (dE sep R e),.u)):=by
 have t:=paste_texts h hs;rcases he with rfl | ⟨s,rfl,k⟩
 .exact ct (n:=1) (oI 51 (bR (.ol (eU sep R)))) (ac 1) (.cons t .nil) ⋯
 have p:=ER k (si h hs).1 (si h hs).2;exact ct (n:=1) (oI 51 (bR (.ol (eU sep R)))) ((ac 1).join s) (.cons t (.cons p .nil)) ⋯
theorem Gs{J:Type}{K:Nat}{x:Nat}{b:List S}{it:E}{f:Fr}{v:V}{p:D}{rg:Bool}{g:D->D}(F:List D->J->Fr)(P:List D->J->Prop){ds:List D}(j0:J)(e:P [] j0)(u:bV K it f (v,F [] j0))(s:frz v=some p)(n:dN rg p=some ds) (hs:∀acc j d,P acc j->ds[acc.length]? =some d->∃q f1,P (acc++[g d]) q/\cE (F acc j) [x] d=some f1/\∀m,K<=m->exs (b6 fns m) b f1= .ok (.next,F (acc++[g d]) q)):∃j,P (ds.map g) j/\de K (.for [x] rg it b) f (F (ds.map g) j):=by
 have r:∀(es:List D) (acc:List D) j,P acc j->(∀k,ds[acc.length+k]? =es[k]?)->∃q,P (acc++es.map g) q/\∀m,K<=m->fm (λd f=>(cg (cE f [x] d)).bind λf=>exs (b6 fns m) b f) es (F acc j)= .ok (.next,F (acc++es.map g) q):=by
  intro es;induction es with
  | nil=>exact λacc j z U=>(a7 j (by simpa using z) (λm y=>by simp [fm]))
  | cons d es Q=>
   refine λacc j z t=>c0 (hs acc j d z (t 0)) λY f1 c l i=>?_;obtain ⟨q,w,o⟩:=Q (acc++[g d]) Y c λk=>by have:=t (k+1);rw [uE] at this;rw [<-this,ey,pF];congr 1;exact ZR
   rw [eZ,show acc++g d::es.map g=acc++[g d]++es.map g by simp];refine (a7 q w (λm y=>?_));show bt (bt (cg (cE (F acc j) [x] d)) λf=>exs (b6 fns m) b f) _=_;rw [l];show bt (exs (b6 fns m) b f1) _=_;rw [i m y];exact o m y
 refine a5 (r ds [] j0 e λk=>by simp) λj z h=>(a7 j z (λm y=>?_));show bt (ev (b6 fns m) it f) _=_;rw [u m y];show bt (match frz v with | some d=>dS (d,F [] j0) | none=>.x) _=_;rw [s];show bt (cg (dN rg p)) _=_;rw [n];exact h m y
theorem yA{n:Int}{k:Nat}(h:(cT n)[k]? =some d):d= .int k/\(k:Int)< n:=by unfold cT at h;rw [iV] at h;obtain ⟨i,y,rfl⟩:=iW.mp h;obtain ⟨p,q⟩:=gS.mp y;rw [IT] at q;clear y h;subst q;simp at p;exact ⟨rfl,(ZT p)⟩
theorem D1(sep x:Tx):∀l:List Tx,l≠[]->im sep (l++[x])=im sep l++(sep++x)
 | [],h=>absurd rfl h
 | [a],_=>by show a++sep++x=a++(sep++x);rw [jW]
 | a::b::l,_=>by show a++sep++im sep (b::l++[x])=a++sep++im sep (b::l)++(sep++x);rw [D1 sep x (b::l) (by simp),jW,jW,jW]
theorem EQ(sep:Tx)(h:acc≠[]):jn sep (acc++[t])=jn sep acc++(sep++kN t):=by unfold jn;rw [uI,eZ,xz,D1 _ _ _ (t7 h)]
theorem zf(hs:sep.length<=k):∀{l:List D},mK n l->(jn sep l).length<=l.length*(n+k)
 | [],_=>dR _
 | [t],h=>by refine a5 (h _ (.head _)) λs q p=>?_;clear h;subst q;exact ZU hs p
 | t::u::r,h=>by refine a5 (h _ (.head _)) λs q p=>?_;subst q;have y:=zf hs λt m=>h t (.tail _ m);show (s++sep++jn sep (u::r)).length<=_;rw [ey,ey];simp only [jE] at y ⊢;rw [Nat.add_mul];exact ZV hs p y
theorem Em(p:a.length<=n)(q:b.length<=k)(h:n+k<=df:=by decide):mq .add (.str a) (.str b)=some (.d (.str (a++b))):=by show cG (cL (a.length+b.length)) _=_;rw [show cL (a.length+b.length)=true from decide_eq_true (cW (lQ p q) h)];rfl
theorem Et(p:a.length<=n)(q:b.length<=k)(h:n+k<=df:=by decide):wo .add (.str a) (.str b)=some (.str (a++b)):=by show cG (cL (a.length+b.length)) _=_;rw [show cL (a.length+b.length)=true from decide_eq_true (cW (lQ p q) h)];rfl
def Opt.txt(o:Opt)(y:Option Bool):Opt:={o with
 bn:=λk p q=>match k,p,q with
  | .add,.str a,.str b=>some (.d (.str (a++b)))
  | .mod,.int a,.int b=>some (.d (.int (a.fmod b)))
  | .add,.l a,.l b=>some (.ol (a++b))
  | _,_,_=>none
 au:=λk p q=>match k,p,q with
  | .add,.str a,.str b=>some (.str (a++b))
  | _,_,_=>none
 cm:=λc U U=>match c with
  | .gt=>y
  | _=>none}
abbrev Bw:List S:=match y2 with
 | [_,_,.for _ _ _ b,_,_]=>b
 | _=>[]
abbrev Bx:List S:=match Bw with
 | [_,.for _ _ _ b,_]=>b
 | _=>[]
abbrev YU:List S:=match Bx with
 | _::b=>b
 | _=>[]
abbrev I2:List S:=match y2 with
 | [_,_,_,.ite _ [_,.for _ _ _ b,_] _,_]=>b
 | _=>[]
def i3(R:Rows)(w:Tx)(e:D)(k z y p v piece q:V):Fr:=[.d (f8 R),.d (.str w),.d e,.d (.int (eX R)),k,z,y,p,v,piece,q,.u]
theorem Gw(k:Nat):cZ .gt (.int k) (.int 0)=some (decide (0< k)):=by show some (decide ((0:Int)< k))=_;congr 1;simp
theorem Ri{R:Rows}(i:r.length<=3/\∀t∈r,t= .none\/∃s:Tx,t= .str s/\s.length<=8){u:Tx}(c:u.length<=4)(e:D)(v w:V)(p:Int){acc:List D}(o:acc.length< 4)(I:mK 8 acc){y:V}(g:nk y):∃B,nk B/\∀m,0<=m->exs (b6 fns m) YU (i3 R u e v (.d (.int p)) (.d (.str (jn u acc))) (.d (.int acc.length)) (.d (.l r)) y w)= .ok (.next,i3 R u e v (.d (.int p)) (.d (.str (jn u (acc++[piece p (.l r)])))) (.d (.int acc.length)) (.d (.l r)) B w):=by
 have N:(jn u acc).length<=48:=cW (zf c I) (cW (Je _ (xH o)) ∅);have t:∃t,(r.isEmpty=true/\t= .str []\/(r.isEmpty=false/\kI (.l r) (.int (p.fmod r.length))=some t))/\piece p (.l r)=mx t/\(t= .none\/∃s:Tx,t= .str s/\s.length<=8):=by
  induction q:r.isEmpty with
  | true=>exact (cF (.str []) (.inl ⟨rfl,rfl⟩) (by show (if r.isEmpty then _ else _)=_;rw [q];rfl) (.inr (a7 [] rfl ∅)))
  | false=>
   have C:r≠[]:=λe=>by rw [e] at q;injection q
   exact (cF _ (.inr ⟨rfl,iL p C i.1⟩) (by show (if r.isEmpty then _ else _)=_;rw [q];rfl) (i.2 _ (fJ p C)))
 refine ck t λt H G Y=>?_;rw [G];have j:=Em (a:=if acc.isEmpty then [] else u) (b:=kN (mx t)) (n:=4) (k:=8) (by split<;>first | exact c | exact dR _) (by rcases Y with rfl | ⟨s,rfl,h⟩<;>first | decide | exact h);have f:=Et (a:=jn u acc) (b:=(if acc.isEmpty then [] else u)++kN (mx t)) (n:=48) (k:=12) N (by rw [ey];show _<=4+8;exact lQ (by split<;>first | exact c | exact dR _) (by rcases Y with rfl | ⟨s,rfl,h⟩<;>first | decide | exact h));have O:jn u acc++((if acc.isEmpty then [] else u)++kN (mx t))=jn u (acc++[mx t]):=by
  clear o I N j f;induction acc using bO with
  | nil=>rfl
  | cons a r=>exact (EQ u (by simp)).symm
 rw [<-O];have M:=Gw acc.length;refine (a7 (.d t) ?_ ?_)
 .exact dH
 clear G O N I c;rcases H with ⟨q,rfl⟩ | ⟨q,z⟩
 .clear i t;obtain rfl:=lP.mp q;clear o;induction acc using bO with
  | nil=>exact bT (n:=0) bQ ((ac 0).l.txt none) (.cons j (.cons f .nil)) (by induction y using bS<;>first | exact absurd rfl (g _) | kernel_rfl)
  | cons a acc=>exact bT (n:=0) bQ ((ac 0).l.txt (some true)) (.cons M (.cons j (.cons f .nil))) (by induction y using bS<;>first | exact absurd rfl (g _) | kernel_rfl)
 induction r using bO with
 | nil=>injection q
 | cons b r=>
  have Q:=iM p (xs:=b::r) (by simp);rcases Y with rfl | ⟨s,rfl,U⟩
  .clear o;induction acc using bO with
   | nil=>exact bT (n:=0) bQ {((ac 0).l.txt none) with sb:=λU U=>some .none} (.cons (cK i.1) (.cons Q (.cons z (.cons j (.cons f .nil))))) (by induction y using bS<;>first | exact absurd rfl (g _) | kernel_rfl)
   | cons a acc=>exact bT (n:=0) bQ {((ac 0).l.txt (some true)) with sb:=λU U=>some .none} (.cons (cK i.1) (.cons Q (.cons z (.cons M (.cons j (.cons f .nil)))))) (by induction y using bS<;>first | exact absurd rfl (g _) | kernel_rfl)
  clear o;induction acc using bO with
  | nil=>exact bT (n:=0) bQ {((ac 0).l.txt none) with sb:=λU U=>some (.str s)} (.cons (cK i.1) (.cons Q (.cons z (.cons j (.cons f .nil))))) (by induction y using bS<;>first | exact absurd rfl (g _) | kernel_rfl)
  | cons a acc=>exact bT (n:=0) bQ {((ac 0).l.txt (some true)) with sb:=λU U=>some (.str s)} (.cons (cK i.1) (.cons Q (.cons z (.cons M (.cons j (.cons f .nil)))))) (by induction y using bS<;>first | exact absurd rfl (g _) | kernel_rfl)
def ui(R:Rows)(p:Int):List D:=(R.map dq).map (piece p)
def Bu(R:Rows)(p:Int):D->D
 | .int k=>piece p (cC (R.map dq) k)
 | _=>.none
theorem V9(R:Rows)(p:Int):(cT R.length).map (Bu R p)=ui R p:=by
 unfold ui cT;apply xt;intro k;rw [iV,iV,iV];by_cases h:k< R.length
 .rw [uG (by simpa using h),fD (by simpa using h)];show some (piece p (cC (R.map dq) k))=_;unfold cC;rw [fC,show ((k:Int)).toNat=k from kW k,fD (by simpa using h)];rfl
 rw [i6 (by simpa using h),i6 (by simpa using h)];rfl
theorem OG(h:iy R){o:Tx}(hb:o.length<=4)(e:D)(q w:V)(p:Int){u y z:V}(hu:nk u)(hy:nk y)(hz:nk z):∃j:V×V×V,(nk j.1/\nk j.2.1/\nk j.2.2)/\de 1 (.for [7] true (.bi .len [.v 0]) Bx) (i3 R o e q (.d (.int p)) (.d (.str [])) u y z w) (i3 R o e q (.d (.int p)) (.d (.str (jn o (ui R p)))) j.1 j.2.1 j.2.2 w):=by
 obtain ⟨j,B,O⟩:=Gs (x:=7) (b:=Bx) (v:=.d (.int (R.map dq).length)) (p:=.int (R.map dq).length) (ds:=cT (R.map dq).length) (g:=Bu R p) (λacc (j:V×V×V)=>i3 R o e q (.d (.int p)) (.d (.str (jn o acc))) j.1 j.2.1 j.2.2 w) (λacc j=>(nk j.1/\nk j.2.1/\nk j.2.2)/\mK 8 acc) (u,y,z) ⟨⟨hu,hy,hz⟩,λU h=>by cases h⟩ (f9 (n:=1) bQ (ac 0).l (.cons (cK (fK (f:=dq) h.1)) .nil) ⋯) rfl (g8 (k:=4) (by have:=h.1;rw [cR];exact wE this)) λacc j d ⟨⟨I,G,Q⟩,A⟩ C=>by
  refine xA (yA C) λρ Y=>?_;clear C;subst ρ;have s:acc.length< (R.map dq).length:=(ZW Y);have a:=ko (xs:=R.map dq) (i:=acc.length) (tW) Y (fK (f:=dq) h.1);refine a5 (qc (jI (xs:=R.map dq) (i:=acc.length) (tW) Y)) λr H M=>?_;have e1:Bu R p (.int acc.length)=piece p (.l r):=congrArg (piece p) H;rw [H] at a;rw [e1];obtain ⟨u,y,z⟩:=j;refine a5 (Ri (R:=R) (h.2 r M) hb e q w p (acc:=acc) (by have:=h.1;rw [cR] at s;exact ZX s this) A Q) λz' N c=>(d6 (.d (.int acc.length),.d (.l r),z') (i3 R o e q (.d (.int p)) (.d (.str (jn o acc))) (.d (.int acc.length)) y z w) ⟨⟨dH,dH,N⟩,λt c=>?_⟩ (by clear G Q c;induction u using bS<;>first | rfl | exact absurd rfl (I _)) (λm M=>?_))
  .rcases mZ.mp c with c | c
   .exact A t c
   rw [fh.mp c];exact yx h p _ (cM.mpr (a7 _ (cM.mpr (a7 r M rfl)) rfl))
  exact (jH (f1:=i3 R o e q (.d (.int p)) (.d (.str (jn o acc))) (.d (.int acc.length)) (.d (.l r)) z w) (bT (n:=0) bQ ((ac 0).one (.l r)) (.cons a .nil) (by clear I Q c;induction y using bS<;>first | exact absurd rfl (G _) | kernel_rfl) m (dR m))).trans (c m (dR m))
 rw [cR,V9] at O;exact (a7 j B.1 (by rw [cR] at B;exact O))
theorem OH(h:iy R)(G:p.length<=4)(e:D):∃j:V×V×V×V×V,(nk j.1)/\de 1 (.for [5] true (.v 3) Bw) (i3 R p e (.ol []) .u .u .u .u .u .u) (i3 R p e (.ol (eU p R)) j.1 j.2.1 j.2.2.1 j.2.2.2.1 j.2.2.2.2 .u):=by
 refine xA (vK λr O=>(h.2 r O).1) λc1 c=>?_;obtain ⟨j,q,N⟩:=ml (b:=Bw) (x:=5) (it:=.v 3) (f:=i3 R p e (.ol []) .u .u .u .u .u .u) (λacc (j:V×V×V×V×V)=>i3 R p e (.ol acc) j.1 j.2.1 j.2.2.1 j.2.2.2.1 j.2.2.2.2 .u) (λj=>nk j.1/\nk j.2.1/\nk j.2.2.1/\nk j.2.2.2.1/\nk j.2.2.2.2) 3 (gc (AV c1 c)) (.u,.u,.u,.u,.u) ⟨dC,dC,dC,dC,dC⟩ (λm U=>rfl) rfl (g8 (k:=3) (tX c1 c)) λacc j d q I s=>by refine ck (ij s) λi o C B=>?_;clear s;subst o;obtain ⟨u,w,x,y,z⟩:=j;refine a5 (OG h G e (.ol acc) .u i q.2.2.1 q.2.2.2.1 q.2.2.2.2) λo g t=>?_;obtain ⟨Q,Y,M⟩:=o;refine (d6 (.d (.int i),.d (.str (jn p (ui R i))),Q,Y,M) (i3 R p e (.ol acc) (.d (.int i)) w x y z .u) ⟨dH,dH,g⟩ (by clear t;induction u using bS<;>first | rfl | exact absurd rfl (q.1 _)) ?_);have l:AllT [_,_]:=.cons t (.cons (fL (d:=nE p R (.int i)) I) .nil);exact bT (n:=0) bQ ((ac 1).loop [(6,.d (.str (jn p (ui R i)))),(7,Q),(8,Y),(9,M)]).l l (by clear t l;induction w using bS<;>first | exact absurd rfl (q.2.1 _) | kernel_rfl)
 exact (a7 j q.1 N)
theorem OI(h:iy R){q e:Tx}(hb:q.length<=4)(he:e.length<=4){u w x y z:V}(hu:nk u):∃j:V×V,de 0 (.for [5] true (.v 3) I2) (i3 R q (.str e) (.ol (eU q R)) u w x y z (.d (.str []))) (i3 R q (.str e) j.1 j.2 w x y z (.d (.str (jn e (eU q R))))):=by
 refine xA (vK λr hr=>(h.2 r hr).1) λc1 A=>xA (si h hb) λok ln=>?_;have hn:(eU q R).length=(eX R).toNat:=by unfold eU cT;simp
 obtain ⟨j,N,hL⟩:=Gs (x:=5) (b:=I2) (it:=.v 3) (f:=i3 R q (.str e) (.ol (eU q R)) u w x y z (.d (.str []))) (v:=.d (.int (eX R))) (p:=.int (eX R)) (ds:=cT (eX R)) (g:=nE q R) (λacc (j:Bool×V)=>i3 R q (.str e) (two j.1 (eU q R)) j.2 w x y z (.d (.str (jn e acc)))) (λacc j=>nk j.2/\mK 48 acc) (false,u) ⟨hu,λU h=>by cases h⟩ (λm U=>rfl) rfl (g8 (k:=3) (tX c1 A)) λacc j d ⟨G,c⟩ C=>by
  refine xA (yA C) λρ B=>?_;subst ρ;have o:(acc.length:Int)< (eU q R).length:=(ZY c1 A hn B);have sb:=ko (xs:=eU q R) (i:=acc.length) (tW) o ln;have M:cC (eU q R) acc.length=nE q R (.int acc.length):=by unfold cC eU cT;rw [kW,fC,iV,iV,uG (ZZ hn o)];rfl
  rw [M] at sb;have Q:∃s:Tx,nE q R (.int acc.length)= .str s/\s.length<=48:=ok _ (M▸jI (tW) o);refine a5 Q λs es hs=>?_;rw [es] at sb ⊢;obtain ⟨b,u⟩:=j;refine (d6 (true,.d (.int acc.length)) (i3 R q (.str e) (two b (eU q R)) (.d (.int acc.length)) w x y z (.d (.str (jn e acc)))) ⟨dH,λt Y=>?_⟩ (by induction u using bS<;>first | rfl | exact absurd rfl (G _)) ?_)
  .rcases mZ.mp Y with Y | Y
   .exact c t Y
   rw [fh.mp Y];exact (a7 s rfl hs)
  have N:(jn e acc).length<=200:=by have:=zf he c;omega
  have I:(if acc.isEmpty then [] else e).length<=4:=by split<;>first | exact he | exact dR _
  have O:=Em (a:=if acc.isEmpty then [] else e) (b:=s) (n:=4) (k:=48) I hs;have H:=Et (a:=jn e acc) (b:=(if acc.isEmpty then [] else e)++s) (n:=200) (k:=52) N (by rw [ey];exact (lQ I hs:_<=4+48));have ej:jn e acc++((if acc.isEmpty then [] else e)++s)=jn e (acc++[.str s]):=by
   clear c B C o M Q sb es N I O H;induction acc using bO with
   | nil=>rfl
   | cons a r=>exact (EQ e (acc:=a::r) (t:=.str s) (by simp)).symm
  rw [<-ej];have gt:=Gw acc.length;clear c B C o M Q es N I ej;induction acc using bO with
  | nil=>clear G;induction b using dj<;>exact bT (n:=0) bQ {((ac 0).l.txt none) with sb:=λU U=>some (.str s)} (.cons sb (.cons O (.cons H .nil))) ⋯
  | cons a acc=>clear G;induction b using dj<;>exact bT (n:=0) bQ {((ac 0).l.txt (some true)) with sb:=λU U=>some (.str s)} (.cons gt (.cons sb (.cons O (.cons H .nil)))) ⋯
 exact ⟨(two j.1 (eU q R),j.2),hL⟩
def mw:D->D
 | .l r=>.int r.length
 | _=>.none
theorem DT:∀R:Rows,ms ((R.map dq).map mw)=some (R.map λr=>(r.length:Int))
 | []=>rfl
 | r::R=>by show (ms ((R.map dq).map mw)).map ((r.length:Int):: ·)=_;rw [DT R];rfl
theorem Uv(R:Rows):kJ .max [.l ([iY 0]++(R.map dq).map mw)]=some (.d (.int (eX R))):=by show ((ms (iY 0::(R.map dq).map mw)).bind wB).map _=_;rw [show ms (iY 0::(R.map dq).map mw)=some (0::R.map λr=>(r.length:Int)) by show (ms ((R.map dq).map mw)).map (0:: ·)=_;rw [DT R];rfl];show some (eA (.int ((R.map λr=>(r.length:Int)).foldl (λm x=>if m< x then x else m) 0)))=_;unfold eX;rw [J9,J9];rfl
theorem Re(h:iy R)(k e:D):bV 2 (.comp (.bi .len [.v 11]) [11] false (.v 0) none) [.d (f8 R),.d k,.d e,.u,.u,.u,.u,.u,.u,.u,.u,.u] (.ol ((R.map dq).map mw),[.d (f8 R),.d k,.d e,.u,.u,.u,.u,.u,.u,.u,.u,.u]):=qg (λu=>[.d (f8 R),.d k,.d e,.u,.u,.u,.u,.u,.u,.u,.u,u]) (λu d y=>by induction u using bS<;>first | rfl | exact absurd rfl (y _)) (λu=>rfl) (λm U=>rfl) rfl (j9 (fK h.1)) λd p=>by refine a5 (qc p) λr z q=>?_;clear p;subst z;exact f9 (n:=2) bQ (ac 0).l (.cons (cK (h.2 r q).1) .nil) ⋯
theorem yF(p:a.length<=n)(q:b.length<=k)(h:n+k<=df:=by decide):mq .add (.l a) (.l b)=some (.ol (a++b)):=by show cG (cL (a.length+b.length)) _=_;rw [show cL (a.length+b.length)=true from decide_eq_true (cW (lQ p q) h)];rfl
def I4(R:Rows)(f1 v:Option (Out (Ctl×Fr)))(k y:List (Nat×V)):Opt:={(ac 2) with
 co:=λU f=>some (.ol ((R.map dq).map mw),f)
 bn:=λz p q=>match z,p,q with
  | .add,.l a,.l b=>some (.ol (a++b))
  | _,_,_=>none
 bi:=λb U=>match b with
  | .max=>some (.d (.int (eX R)))
  | _=>none
 fo:=λU f=>match rd f 10 with
  | .u=>some (.ok (.next,my k f))
  | _=>some (.ok (.next,my y f))}
theorem Ds(h:iy R){k:Tx}(t:k.length<=4){e:D}(he:e= .none\/∃s:Tx,e= .str s/\s.length<=4):At 3 95 [.d (f8 R),.d (.str k),.d e] (.ok (.ol (dE k R e),.u)):=by
 have c:=Re h (.str k) e;have r:=yF (a:=[iY 0]) (b:=(R.map dq).map mw) (n:=1) ∅ (fK (fK h.1));have i:=Uv R;refine a5 (OH h t e) λo g p=>?_;obtain ⟨u,w,x,y,z⟩:=o;have p:de 2 _ _ _:=λm v=>p m (c5 v rfl);rcases he with rfl | ⟨s,rfl,f⟩
 .exact ct (n:=1) bQ (I4 R none none [(4,.ol (eU k R)),(5,u),(6,w),(7,x),(8,y),(9,z)] []) (.cons c (.cons r (.cons i (.cons p .nil)))) ⋯
 refine xE (OI h t f (w:=w) (x:=x) (y:=y) (z:=z) g) λj q=>?_;have q:de 2 _ _ _:=λm v=>q m (c5 v rfl);exact ct (n:=1) bQ (I4 R none none [(4,.ol (eU k R)),(5,u),(6,w),(7,x),(8,y),(9,z)] [(4,j.1),(5,j.2),(10,.d (.str (jn s (eU k R))))]) (.cons c (.cons r (.cons i (.cons p (.cons q .nil))))) ⋯
theorem Wx{A J:Type}{K:Nat}{xs:List Nat}{b:List S}{it:E}{f:Fr}{v:V}{p:D}{rg:Bool}(F:A->J->Fr)(g:A->D->A)(P:Nat->A->J->Prop){ds:List D}{a0:A}{j0:J}(n:P 0 a0 j0)(u:bV K it f (v,F a0 j0))(I:frz v=some p)(M:dN rg p=some ds) (hs:∀k a j d,P k a j->ds[k]? =some d->∃q f1,P (k+1) (g a d) q/\cE (F a j) xs d=some f1/\∀m,K<=m->exs (b6 fns m) b f1= .ok (.next,F (g a d) q)):∃j,P ds.length (ds.foldl g a0) j/\de K (.for xs rg it b) f (F (ds.foldl g a0) j):=by
 have r:∀(es:List D) (k:Nat) (a:A) j,P k a j->(∀i,ds[k+i]? =es[i]?)->∃q,P (k+es.length) (es.foldl g a) q/\∀m,K<=m->fm (λd f=>(cg (cE f xs d)).bind λf=>exs (b6 fns m) b f) es (F a j)= .ok (.next,F (es.foldl g a) q):=by
  intro es;induction es with
  | nil=>exact λk a j z U=>(a7 j z (λm y=>rfl))
  | cons d es G=>
   refine λk a j z t=>c0 (hs k a j d z (t 0)) λC f1 s l o=>?_;obtain ⟨q,w,c⟩:=G (k+1) (g a d) C s λi=>by have:=t (i+1);rw [uE] at this;rw [<-this];congr 1;first | exact f4 k 1 i | exact (f4 k 1 i).symm
   refine (a7 q (by rw [jE,show k+(es.length+1)=k+1+es.length from (f4 k 1 _).symm];exact w) (λm y=>?_));show bt (bt (cg (cE (F a j) xs d)) λf=>exs (b6 fns m) b f) _=_;rw [l];show bt (exs (b6 fns m) b f1) _=_;rw [o m y];exact c m y
 refine a5 (r ds 0 a0 j0 n λi=>by rw [iH]) λj z h=>(a7 j (by rwa [iH] at z) (λm y=>?_));show bt (ev (b6 fns m) it f) _=_;rw [u m y];show bt (match frz v with | some d=>dS (d,F a0 j0) | none=>.x) _=_;rw [I];show bt (cg (dN rg p)) _=_;rw [M];exact h m y
def cA(v:D):List D:=match v with
 | .y (.str k) (.l xs) a=>match hS k cJ with
  | true=>xs
  | false=>match hS k dv with
   | true=>(match a with
    | .dct .. =>xs.map pz
    | _=>xs.map x5)
   | false=>match hS k dJ with
    | true=>xs.map x6
    | false=>xs.map x4
 | _=>[]
theorem Val.ws{v:D}{ws:List D}{nd:D}{z:V}(q:Val v ws nd z):cA v=ws:=by
 have k:∀κ∈kds,∀ns,cA (.y κ.k (.l ns) .none)=ns.map κ.f:=kb (λU=>rfl) (λU=>rfl) λU=>rfl;induction q with
 | ot p=>exact k _ p _
 | _=>rfl
def Tv(v:D):Prop:=(∃k,At 20 63 [.d .none,.d v] (.ok (k,.u))/\(k= .d (.l (cA v))\/k= .ol (cA v)))/\(cA v).length<=3/\∀t∈cA v,t= .none\/∃s:Tx,t= .str s/\s.length<=8
theorem VE:∀t∈txs,t= .none\/∃s:Tx,t= .str s/\s.length<=8:=by
 have:(txs.all λt=>match t with
  | .none=>true
  | .str s=>decide (s.length<=8)
  | _=>false)=true:=by decide +kernel
 intro t k;have:=dM.mp this t k;clear k;induction t using c7 with
 | none=>exact .inl rfl
 | str s=>exact .inr (a7 s rfl (of_decide_eq_true this))
 | _=>injection this
theorem Val.tv{v:D}{ws:List D}{nd:D}{p:V}(k:Val v ws nd p):Tv v:=by unfold Tv;rw [k.ws];exact ⟨(a7 p (kh k) k.two),k.len,λt q=>VE t (k.tx t q)⟩
theorem XY(h:s.length<=8):Tv (c1 (.str s)):=⟨(a7 (.d (.l [.str s])) (eT ⋯) (.inl rfl)),(show 1<=3 by decide),λt k=>.inr ⟨s,by rw [fh.mp k];exact ⟨rfl,h⟩⟩⟩
inductive Ag:D->Prop
 | row {v:D} (h:Tv v):Ag (.t [.none,v])
 | sep (s:Tx):Ag (.t [.str [115,101,112],c1 (.str s)])
 | col (s:Tx):Ag (.t [.str [99,111,108,108,97,112,115,101],c1 (.str s)])
abbrev St:=List D×D×D
def wO(a:St)(d:D):St:=match d with
 | .t [.none,v]=>(a.1++[.l (cA v)],a.2)
 | .t [.str t,.y _ (.l [x]) _]=>match hS t lu with
  | true=>(a.1,x,a.2.2)
  | false=>(a.1,a.2.1,x)
 | _=>a
abbrev Ib:List S:=match CQ with
 | [_,_,.for _ _ _ b,_]=>b
 | _=>[]
def rl(ds:List D)(a:St)(t v:V):Fr:=[.d .none,.d (.l ds),.d a.2.1,.ol a.1,.d a.2.2,t,v]
theorem RV(h:∀d∈ds,Ag d)(l:ds.length<=8)(sep:Tx):∃j:V×V,de 28 (.for [5,6] false (.v 1) Ib) (rl ds ([],.str sep,.none) .u .u) (rl ds (ds.foldl wO ([],.str sep,.none)) j.1 j.2):=by
 obtain ⟨j,A,C⟩:=Wx (K:=28) (b:=Ib) (it:=.v 1) (f:=rl ds ([],.str sep,.none) .u .u) (v:=.d (.l ds)) (p:=.l ds) (ds:=ds) (a0:=([],.str sep,.none)) (j0:=(.u,.u)) (λa (j:V×V)=>rl ds a j.1 j.2) wO (λk a j=>a.1.length<=k/\nk j.1/\nk j.2) ⟨fj _,dC,dC⟩ (λm U=>rfl) rfl (j9 l) λk a j d ⟨r,g,o⟩ B=>by
  obtain ⟨z,G⟩:=gS.mp B;have i:=h d (G▸IZ z);obtain ⟨t,v⟩:=j;have Q:∀x y,cE (rl ds a t v) [5,6] (.t [x,y])=some (rl ds a (.d x) (.d y)):=λx y=>by induction t using bS<;>first | exact absurd rfl (g _) | (induction v using bS<;>first | exact absurd rfl (o _) | rfl)
  cases i with
  | @row w H=>
   obtain ⟨⟨tv,I,c⟩,U⟩:=H;refine (d6 (.d .none,.d w) _ ⟨?_,dH,dH⟩ (Q _ _) ?_)
   .show (a.1++[dq (cA w)]).length<=k+1;rw [ey,pF];exact a0a r
   have M:=fL (xs:=a.1) (d:=.l (cA w)) (n:=8) (a0b l r z);rcases c with rfl | rfl
   .exact λm q=>bT (n:=1) (oI 63 (bR (.d (.l (cA w))))) (ac 20).l (.cons I (.cons M .nil)) ⋯ m (by show 20+1<=m;exact c5 q rfl)
   exact λm q=>bT (n:=1) (oI 63 (bR (.ol (cA w)))) (ac 20).l (.cons I (.cons M .nil)) ⋯ m (by show 20+1<=m;exact c5 q rfl)
  | sep s=>exact (d6 (.d (.str lu),.d (c1 (.str s))) _ ⟨dX r,dH,dH⟩ (Q _ _) (λm q=>bT (n:=8) bQ (ac 0) .nil ⋯ m (by show 0+8<=m;exact c5 q rfl)))
  | col s=>exact (d6 (.d (.str oX),.d (c1 (.str s))) _ ⟨dX r,dH,dH⟩ (Q _ _) (λm q=>bT (n:=8) bQ (ac 0) .nil ⋯ m (by show 0+8<=m;exact c5 q rfl)))
 exact ⟨j,C⟩
theorem E5(h:∀d∈ds,Ag d)(l:ds.length<=8)(k:Tx){R:Rows}(q:iy R)(hs:sep.length<=4)(he:e= .none\/∃s:Tx,e= .str s/\s.length<=4)(y:ds.foldl wO ([],.str k,.none)=(R.map .l,.str sep,e)):At 32 66 [.d .none,.d (.l ds),.d (.str k)] (.ok (cP CH (dE sep R e),.u)):=by
 refine xE (RV h l k) λj p=>?_;rw [y] at p;have z:(dE sep R e).length<=3:=by
  rcases he with rfl | ⟨s,rfl,U⟩
  .exact (si q hs).2
  exact (show 1<=3 by decide)
 exact ct (n:=4) (oI 52 (bR (.ol (dE sep R e)))) ((ac 28).loop [(2,.d (.str sep)),(3,.ol (R.map .l)),(4,.d e),(5,j.1),(6,j.2)]).l (.cons p (.cons ((MU q hs he).u 28) (.cons (eB z) .nil))) ⋯
def fu(Y:List D)(b:Tx)(e:D):List D:=Y.map (λv=>.t [.none,v])++(.t [.str lu,c1 (.str b)]::match e with
 | .str s=>[.t [.str oX,c1 (.str s)]]
 | _=>[])
def Ay(Y:List D)(b:Tx)(e:D):List D:=Y.map (λv=>.t [.none,v])++(.t [.none,c1 (.str b)]::match e with
 | .str s=>[.t [.str oX,c1 (.str s)]]
 | _=>[])
theorem En(Y:List D)(st:St):(Y.map λv=>D.t [.none,v]).foldl wO st=(st.1++(Y.map cA).map .l,st.2):=by
 induction Y generalizing st with
 | nil=>simp
 | cons v Y k=>rw [eZ,n7,k];show (st.1++[dq (cA v)]++_,st.2)=_;simp
section
variable {Y:List D}(O:∀v∈Y,Tv v)(N:Y.length<=3){b:Tx}(Q:b.length<=4){e:D}(he:e= .none\/∃s:Tx,e= .str s/\s.length<=4)
include O N in
theorem yu:iy (Y.map cA):=⟨by rw [cR];exact dh N rfl,λr k=>by refine a5 (cM.mp k) λv p q=>?_;clear k;subst q;exact (O v p).2⟩
include O N Q in
theorem Dn:iy (Y.map cA++[[.str b]]):=⟨by rw [ey,cR,pF];exact a0c N,λr k=>by
 rcases mZ.mp k with k | k
 .exact (yu O N).2 r k
 rw [fh.mp k];exact ⟨(show 1<=3 by decide),λt p=>.inr (a7 b (fh.mp p) (dh Q rfl))⟩⟩
include O N Q he in
theorem Mp:At 33 67 [.d .none,.d (.l (fu Y b e)),.d .none] (.ok (cP CH (dE b (Y.map cA) e),.u)):=by
 have p:=E5 (ds:=fu Y b e) (λd k=>by
  rcases mZ.mp k with h | h
  .refine a5 (cM.mp h) λv q y=>?_;clear k h;subst y;exact .row (O v q)
  .rcases dp.mp h with rfl | h
   .exact .sep b
   rcases he with rfl | ⟨s,rfl,U⟩
   .cases h
   rw [fh.mp h];exact .col s) (by
  unfold fu;rw [ey,cR,jE];rcases he with rfl | ⟨s,rfl,U⟩<;>simp<;>omega) [32] (yu O N) Q he (by
  unfold fu;rw [IW,En];rcases he with rfl | ⟨s,rfl,U⟩<;>rfl)
 exact ct (n:=1) (oI 66 (bR (cP CH (dE b (Y.map cA) e)))) (ac 32) (.cons p .nil) ⋯
include O N Q he in
theorem LI:At 33 68 [.d .none,.d (.l (fu Y b e)),.d .none] (.ok (cP CH (dE [] (Y.map cA++[[.str b]]) e),.u)):=by
 have p:=E5 (ds:=Ay Y b e) (λd k=>by
  rcases mZ.mp k with h | h
  .refine a5 (cM.mp h) λv q r=>?_;clear k h;subst r;exact .row (O v q)
  .rcases dp.mp h with rfl | h
   .exact .row (XY (dh Q rfl))
   rcases he with rfl | ⟨s,rfl,U⟩
   .cases h
   rw [fh.mp h];exact .col s) (by
  unfold Ay;rw [ey,cR,jE];rcases he with rfl | ⟨s,rfl,U⟩<;>simp<;>omega) [] (Dn O N Q) (sep:=[]) ∅ he (by
  unfold Ay;rw [IW,En];rcases he with rfl | ⟨s,rfl,U⟩
  .show ((([]:List D)++(Y.map cA).map .l)++[dq [.str b]],iJ [],ox)=_;simp
  show ((([]:List D)++(Y.map cA).map .l)++[dq [.str b]],iJ [],iJ s)=_;simp)
 have a:=fG p .nil;clear O Q;rcases he with rfl | ⟨s,rfl,U⟩
 .rcases Y with U | ⟨x,U | ⟨y,U | ⟨z,U | ⟨w,l⟩⟩⟩⟩
  .exact ct (n:=1) (oI 66 (bR (cP CH (dE [] ([].map cA++[[.str b]]) .none)))) (ac 32) a ⋯
  .exact ct (n:=1) (oI 66 (bR (cP CH (dE [] ([x].map cA++[[.str b]]) .none)))) (ac 32) a ⋯
  .exact ct (n:=1) (oI 66 (bR (cP CH (dE [] ([x,y].map cA++[[.str b]]) .none)))) (ac 32) a ⋯
  .exact ct (n:=1) (oI 66 (bR (cP CH (dE [] ([x,y,z].map cA++[[.str b]]) .none)))) (ac 32) a ⋯
  exact uf N
 rcases Y with U | ⟨x,U | ⟨y,U | ⟨z,U | ⟨w,l⟩⟩⟩⟩
 .exact ct (n:=1) (oI 66 (bR (cP CH (dE [] ([].map cA++[[.str b]]) (.str s))))) (ac 32) a ⋯
 .exact ct (n:=1) (oI 66 (bR (cP CH (dE [] ([x].map cA++[[.str b]]) (.str s))))) (ac 32) a ⋯
 .exact ct (n:=1) (oI 66 (bR (cP CH (dE [] ([x,y].map cA++[[.str b]]) (.str s))))) (ac 32) a ⋯
 .exact ct (n:=1) (oI 66 (bR (cP CH (dE [] ([x,y,z].map cA++[[.str b]]) (.str s))))) (ac 32) a ⋯
 exact uf N
end
theorem we{y:Type}{K:Nat}{xs:List Nat}{b:List S}{it:E}{f:Fr}{v:V}{p:D}{rg:Bool}(F:y->Fr)(P:Nat->y->Prop){ds:List D}{s0:y}(g:P 0 s0)(z:bV K it f (v,F s0))(n:frz v=some p)(c:dN rg p=some ds) (hs:∀k s d,P k s->ds[k]? =some d->∃s' f1,P (k+1) s'/\cE (F s) xs d=some f1/\∀m,K<=m->exs (b6 fns m) b f1= .ok (.next,F s')):∃s,P ds.length s/\de K (.for xs rg it b) f (F s):=by
 have w:∀(es:List D) (k:Nat) (s:y),P k s->(∀i,ds[k+i]? =es[i]?)->∃s',P (k+es.length) s'/\∀m,K<=m->fm (λd f=>(cg (cE f xs d)).bind λf=>exs (b6 fns m) b f) es (F s)= .ok (.next,F s'):=by
  intro es;induction es with
  | nil=>exact λk s hs U=>(a7 s hs (λm q=>rfl))
  | cons d es Q=>
   refine λk s e r=>c0 (hs k s d e (r 0)) λY f1 o t l=>?_;obtain ⟨s',u,j⟩:=Q (k+1) Y o λi=>by have:=r (i+1);rw [uE] at this;rw [<-this];congr 1;first | exact f4 k 1 i | exact (f4 k 1 i).symm
   refine (a7 s' (by rw [jE,show k+(es.length+1)=k+1+es.length from (f4 k 1 _).symm];exact u) (λm q=>?_));show bt (bt (cg (cE (F s) xs d)) λf=>exs (b6 fns m) b f) _=_;rw [t];show bt (exs (b6 fns m) b f1) _=_;rw [l m q];exact j m q
 refine a5 (w ds 0 s0 g λi=>by rw [iH]) λs hs h=>(a7 s (by rwa [iH] at hs) (λm q=>?_));show bt (ev (b6 fns m) it f) _=_;rw [z m q];show bt (match frz v with | some d=>dS (d,F s0) | none=>.x) _=_;rw [n];show bt (cg (dN rg p)) _=_;rw [c];exact h m q
theorem Fx{j:Type}{K:Nat}{x:Nat}{e it:E}{f:Fr}{v:V}{p:D}{rg:Bool}(F:j->V->Fr)(P:Nat->j->Prop)(Q:D->Prop){ds:List D}{s0:j}(H:P 0 s0)(a:∀s u d,nk u->cE (F s u) [x] d=some (F s (.d d)))(hU:∀s u,a0E (F s u) [x]=F s .u)(c:bV K it f (v,F s0 .u))(hp:frz v=some p)(hi:dN rg p=some ds) (hs:∀k s d,P k s->ds[k]? =some d->∃s' w y,P (k+1) s'/\Q y/\frz w=some y/\bV K e (F s (.d d)) (w,F s' (.d d))):∃s ys,P ds.length s/\ys.length=ds.length/\(∀y∈ys,Q y)/\bV K (.comp e [x] rg it none) f (.ol ys,F s .u):=by
 have N:∀(es:List D) (k:Nat) (s:j) u,P k s->nk u->(∀i,ds[k+i]? =es[i]?)->∃s' I ys,P (k+es.length) s'/\ys.length=es.length/\(∀y∈ys,Q y)/\∀m,K<=m->iO (λd f=>(cg (cE f [x] d)).bind λf=>(evTo (b6 fns m) none f).bind λt=>match t.1 with
   | true=>(ev (b6 fns m) e t.2).bind λr=>(fz r).bind λq=>.ok (some q.1,q.2)
   | false=>.ok (none,t.2)) es (F s u)= .ok (ys,F s' I):=by
  intro es;induction es with
  | nil=>exact λk s u hs U U=>(lb s u [] hs rfl (λU h=>(by cases h)) (λm l=>rfl))
  | cons d es ih=>
   refine λk s u hP hu G=>gq (hs k s d hP (G 0)) λO w y g hy hw C=>?_;obtain ⟨s',I,ys,n,hl,Y,B⟩:=ih (k+1) O (.d d) g dH λi=>by have:=G (i+1);rw [uE] at this;rw [<-this];congr 1;first | exact f4 k 1 i | exact (f4 k 1 i).symm
   refine (lb s' I (y::ys) (by rw [jE,show k+(es.length+1)=k+1+es.length from (f4 k 1 _).symm];exact n) (by rw [jE,jE,hl]) (λz M=>?_) (λm l=>?_))
   .rcases dp.mp M with rfl | M
    .exact hy
    exact Y z M
   show bt (bt (cg (cE (F s u) [x] d)) _) _=_;rw [a s u d hu];show bt (bt (ev (b6 fns m) e (F s (.d d))) _) _=_;rw [C m l];show bt (bt (match frz w with | some d=>dS (d,_) | none=>.x) _) _=_;rw [hw];show bt (iO _ es (F O (.d d))) _=_;rw [B m l];rfl
 refine gq (N ds 0 s0 .u H dC λi=>by rw [iH]) λs u ys g A b h=>(lp s ys (by rwa [iH] at g) A b (λm l=>?_));show bt (ev (b6 fns m) it f) _=_;rw [c m l];show bt (match frz v with | some d=>dS (d,F s0 .u) | none=>.x) _=_;rw [hp];show bt (cg (dN rg p)) _=_;rw [hi];refine (congrArg (λo=>bt o λq=>dS (k9 q.1,a0E q.2 [x])) (h m l)).trans ?_;show dS (k9 ys,a0E (F s u) [x])=_;rw [hU]
def Rw(R:List D):Prop:=∀d∈R,∃n:Int,d= .int n
def fX(g:Nat)(v b:V)(o:eQ):eQ:=λk a=>if k==g then some (.ok (v,b)) else o k a
theorem qv{R:List D}(h:R≠[]):cZ .ne (.l R) (.l [])=some true:=by
 induction R using bO with
 | nil=>exact absurd rfl h
 | cons a r=>rfl
theorem mc(h:Rw R)(k:R.length<=2000):∃(n:Int) (p:List D),Rw p/\p.length<=2000/\At 1 88 [.ol R] (.ok (.d (.int n),.ol p)):=by
 rcases IN R with rfl | ⟨I,d,rfl⟩
 .exact (d6 0 [] h k (eT ⋯))
 rw [IP] at *;refine xE (h d (by simp)) λn z=>?_;subst z;have y:hZ .pop [] (I++[iY n])=some (.int n,I):=by show cG (([]:List D).isEmpty&&cL (I++[iY n]).length) _=_;rw [show cL (I++[iY n]).length=true from decide_eq_true (cW k (show 2000<=df by decide))];rw [List.getLast?_concat];show some (iY n,(I++[iY n]).dropLast)=_;rw [List.dropLast_concat]
 refine (d6 n I (λd q=>h d (o9 _ q)) (by rw [ey] at k;exact a0d k) (ct (n:=1) bQ {(ac 0) with cm:=λU U U=>some true,lm:=λU U U=>some (.int n,I)} (.cons (qv (R:=I++[iY n]) (by simp)) (.cons y .nil)) ⋯))
theorem kj(n:Int){k:Int}(h:0< k:=by decide):0<=n.fmod k/\n.fmod k< k:=⟨Jt _ h,Jv _ h⟩
theorem Fg(h:Rw R)(z:R.length<=2000):∃(w:D) (p:List D),w∈wrds/\Rw p/\p.length<=2000/\At 2 89 [.ol R] (.ok (.d w,.ol p)):=by refine c0 (mc h z) λn p q y a=>?_;have b:=kj n (k:=9);refine (lp (cC wrds (n.fmod 9)) p (jI b.1 b.2) q y (ct (n:=1) (fX 88 (.d (.int n)) (.ol p) bQ) {(ac 1) with sb:=λU U=>some (cC wrds (n.fmod 9))} (.cons a (.cons (ko (xs:=wrds) b.1 b.2 (n:=9) ∅) .nil)) ⋯))
theorem PJ(h:Rw R)(t:R.length<=2000){n:Int}(l:0<=n)(hn:n<=3)(z:V):∃(ys q:List D),ys.length=n.toNat/\(∀w∈ys,w∈wrds)/\Rw q/\q.length<=2000/\bV 3 (.comp (.cb 89 0 []) [3] true (.v 1) none) [.ol R,.d (.int n),z,.u,.u] (.ol ys,[.ol q,.d (.int n),z,.u,.u]):=by
 obtain ⟨s,ys,⟨y,r⟩,j,i,g⟩:=Fx (x:=3) (e:=.cb 89 0 []) (it:=.v 1) (f:=[.ol R,.d (.int n),z,.u,.u]) (p:=.int n) (rg:=true) (ds:=cT n) (s0:=R) (λ(s:List D) u=>[.ol s,.d (.int n),z,u,.u]) (λU s=>Rw s/\s.length<=2000) (λw=>w∈wrds) ⟨h,t⟩ (λs u d o=>by induction u using bS<;>first | rfl | exact absurd rfl (o _)) (λs u=>rfl) (λm U=>rfl) rfl (g8 (k:=3) (tX l hn)) λk s d ⟨hs,t⟩ U=>by exact oS (Fg hs t) λw q c y r a=>(lb q (.d w) w ⟨y,r⟩ c rfl (f9 (n:=1) (fX 89 (.d w) (.ol q) bQ) (ac 2) (.cons a .nil) ⋯))
 exact (qi ys s (by rw [j];unfold cT;simp) i y r g)
def qT(ys:List D)(n:Int)(t:Bool):V:=.oi 0 [0,1,2,3,4] [.d CH,.d (.l ys),match t with
 | true=>.od [ku] [.y CH (.l (gg n.toNat)) .none]
 | false=>.d .none,.d (.bool false),.d (.bool false)]
def B7(ys:List D)(n:Int)(t:Bool):D:=.y CH (.l ys) (match t with
 | true=>eY n.toNat
 | false=>.none)
theorem Od(ys:List D)(n:Int)(t:Bool):frz (qT ys n t)=some (B7 ys n t):=by induction t using dj<;>rfl
theorem D7(h:Rw R)(g:R.length<=2000){n:Int}(q:0<=n)(hn:n<=3):∃(ys p:List D) (t:Bool),ys.length=n.toNat/\(∀w∈ys,w∈wrds)/\Rw p/\p.length<=2000/\At 6 90 [.ol R,.d (.int n)] (.ok (qT ys n t,.ol p)):=by
 refine hB (PJ h g q hn .u) λys R1 y z v r c=>c0 (mc v r) λd k j i a=>?_;have c:bV 4 _ _ _:=λm o=>c m (c5 o rfl);have cm:∃t,cZ .eq (.int (d.fmod 3)) (.int 2)=some t:=⟨_,qu rfl⟩;refine xE cm λt cm=>⟨ys,k,t,y,z,j,i,?_⟩;have l:=fG c (.cons (a.u 4) (.cons cm .nil));clear c a cm y;obtain rfl | rfl | rfl | rfl:n=0\/n=1\/n=2\/n=3:=(a0e q hn);all_goals induction t using dj
 .exact ct (n:=2) (fX 88 (.d (.int d)) (.ol k) bQ) {(ac 4) with co:=λxs f=>if xs==[3] then some (.ol ys,f.set 0 (.ol R1)) else none,cm:=λU U U=>some false} l ⋯
 .exact ct (n:=2) (fX 88 (.d (.int d)) (.ol k) bQ) {(ac 4) with co:=λxs f=>if xs==[3] then some (.ol ys,f.set 0 (.ol R1)) else none,cm:=λU U U=>some true} l ⋯
 .exact ct (n:=2) (fX 88 (.d (.int d)) (.ol k) bQ) {(ac 4) with co:=λxs f=>if xs==[3] then some (.ol ys,f.set 0 (.ol R1)) else none,cm:=λU U U=>some false} l ⋯
 .exact ct (n:=2) (fX 88 (.d (.int d)) (.ol k) bQ) {(ac 4) with co:=λxs f=>if xs==[3] then some (.ol ys,f.set 0 (.ol R1)) else none,cm:=λU U U=>some true} l ⋯
 .exact ct (n:=2) (fX 88 (.d (.int d)) (.ol k) bQ) {(ac 4) with co:=λxs f=>if xs==[3] then some (.ol ys,f.set 0 (.ol R1)) else none,cm:=λU U U=>some false} l ⋯
 .exact ct (n:=2) (fX 88 (.d (.int d)) (.ol k) bQ) {(ac 4) with co:=λxs f=>if xs==[3] then some (.ol ys,f.set 0 (.ol R1)) else none,cm:=λU U U=>some true} l ⋯
 .exact ct (n:=2) (fX 88 (.d (.int d)) (.ol k) bQ) {(ac 4) with co:=λxs f=>if xs==[3] then some (.ol ys,f.set 0 (.ol R1)) else none,cm:=λU U U=>some false} l ⋯
 exact ct (n:=2) (fX 88 (.d (.int d)) (.ol k) bQ) {(ac 4) with co:=λxs f=>if xs==[3] then some (.ol ys,f.set 0 (.ol R1)) else none,cm:=λU U U=>some true} l ⋯
theorem Bl(c d:Int):cZ .eq (.int c) (.int d)=some (c==d):=qu rfl
theorem At.body{K i:Nat}{k:List V}{f f':Fr}(z:fns[i]? =some fn)(q:oM fn k=some f)(h:∀m,K<=m->exs (b6 fns m) fn.body f= .ok (.ret v,f'))(y:back fn f'= .ok b):At (K+1) i k (.ok (v,b)):=λm p=>by
 induction m using gF with | zero=>exact absurd p (C9 _) | succ m=>
 show (match fns[i]? with | some fn=>kB (b6 fns m) fn k | none=>.x)=_;rw [z];show (cg (oM fn k)).bind _=_;rw [q];show (exs (b6 fns m) fn.body f).bind _=_;rw [h m (uK p)];show (back fn f').bind _=_;rw [y];rfl
theorem yi{n:Int}{k:Nat}(h:0<=n/\n< (k:Int)):n∈(fO k).map Int.ofNat:=cM.mpr (a7 n.toNat (jk.mpr ((Cq h.1).mpr h.2)) (pN h.1))
theorem Gl{n k:Int}(h:n< k+1)(a:n≠k):n< k:=Ju.mpr ⟨uQ h,a⟩
theorem VA{n:Int}(h:n< 10)(a:n≠9)(b:n≠8):n< 8:=Gl (Gl h a) b
theorem O9{n:Int}(h:n< 8)(a:¬n< 3)(b:n≠3):n∈[4,5,6,7]:=by have l:=Ju.mpr ⟨kX.mp a,k8 b⟩;have m:=xm (f:=(·+(4:Int))) (yi (n:=n -4) ⟨Int.sub_nonneg_of_le l,Int.sub_lt_sub_right h 4⟩);rw [Int.sub_add_cancel] at m;exact m
theorem Vb:plr=((fO 8).map Int.ofNat).map (λk:Int=>D.t [.int (k -1),.int 1])++[.t [.int 5,.int 2],.none]:=⋯
theorem P7(h:Rw R)(m:R.length<=2000):∃(r:D) (p:List D),r∈plr/\Rw p/\p.length<=2000/\At 2 96 [.ol R] (.ok (.d (.t [r,bN r]),.ol p)):=by
 refine c0 (mc h m) λn p z u a=>?_;have b:=kj n (k:=10);have q:=Bl (n.fmod 10) 9;have y:=Bl (n.fmod 10) 8;by_cases w:n.fmod 10=9
 .rw [show (n.fmod 10==9)=true from beq_iff_eq.mpr w] at q;refine (lp .none p (by simp [plr]) z u (ct (n:=1) (fX 88 (.d (.int n)) (.ol p) bQ) {(ac 1) with cm:=λU U U=>some true} (.cons a (.cons q .nil)) ⋯))
 rw [show (n.fmod 10==9)=false from beq_eq_false_iff_ne.mpr w] at q;by_cases v:n.fmod 10=8
 .rw [show (n.fmod 10==8)=true from beq_iff_eq.mpr v] at y;refine (lp (.t [.int 5,.int 2]) p (by simp [plr]) z u (ct (n:=1) (fX 88 (.d (.int n)) (.ol p) bQ) {(ac 1) with cm:=λU U b=>match b with
   | .int 9=>some false
   | _=>some true} (.cons a (.cons q (.cons y .nil))) ⋯))
 rw [show (n.fmod 10==8)=false from beq_eq_false_iff_ne.mpr v] at y;refine (lp (.t [.int (n.fmod 10 -1),.int 1]) p ?_ z u (ct (n:=1) (fX 88 (.d (.int n)) (.ol p) bQ) {(ac 1) with cm:=λU U U=>some false} (.cons a (.cons q (.cons y .nil))) ⋯));rw [Vb];exact o9 _ (xm (yi ⟨b.1,VA b.2 w v⟩))
def us(u:V):Prop:=u= .u\/∃d,u= .d d
def vB:List S:=match b_law_value with
 | [_,_,_,_,_,.for _ _ _ b,_,_,_]=>b
 | _=>[]
def kO(R acc:List D)(k p:Int)(u4 q:V):Fr:=[.ol R,.d (.int k),.d (.int p),.ol acc,u4,q,.u]
def lJ(k n:Int):D:=if n==8 then .none else if k==4 then .int (n -3) else if k==5 then .int (n.fmod 2) else if k==6 then (if n.fmod 2==0 then .t [.int (n.fdiv 2),.int 1] else .t [.int n,.int 2]) else .int (n.fmod 2+1)
def qS:List Int:=[0,1,2,3,4,5,6,7,8]
theorem DZ{n:Int}(h:0<=n/\n< 9):n∈qS:=yi h
def wV(k:Int):List D:=if k==4 then wt else if k==5 then wu else if k==6 then wr else domF
theorem VF(R acc:List D)(p:Int)(u4:V):(cN [4,5,6,7] λk=>cN qS λn=>fT (dy bQ (ac 0).l 0) (ac 0).l vB.tail (kO R acc k p u4 (.d (.int n))) (λc f=>(c,f)=(.next,kO R (acc++[lJ k n]) k p u4 (.d (.int n)))) (λU=>False))=cN [4,5,6,7] λk=>cN qS λn=>cj [hZ .append [lJ k n] acc=some (.none,acc++[lJ k n])] ((h4,kO R (acc++[lJ k n]) k p u4 (.d (.int n)))=(h4,kO R (acc++[lJ k n]) k p u4 (.d (.int n)))):=⋯
def vIx(k n:Int):Nat:=if k==4 then n.toNat else if k==6 then n.toNat else if n==8 then 2 else (n.fmod 2).toNat
theorem v_dom:(cN [4,5,6,7] λk=>cN qS λn=>(wV k)[vIx k n]? =some (lJ k n))=cN [4,5,6,7] λk=>cN qS λn=>some (lJ k n)=some (lJ k n):=⋯
theorem SM{kd n:Int}(k:kd∈[4,5,6,7])(hn:n∈qS):lJ kd n∈wV kd:=by have h:=kg (kg (v_dom.symm▸ki (λU U=>ki λU U=>rfl)) kd k) n hn;exact kR h
theorem pi:us (.d d):=.inr ⟨d,rfl⟩
theorem XZ(h:us u):nk u:=by
 rcases h with rfl | ⟨d,rfl⟩
 .exact dC
 exact dH
theorem VG(h:Rw R)(x:R.length<=2000){q y:Int}(I:q∈[4,5,6,7])(g:0<=y)(hn:y<=3):∃(i acc:List D) (u4 r:V),Rw i/\i.length<=2000/\acc.length<=3/\(∀w∈acc,w∈wV q)/\us u4/\us r/\de 3 (.for [4] true (.v 2) vB) (kO R [] q y .u .u) (kO i acc q y u4 r):=by
 obtain ⟨s,⟨o,c,j,Q,Y,M⟩,H⟩:=we (K:=3) (xs:=[4]) (it:=.v 2) (f:=kO R [] q y .u .u) (p:=.int y) (rg:=true) (ds:=cT y) (s0:=(R,[],.u,.u)) (λ(s:List D×List D×V×V)=>kO s.1 s.2.1 q y s.2.2.1 s.2.2.2) (λk s=>Rw s.1/\s.1.length<=2000/\s.2.1.length=k/\(∀w∈s.2.1,w∈wV q)/\us s.2.2.1/\us s.2.2.2) ⟨h,x,rfl,(λU h=>by cases h),Or.inl rfl,Or.inl rfl⟩ (λm U=>rfl) rfl (g8 (k:=3) (tX g hn)) λk s d ⟨o,c,j,Q,Y,M⟩ A=>by
  obtain ⟨R1,acc,u4,r⟩:=s;refine c0 (mc o c) λn t O C a=>?_;have N:k< 3:=by have:=(gS.mp A).1;unfold cT at this;simp at this;exact a0f g hn this
  have b:=kj n (k:=9);refine (d6 (t,acc++[lJ q (n.fmod 9)],.d d,.d (.int (n.fmod 9))) (kO R1 acc q y (.d d) r) ⟨O,C,by rw [ey,j];rfl,?_,pi,pi⟩ ?_ (λm G=>?_))
  .intro w z;rcases mZ.mp z with z | z
   .exact Q w z
   rw [fh.mp z];exact SM I (DZ b)
  .rcases Y with rfl | ⟨e,rfl⟩<;>rfl
  have B:exs (b6 fns m) [.a 5 (.b .mod (.cb 88 0 []) (.int 9))] (kO R1 acc q y (.d d) r)= .ok (.next,kO t acc q y (.d d) (.d (.int (n.fmod 9)))):=by rcases M with rfl | ⟨e,rfl⟩<;>exact bT (n:=1) (fX 88 (.d (.int n)) (.ol t) bQ) (ac 1) (.cons a .nil) ⋯ m (by show 1+1<=m;exact c5 G rfl)
  exact (jH (b:=vB.tail) B).trans (vM bQ (ac 0).l (kg (kg ((VF t acc y (.d d)).symm▸ki (λU U=>ki λU U=>lw rfl (.cons (fL (n:=3) (by rw [j];exact N)) .nil))) q I) (n.fmod 9) (DZ b)) rfl m (by show 0+0<=m;exact c5 G rfl))
 refine ⟨s.1,s.2.1,s.2.2.1,s.2.2.2,o,c,?_,Q,Y,M,H⟩;rw [j];unfold cT;simp;exact a0g g hn
def It:List S:=b_law_value.drop 2
theorem a0D{k q:Int}{R R1 p:List D}(a0:At 1 88 [.ol R] (.ok (.d (.int k),.ol R1)))(z:At 1 88 [.ol R1] (.ok (.d (.int q),.ol p)))(h:∀m,7<=m->exs (b6 fns m) It [.ol p,.d (.int (k.fmod 8)),.d (.int (q.fmod 4)),.u,.u,.u,.u]= .ok (.ret v,.ol R3::f)):At 8 91 [.ol R] (.ok (v,.ol R3)):=by refine At.body rfl rfl (λm y=>?_) rfl (f':=.ol R3::f);have w:exs (b6 fns m) [.a 1 (.b .mod (.cb 88 0 []) (.int 8))] [.ol R,.u,.u,.u,.u,.u,.u]= .ok (.next,[.ol R1,.d (.int (k.fmod 8)),.u,.u,.u,.u,.u]):=bT (fX 88 (.d (.int k)) (.ol R1) bQ) (ac 1) (.cons a0 .nil) ⋯ m (by show 1+1<=m;exact c5 y rfl);have r:exs (b6 fns m) [.a 2 (.b .mod (.cb 88 0 []) (.int 4))] [.ol R1,.d (.int (k.fmod 8)),.u,.u,.u,.u,.u]= .ok (.next,[.ol p,.d (.int (k.fmod 8)),.d (.int (q.fmod 4)),.u,.u,.u,.u]):=bT (n:=1) (fX 88 (.d (.int q)) (.ol p) bQ) (ac 1) (.cons z .nil) ⋯ m (by show 1+1<=m;exact c5 y rfl);exact (jH (b:=b_law_value.tail) w).trans ((jH (b:=It) r).trans (h m y))
def vO(acc:List D)(k a:D):V:=.oi 0 [0,1,2,3,4] [.d k,.d (.l acc),.d a,.d (.bool false),.d (.bool false)]
theorem PG(h:Rw R)(B:R.length<=2000):∃(v:V) (d:D) (ws:List D) (nd:D) (A:V) (s:List D),frz v=some d/\Val d ws nd A/\Rw s/\s.length<=2000/\At 8 91 [.ol R] (.ok (v,.ol s)):=by
 refine c0 (mc h B) λI R1 O C a=>c0 (mc O C) λG N Q Y b=>?_;have k0:=kj I (k:=8);have k1:=kj G (k:=4);have p:=λv (f:Fr) (R3:List D)=>a0D a b (v:=v) (f:=f) (R3:=R3);clear a b;generalize I.fmod 8=e at *;generalize G.fmod 4=q at *;by_cases k3:e< 3
 .refine gq (D7 Q Y k1.1 (uQ k1.2)) λys R3 t c1 r j o=>xA o λi c=>(pV _ _ ys (match t with | true=>.l (gg ys.length) | false=>.none) (.d (.l ys)) R3 (Od ys q t) ?_ j i (p (qT ys q t) [.d (.int e),.d (.int q),.u,.u,.u,.u] R3 (bT (n:=1) (fX 90 (qT ys q t) (.ol R3) bQ) {(ac 6) with cm:=λU U U=>some true} (.cons (show cZ .lt (.int e) (.int 3)=some true from congrArg some (decide_eq_true k3)) (.cons c .nil)) (by clear o c;induction t using dj<;>kernel_rfl))));have g:ys.length<=3:=(HG k1 c1);induction t with
  | true=>show Val (.y CH (.l ys) (eY q.toNat)) _ _ _;rw [<-c1];exact .nm g r
  | false=>exact .ch g r
 by_cases M:e=3
 .clear k0 k3;subst M;exact (pV (.oi 1 [0,2] [.d (.str oP),.d .none]) _ _ _ _ N rfl .nul Q Y (p _ [.d (.int 3),.d (.int q),.u,.u,.u,.u] N (bT (n:=1) bQ (ac 6) .nil ⋯)))
 have z:=O9 k0.2 k3 M;refine sG (VG Q Y z k1.1 (uQ k1.2)) λR3 acc u4 w c1 r j o=>pk o λi U U c=>?_;have l:=fG (show de 6 _ _ _ from λm H=>c m (c5 H rfl)) .nil;clear c k3 M k0;rcases dp.mp z with rfl | z
 .exact (pV (vO acc (.str dv) .none) _ _ _ _ R3 rfl (.ot (κ:=⟨(.str dv),wt,x5⟩) (by simp [kds]) j i) c1 r (p _ [.d (.int 4),.d (.int q),.d (.l acc),u4,w,.u] R3 (bT (n:=1) bQ ((ac 6).loop [(0,.ol R3),(3,.ol acc),(4,u4),(5,w)]) l ⋯)))
 rcases dp.mp z with rfl | z
 .exact (pV (vO acc (.str dJ) .none) _ _ _ _ R3 rfl (.ot (κ:=⟨(.str dJ),wu,x6⟩) (by simp [kds]) j i) c1 r (p _ [.d (.int 5),.d (.int q),.d (.l acc),u4,w,.u] R3 (bT (n:=1) bQ ((ac 6).loop [(0,.ol R3),(3,.ol acc),(4,u4),(5,w)]) l ⋯)))
 rcases dp.mp z with rfl | z
 .exact (pV (vO acc (.str iQ) .none) _ _ _ _ R3 rfl (.ot (κ:=⟨(.str iQ),wr,x4⟩) (by simp [kds]) j i) c1 r (p _ [.d (.int 6),.d (.int q),.d (.l acc),u4,w,.u] R3 (bT (n:=1) bQ ((ac 6).loop [(0,.ol R3),(3,.ol acc),(4,u4),(5,w)]) l ⋯)))
 rw [fh] at z;clear o;subst z;exact (pV (.oi 0 [0,1,2,3,4] [.d (.str dv),.d (.l acc),.od [tj,vW] [.y CH (.l [.str [108,111],.str oQ]) .none,.y CH (.l [.str qA]) .none],.d (.bool false),.d (.bool false)]) _ _ _ _ R3 rfl (.fc j i) c1 r (p _ [.d (.int 7),.d (.int q),.d (.l acc),u4,w,.u] R3 (bT (n:=1) bQ ((ac 6).loop [(0,.ol R3),(3,.ol acc),(4,u4),(5,w)]) l ⋯)))
theorem Rw.app(h:Rw R)(n:Int):Rw (R++[.int n]):=λd k=>by
 rcases mZ.mp k with k | k
 .exact h d k
 exact ⟨n,fh.mp k⟩
def rB:List S:=match b_law_row with
 | [_,.for _ _ _ b,_,_,_]=>b
 | _=>[]
def rC:List S:=match rB with
 | [_,_,_,.for _ _ _ b]=>b
 | _=>[]
def jj(xs acc:List D)(k p u4:V):Fr:=[.d (.l xs),.ol acc,k,p,u4]
theorem Ee{xs:List D}{n:Int}(l:xs.length<=2000)(k:0<=n)(p:bV 0 e f (v,f'))(y:frz v=some (.l xs)):bV 0 (.slice e none (some (.int n))) f (.ol (xs.take n.toNat),f'):=λm q=>by show bt (ev (b6 fns m) e f) _=_;rw [p m q];show bt (match frz v with | some d=>dS (d,f') | none=>.x) _=_;rw [y];show bt (cg (cG (decide (0<=n)&&cL xs.length) (some (k9 (xs.take n.toNat))))) _=_;rw [show decide (0<=n)=true from decide_eq_true k,show cL xs.length=true from decide_eq_true (cW l (show 2000<=df by decide))];rfl
theorem gy(h:ex G s f= .ok (.next,f1)):exs G [s] f= .ok (.next,f1):=by show bt (ex G s f) _=_;rw [h];rfl
theorem Vg{xs acc:List D}{c:D}{n:Int}{u4:V}(j:Rw acc)(hn:acc.length<=1300)(r:us u4):∃(p:List D) (g:Int) (z:V),Rw p/\p.length<=acc.length+30/\us z/\de 2 (.for [4] true (.int 30) rC) (jj xs acc (.d c) (.d (.int n)) u4) (jj xs p (.d c) (.d (.int g)) z):=by
 obtain ⟨s,⟨u,y,v⟩,t⟩:=we (xs:=[4]) (b:=rC) (it:=.int 30) (ds:=cT 30) (s0:=(acc,n,u4)) (λ(s:List D×Int×V)=>jj xs s.1 (.d c) (.d (.int s.2.1)) s.2.2) (λk s=>Rw s.1/\s.1.length<=acc.length+k/\us s.2.2) ⟨j,fj _,r⟩ (λm U=>rfl) rfl (g8 (k:=30) ∅) λk s d ⟨u,y,v⟩ i=>by
  obtain ⟨R1,q,o⟩:=s;have f:k< 30:=by have:=(gS.mp i).1;unfold cT at this;simpa using this
  by_cases w:0< q
  .refine (d6 (R1++[.int (q.fmod 1024)],q.fdiv 1024,.d d) (jj xs R1 (.d c) (.d (.int q)) (.d d)) ⟨u.app _,by rw [ey,pF];show R1.length+1<=_;have:R1.length<=acc.length+k:=y;exact a0h this,pi⟩ (by rcases v with rfl | ⟨e,rfl⟩<;>rfl) (bT (n:=2) bQ {(ac 0).l with cm:=λU U U=>some true} (.cons (show cZ .gt (.int q) (.int 0)=some true from congrArg some (decide_eq_true w)) (.cons (fL (xs:=R1) (d:=.int (q.fmod 1024)) (n:=2000) (by have:R1.length<=acc.length+k:=y;exact a0i hn f this)) .nil)) ⋯))
  exact (d6 (R1,q,.d d) (jj xs R1 (.d c) (.d (.int q)) (.d d)) ⟨u,dX y,pi⟩ (by rcases v with rfl | ⟨e,rfl⟩<;>rfl) (bT (n:=2) bQ {(ac 0).l with cm:=λU U U=>some false} (.cons (show cZ .gt (.int q) (.int 0)=some false from congrArg some (decide_eq_false w)) .nil) ⋯))
 refine (lb s.1 s.2.1 s.2.2 u ?_ v t);have:(cT 30).length=30:=by simp [cT]
 exact a0j y this
theorem S7{xs acc:List D}{i:Int}(hn:acc.length<=1300)(p:us z):∃n y:Int,∀m,2<=m->exs (b6 fns m) (rB.take 3) (jj xs acc (.d (.int i)) z u4)= .ok (.next,jj xs (acc++[.int y]) (.d (.int i)) (.d (.int n)) u4):=by
 by_cases q:0<=i
 .refine (ix (i.fdiv 1024) (i.fmod 1024) (λm k=>?_));have l:=fG (congrArg some (decide_eq_true q)) (.cons (fL (d:=.int (i.fmod 1024)) (HH hn)) .nil);rcases p with rfl | ⟨e,rfl⟩<;>exact bT (n:=2) bQ {(ac 0).l with cm:=λU U U=>some true} l ⋯ m k
 refine (ix ((7 -i).fdiv 1024) ((7 -i).fmod 1024) (λm k=>?_));have l:=fG (congrArg some (decide_eq_false q)) (.cons (fL (d:=.int ((7 -i).fmod 1024)) (n:=2000) (HH hn)) .nil);rcases p with rfl | ⟨e,rfl⟩<;>exact bT (n:=2) bQ {(ac 0).l with cm:=λU U U=>some false} l ⋯ m k
theorem Vk{xs:List D}(h:xs.length<=2000):hZ .reverse [] xs=some (.none,xs.reverse):=by show cG (([]:List D).isEmpty&&cL xs.length) (some (ox,xs.reverse))=_;rw [show cL xs.length=true from decide_eq_true (cW h (show 2000<=df by decide))];rfl
theorem Vm{xs:List D}(A:Rw xs)(j:xs.length<=63):∃R:List D,Rw R/\R.length<=2000/\At 7 87 [.d (.l xs)] (.ok (.ol R,.u)):=by
 obtain ⟨s,⟨Q,z,N,I,G⟩,B⟩:=we (K:=4) (xs:=[2]) (it:=.slice (.v 0) none (some (.int 40))) (f:=jj xs [] .u .u .u) (v:=.ol (xs.take 40)) (p:=.l (xs.take 40)) (rg:=false) (ds:=xs.take 40) (s0:=([],.u,.u,.u)) (λ(s:List D×V×V×V)=>jj xs s.1 s.2.1 s.2.2.1 s.2.2.2) (λk s=>Rw s.1/\s.1.length<=31*k/\us s.2.1/\us s.2.2.1/\us s.2.2.2) ⟨(λU h=>by cases h),fj _,Or.inl rfl,Or.inl rfl,Or.inl rfl⟩ (λm y=>Ee (e:=.v 0) (v:=.d (.l xs)) (dh j rfl) ∅ (λm U=>rfl) rfl m (c5 y rfl)) rfl (j9 (n:=40) (by simp;exact a0k j)) λk s d ⟨Q,z,N,I,G⟩ t=>by
  obtain ⟨acc,r,w,u4⟩:=s;have O:k< 40:=by have:=(gS.mp t).1;rw [xw] at this;exact a0l j this
  refine xE (A d (IQ (kR t))) λi ρ=>?_;clear t;subst ρ;have z:acc.length<=31*k:=z;refine fY (S7 (xs:=xs) (acc:=acc) (i:=i) (u4:=u4) (a0m O z) I) λn n1 g=>gq (Vg (xs:=xs) (acc:=acc++[.int n1]) (c:=.int i) (n:=n) (u4:=u4) (Rw.app Q _) (by rw [ey,pF];exact a0n O z) G) λq x Y c1 M C o=>?_;rw [ey,pF] at M;refine (d6 (q,.d (.int i),.d (.int x),Y) (jj xs acc (.d (.int i)) w u4) ⟨c1,by show q.length<=_;exact a0o z M,pi,pi,C⟩ (by rcases N with rfl | ⟨e,rfl⟩<;>rfl) (λm y=>(eJ (a:=rB.take 3) (b:=[.for [4] true (.int 30) rC]) (g m (c5 y rfl))).trans ?_));show bt (ex (b6 fns m) _ _) _=_;rw [o m (c5 y rfl)];rfl
 obtain ⟨acc,r,w,u4⟩:=s;have hn:acc.length<=1240:=by have:acc.length<=_:=z;rw [xw] at this;exact Xq j this
 have H:(acc.take 160).length<=2000:=by rw [xw];exact Xr hn
 refine (cF ((acc.take 160).reverse) (λd t=>Q d (IQ (IY.mp t))) (by rwa [List.length_reverse]) (At.body (K:=6) (f':=[.d (.l xs),.u,r,w,u4]) rfl rfl (λm y=>?_) rfl));have g:exs (b6 fns m) (b_law_row.take 2) [.d (.l xs),.u,.u,.u,.u]= .ok (.next,jj xs acc r w u4):=(jH (s:=.a 1 (.list [])) (f1:=jj xs [] .u .u .u) rfl).trans (gy (B m (c5 y rfl)));refine (eJ (a:=b_law_row.take 2) (b:=b_law_row.drop 2) g).trans ?_;have o:exs (b6 fns m) [.a 1 (.slice (.v 1) none (some (.int 160)))] (jj xs acc r w u4)= .ok (.next,jj xs (acc.take 160) r w u4):=by refine gy ?_;show bt (ev (b6 fns m) _ _) _=_;rw [Ee (xs:=acc) (f':=[.d (.l xs),.d (.l acc),r,w,u4]) (dh hn rfl) ∅ (λm U=>rfl) rfl m (c5 y rfl)];rfl
 refine (jH o).trans (bT (n:=2) bQ {(ac 0).l with lm:=λU U xs=>some (.none,xs.reverse)} (.cons (Vk H) .nil) ⋯ m (by show 0+2<=m;exact c5 y rfl))
section
theorem NY(x:a6):rR (.str x) (.str x)=true:=by simp [rR]
theorem NX(x:Int):rR (.int x) (.int x)=true:=by simp [rR]
mutual
theorem DL:∀d:D,rR (kM d) (kM d)=true
 | .none=>rfl
 | .bool _=>rfl
 | .int i=>NX i
 | .str s=>NY (SS s)
 | .t xs=>eqvs_self xs
 | .l xs=>eqvs_self xs
 | .dct _ _=>rfl
 | .y _ _ _=>rfl
 | .nul _ _=>rfl
 | .fn _=>rfl
 | .clo _ _=>rfl
theorem eqvs_self:∀xs:List D,PyData.eqvAll (toPs xs) (toPs xs)=true
 | []=>rfl
 | x::xs=>gY.mpr ⟨DL x,eqvs_self xs⟩
end
theorem DK(h:nJ d=true):mH d d=some true:=by
 have e:wQ d d=true:=DL d;unfold mH;rw [h,e];induction d using c7 with
 | l xs=>clear h e;induction xs using bO<;>rfl
 | _=>rfl
theorem ma(h:nJ d=true):cZ .ne d d=some false:=by show (mH d d).map _=_;rw [DK h];rfl
def gw(ys:List D):Prop:=∀y∈ys,lz y=true
theorem Uh(h:lz y=true):∀n,fS n y=true:=by intro n;induction y using c7<;>first | (induction n using gF<;>rfl) | injection h
theorem FS(h:∀y∈ys,fS n y=true):fS (n+1) (.l ys)=true:=dM.mpr h
theorem jc(h:gw ys)(n:Nat):fS (n+1) (.l ys)=true:=FS λy k=>Uh (h y k) n
theorem km(p:fS 7 a=true)(q:fS 7 b=true):nJ (.t [.str k,a,b])=true:=by show (fS 7 (.str k)&&(fS 7 a&&(fS 7 b&&true)))=true;rw [p,q];rfl
theorem EK(n:Nat):gw (gg n):=λy k=>by refine a5 (cM.mp k) λi U p=>?_;clear k;subst p;rfl
theorem lY{p:Type}{ws:List p}{F:p->D}(h:∀w∈ws,lz (F w)=true):gw (ws.map F):=λy k=>by refine a5 (cM.mp k) λw q z=>?_;clear k;subst z;exact h w q
variable {v:D}{ws:List D}{nd:D}{Y:V}
theorem Val.aI(k:Val v ws nd Y):fS 7 nd=true:=by
 induction k with
 | nm=>exact jc (EK _) 6
 | _=>rfl
section
variable {K g:Nat}{rows:D}
abbrev bW(k:D)(ys:List D)(n:D):D:=.t [k,.l ys,n]
theorem EE(h:ex G s f=o)(k:o.bind (λr=>match r.1 with
  | .next=>exs G b r.2
  | c=>.ok (c,r.2))=o):exs G (s::b) f=o:=(congrArg (λo=>bt o _) h).trans k
def jR(g:Nat)(rows:D)(v:V):Fr:=[.d (.fn g),.d rows,v,.u,.u]
theorem DD(k:g< dP):ev G (.cv (.v 0) [.none,.v 1,.none]) (jR g rows .u)=(G g [.d .none,.d rows,.d .none]).bind λs=>.ok (s.1,jR g rows .u):=by show (if g< dP then (G g [.d .none,.d rows,.d .none]).bind λs=>dS (s.1,jR g rows .u) else .x)=_;rw [if_pos k]
theorem D9(y:g< dP)(a:At K g [.d .none,.d rows,.d .none] (.ok (u,.u)))(q:∀p,p->fw u p)(h:∀m,K<=m->exs (b6 fns m) b_law_asked.tail (jR g rows u)= .ok (.ret r,f)):At (K+1) 94 [.d (.fn g),.d rows] (.ok (r,.u)):=by
 refine At.body (f':=f) rfl rfl (λm k=>?_) rfl;have e:ex (b6 fns m) (.tryA 2 (.cv (.v 0) [.none,.v 1,.none])) (jR g rows .u)= .ok (.next,jR g rows u):=by
  show (match ev (b6 fns m) (.cv (.v 0) [.none,.v 1,.none]) (jR g rows .u) with
  | .ok r=>(eh r).bind λr=>(put r.2 2 r.1).bind λf=>dS (h4,f)
  | .err m=>if cI m then .ok (.ret (.d (.str m)),(jR g rows .u).map λU=>.u) else .x
  | .x=>.x)=_
  rw [DD y,a m k];have:=q True trivial;clear a q h;induction u using bS<;>first | exact this.elim | rfl
 exact (jH (gy e)).trans (h m k)
theorem sk(k:g< dP)(a:At K g [.d .none,.d rows,.d .none] (.ok (u,.u)))(q:∀p,p->fw u p)(h:fT (dy bQ (ac 0) 0) (ac 0) b_law_asked.tail (jR g rows u) (λc f'=>(c,f')=(.ret r,f)) (λU=>False)=((rY r,f)=(rY r,f))):At (K+1) 94 [.d (.fn g),.d rows] (.ok (r,.u)):=D9 k a q λm U=>vM bQ (ac 0) rfl h m (dR m)
theorem l6(k:g< dP)(a:At K g [.d .none,.d rows,.d .none] (.err t))(q:cI t=true):At (K+1) 94 [.d (.fn g),.d rows] (.ok (.d (.str t),.u)):=by
 refine At.body (f':=[.u,.u,.u,.u,.u]) rfl rfl (λm p=>?_) rfl;have e:ex (b6 fns m) (.tryA 2 (.cv (.v 0) [.none,.v 1,.none])) (jR g rows .u)= .ok (.ret (.d (.str t)),[.u,.u,.u,.u,.u]):=by
  show (match ev (b6 fns m) (.cv (.v 0) [.none,.v 1,.none]) (jR g rows .u) with
  | .ok r=>(eh r).bind λr=>(put r.2 2 r.1).bind λf=>dS (h4,f)
  | .err m=>if cI m then .ok (.ret (.d (.str m)),(jR g rows .u).map λU=>.u) else .x
  | .x=>.x)=_
  rw [DD k,a m p];show (if cI t then _ else _)=_;rw [if_pos q];rfl
 exact EE e rfl
def qZ(g:Nat)(rows:D)(u:V)(n:D):Fr:=[.d (.fn g),.d rows,u,.d n,.u]
theorem l7(q:g< dP){k:Tx}(p:k∈[cJ,dJ,dv]){ys:List D}(a:At K g [.d .none,.d rows,.d .none] (.ok (cP (.str k) ys,.u))):At (K+1) 94 [.d (.fn g),.d rows] (.ok (.d (bW (.str k) ys .none),.u)):=by
 refine sk (f:=qZ g rows (cP (.str k) ys) .none) q a (λU h=>h) ?_;clear a;rcases dp.mp p with rfl | p
 .kernel_rfl
 rcases dp.mp p with rfl | p
 .kernel_rfl
 rw [fh.mp p];kernel_rfl
theorem Np(k:g< dP)(a:At K g [.d .none,.d rows,.d .none] (.ok (.d (cv ys (eY n)),.u))):At (K+1) 94 [.d (.fn g),.d rows] (.ok (.d (bW CH ys (.l (gg n))),.u)):=sk (f:=qZ g rows (.d (cv ys (eY n))) (.l (gg n))) k a (λU h=>h) ⋯
theorem No(k:g< dP)(a:At K g [.d .none,.d rows,.d .none] (.ok (.d (cv ys .none),.u))):At (K+1) 94 [.d (.fn g),.d rows] (.ok (.d (bW CH ys .none),.u)):=sk (f:=qZ g rows (.d (cv ys .none)) .none) k a (λU h=>h) ⋯
theorem oB(z:Val v ws nd Y){ys:List D}(p:g< dP)(a:At K g [.d .none,.d rows,.d .none] (.ok (iq v ys,.u))):At (K+1) 94 [.d (.fn g),.d rows] (.ok (.d (bW CH ys nd),.u)):=by
 have q:∀κ∈kds,∀i,iq (.y κ.k i .none) ys=cP CH ys:=λκ q i=>kb (P:=λκ=>iq (.y κ.k i .none) ys=cP CH ys) rfl rfl rfl κ q;induction z with
 | ch=>exact No p a
 | nm=>exact Np p a
 | ot h=>rw [q _ h] at a;exact l7 p (.head _) a
 | _=>exact l7 p (.head _) a
theorem Nq(p:Val v ws nd Y)(s:Shq v){ys:List D}(k:g< dP)(a:At K g [.d .none,.d rows,.d .none] (.ok (B9 ys v,.u))):At (K+1) 94 [.d (.fn g),.d rows] (.ok (.d (bW (.str dv) ys nd),.u)):=by
 induction p with
 | @nm w U U=>exact sk (f:=qZ g rows (B9 ys (cv w (eY w.length))) (.l (gg w.length))) k a (λU h=>h) ⋯
 | fc=>cases s
 | _=>exact l7 k (.tail _ (.tail _ (.head _))) a
theorem Nr(k:g< dP)(h:ys.length=n)(a:At K g [.d .none,.d rows,.d .none] (.ok (u7 ys n,.u))):At (K+1) 94 [.d (.fn g),.d rows] (.ok (.d (bW CH ys (.l (gg n))),.u)):=by unfold u7 at a;rw [if_pos (beq_iff_eq.mpr h)] at a;exact sk (f:=qZ g rows (.oi 0 [0,1,2,3,4] [.d CH,.d (.l ys),.d (eY n),.d (.bool false),.d (.bool false)]) (.l (gg n))) k a (λU h=>h) ⋯
theorem Nt(k:g< dP){n:Nat}(h:ys.length≠n)(a:At K g [.d .none,.d rows,.d .none] (.ok (u7 ys n,.u))):At (K+1) 94 [.d (.fn g),.d rows] (.ok (.d (bW CH ys .none),.u)):=by unfold u7 at a;rw [if_neg (by simpa using h)] at a;exact l7 k (.head _) a
def uc(d:D):D:=match d with
 | .y _ i _=>i
 | _=>.none
theorem Ul{u:V}{n:D}(q:ds.length<=4)(k:∀d∈ds,∃l,d= .y CH (.l l) .none)(f:Fr)(a:D):bV 0 (.comp (.f 4 1) [4] false (.f 2 1) none) [.d (.fn g),.d rows,.d (.y (.str eV) (.l ds) a),.d n,.u] (.ol (ds.map uc),[.d (.fn g),.d rows,.d (.y (.str eV) (.l ds) a),.d n,.u]):=qg (λu=>[.d (.fn g),.d rows,.d (.y (.str eV) (.l ds) a),.d n,u]) (λu d p=>by induction u using bS<;>first | rfl | exact absurd rfl (p _)) (λu=>rfl) (λm U=>rfl) rfl (j9 q) λd h=>by refine xE (k d h) λl z=>?_;clear h;subst z;exact λm U=>rfl
theorem Nu(z:g< dP){ds:List D}(w:ds.length<=4)(q:∀d∈ds,∃l,d= .y CH (.l l) .none){a n:D}(p:(a= .none/\n= .none)\/∃k,a=eY k/\n= .l (gg k))(h:At K g [.d .none,.d rows,.d .none] (.ok (.d (.y (.str eV) (.l ds) a),.u))):At (K+1) 94 [.d (.fn g),.d rows] (.ok (.d (bW (.str eV) (ds.map uc) n),.u)):=by
 refine D9 (f:=qZ g rows (.d (.y (.str eV) (.l ds) a)) n) z h (λU h=>h) λm r=>?_;have c:=Ul (g:=g) (rows:=rows) (u:=.u) (n:=n) w q [] a;clear h;rcases p with ⟨rfl,rfl⟩ | ⟨k,rfl,rfl⟩
 .exact bT (n:=0) bQ ((ac 0).comp (.ol (ds.map uc))) (.cons c .nil) ⋯ m (dR m)
 exact bT (n:=0) bQ ((ac 0).comp (.ol (ds.map uc))) (.cons c .nil) ⋯ m (dR m)
end
theorem G1(ws:List D)(F:D->D)(G:D->D)(h:∀i,G (.int i)=F (cC ws i)):(cT ws.length).map G=ws.map F:=by
 refine xt λk=>?_;rw [cT,kW,uJ,iV,iV];by_cases p:k< ws.length
 .rw [uG p,fD p];show some (G (.int k))=some (F _);rw [h];show some (F (ws.getD (k:Int).toNat .none))=_;rw [kW,fC,fD p];rfl
 rw [i6 (by simpa using p),i6 (by simpa using p)];rfl
end
def qV:Nat->List V->Fr
 | 0,_=>[]
 | n+1,[]=>.u::qV n []
 | n+1,v::l=>v::qV n l
def LF(xs R:List D)(l:List V):Fr:=.d (.l xs):: .ol R:: .d (.str fV)::qV 45 l
def Rk(R:List D):Prop:=Rw R/\R.length<=2000
theorem DA{f:Fr}{x:Nat}{u:V}(d:D)(p:nk u)(q:x< f.length):cE (f.set x u) [x] d=some (f.set x (.d d)):=by
 have e:rd (f.set x u) x=u:=by unfold rd;rw [fC,xl q];rfl
 show (match rd (f.set x u) x with
  | .k _=>none
  | _=>some ((f.set x u).set x (.d d)))=_
 rw [e,xy];clear e;induction u using bS with
 | k d=>exact absurd rfl (p d)
 | _=>rfl
theorem yv:∀(n:Nat) (l:List V),(qV n l).length=n
 | 0,_=>rfl
 | n+1,[]=>congrArg (·+1) (yv n [])
 | n+1,_::l=>congrArg (·+1) (yv n l)
theorem Fh(xs R:List D)(l:List V):(LF xs R l).length=48:=congrArg (·+3) (yv 45 l)
section
variable {xs R:List D}{K:Nat}{e:E}{f f' f2:Fr}
theorem tF(h:Rk R):∃(n:Int) (k:List D),Rk k/\∀l,bV 1 (.cb 88 1 []) (LF xs R l) (.d (.int n),LF xs k l):=by refine c0 (mc h.1 h.2) λn k p q a=>(dU n k ⟨p,q⟩ (λl m y=>?_));show bt (b6 fns m 88 [.ol R]) _=_;rw [a m y];rfl
theorem qR{n k:Int}(a:bV K e f (.d (.int n),f'))(p:(k !=0)=true:=by rfl):bV K (.b .mod e (.int k)) f (.d (.int (n.fmod k)),f'):=λm q=>by show bt (ev (b6 fns m) e f) _=_;rw [a m q];show bt (cg (cG (k !=0) (some (eA (.int (n.fmod k)))))) _=_;rw [p];rfl
theorem AW{n:Int}(a:bV K e f (.d (.int n),f')):bV K (.b .add (.int 1) e) f (.d (.int (1+n)),f'):=λm k=>by show bt (ev (b6 fns m) e f) _=_;rw [a m k];rfl
theorem GL{i:Int}(k:∀m f,evs (b6 fns m) es f= .ok (lits,f))(a:bV K e f (.d (.int i),f'))(p:0<=i)(q:i< lits.length)(y:lits.length<=100):bV K (.sub (.list es) e) f (.d (cC lits i),f'):=λm z=>by show bt (bt (evs (b6 fns m) es f) _) _=_;rw [k];show bt (ev (b6 fns m) e f) _=_;rw [a m z];show bt (cg (kI (.l lits) (.int i))) _=_;rw [ko p q y];rfl
theorem tZ{lits:List D}{k:Int}(q:∀m f,evs (b6 fns m) es f= .ok (lits,f))(y:k=lits.length)(u:0< k)(z:lits.length<=100)(h:Rk R):∃(d:D) (p:List D),d∈lits/\Rk p/\∀l,bV 1 (.sub (.list es) (.b .mod (.cb 88 1 []) (.int k))) (LF xs R l) (.d d,LF xs p l):=by refine cU (tF (xs:=xs) h) λn p v a=>?_;have b:=kj n u;exact (d6 (cC lits (n.fmod k)) p (jI b.1 (GD y b)) v (λl=>GL q (qR (a l) (by simp;exact Xs y u z)) b.1 (GD y b) z))
theorem jO(a:bV K e f (v,f'))(q:fw v True)(p:put f' x v= .ok f2):de K (.a x e) f f2:=λm k=>by show bt (ev (b6 fns m) e f) _=_;rw [a m k];clear a;induction v using bS<;>first | exact q.elim | (show bt (put f' x _) _=_;rw [p];rfl)
theorem draw{l:List V}{x:Nat}(Q:D->Prop)(i:x< 48)(v:∀s,(LF xs s l).set x .u=LF xs s l) {R1:List D} {n:Int} (h:Rk R1) (hn:0<=n/\n<=4) (z:bV K it (LF xs R l) (.d (.int n),LF xs R1 l)) (he:∀R d,Rk R->∃p w y,Rk p/\Q y/\frz w=some y/\bV K e ((LF xs R l).set x (.d d)) (w,(LF xs p l).set x (.d d))) : ∃p ys,Rk p/\ys.length=n.toNat/\(∀y∈ys,Q y)/\bV K (.comp e [x] true it none) (LF xs R l) (.ol ys,LF xs p l):=by
 refine oS (Fx (ds:=cT n) (λs u=>(LF xs s l).set x u) (λU s=>Rk s) Q h (λs u d j=>DA d j (by rw [Fh];exact i)) (λs u=>by show ((LF xs s l).set x u).set x .u=_;rw [xy]) (by rw [v];exact z) rfl (g8 (a0K hn)) λk s d hs U=>he s d hs) λs ys r t m q=>(lp s ys r (by rw [t];unfold cT;simp) m ?_);have q:=q
 rwa [v] at q
end
def bU(a b:Nat):List S:=(b_law.take b).drop a
def Vq(y:D):Prop:=∃ws nd k,Val y ws nd k
theorem QN{xs:List D}(G:Rw xs)(p:xs.length<=63):∃R p,Rk R/\p.length<=3/\(∀v∈p,Vq v)/\∀m,12<=m->exs (b6 fns m) (bU 0 3) (.d (.l xs)::qV 47 [])= .ok (.next,LF xs R [.ol p]):=by
 refine ck (Vm G p) λR M N a=>cU (tF (xs:=xs) ⟨M,N⟩) λn R1 I b=>?_;have k:=kj n (k:=4);obtain ⟨w,p,c1,r,t,j⟩:=draw (x:=31) (e:=.cb 91 1 []) Vq ∅ (λs=>rfl) I (n:=n.fmod 4) (Xu k) (λm q=>qR (b []) (k:=4) (by rfl) m (c5 q rfl)) λR d z=>by refine gv (PG z.1 z.2) λv y ws nd C=>hB C λO u i g o c Q=>(lb u v y ⟨o,c⟩ ⟨ws,nd,O,g⟩ i (λm q=>?_));show bt (b6 fns m 91 [.ol R]) _=_;rw [Q m q];rfl
 refine (lp w p c1 (HG k r) t (λm q=>?_));have Y:exs (b6 fns m) (bU 0 2) (.d (.l xs)::qV 47 [])= .ok (.next,LF xs R []):=bT (n:=1) (oI 87 (bR (.ol R))) (ac 7) (.cons a .nil) ⋯ m (by show 7+1<=m;exact c5 q rfl);exact (eJ (a:=bU 0 2) (b:=bU 2 3) Y).trans (gy (jO j trivial rfl m (c5 q rfl)))
theorem U4{K:Nat}{rg:Bool}{g:D->D}(F:V->Fr){ds:List D}(s:∀u d,nk u->cE (F u) [x] d=some (F (.d d)))(M:∀u,a0E (F u) [x]=F .u)(k:bV K it f (v,F .u))(I:frz v=some p)(N:dN rg p=some ds) (hs:∀d∈ds,∃w,frz w=some (g d)/\bV K e (F (.d d)) (w,F (.d d))):bV K (.comp e [x] rg it none) f (.ol (ds.map g),F .u):=λm i=>by
 have z:∀(es:List D) (u:V),nk u->(∀d∈es,d∈ds)->∃l,iO (λd f=>(cg (cE f [x] d)).bind λf=>(evTo (b6 fns m) none f).bind λt=>match t.1 with
   | true=>(ev (b6 fns m) e t.2).bind λr=>(fz r).bind λq=>.ok (some q.1,q.2)
   | false=>.ok (none,t.2)) es (F u)= .ok (es.map g,F l):=by
  intro es;induction es with
  | nil=>exact λu U U=>⟨u,rfl⟩
  | cons d es H=>refine λu G j=>xE (H (.d d) dH λy B=>j y (.tail _ B)) λl n=>a5 (hs d (j d (.head _))) λw C c=>⟨l,?_⟩;show bt (bt (cg (cE (F u) [x] d)) _) _=_;rw [s u d G];show bt (bt (ev (b6 fns m) e (F (.d d))) _) _=_;rw [c m i];show bt (bt (match frz w with | some d=>dS (d,_) | none=>.x) _) _=_;rw [C];show bt (iO _ es (F (.d d))) _=_;rw [n];rfl
 refine xE (z ds .u dC λd h=>h) λu h=>?_;show bt (ev (b6 fns m) it f) _=_;rw [k m i];show bt (match frz v with | some d=>dS (d,F .u) | none=>.x) _=_;rw [I];show bt (cg (dN rg p)) _=_;rw [N];refine (congrArg (λo=>bt o λq=>dS (k9 q.1,a0E q.2 [x])) h).trans ?_;show dS (k9 (ds.map g),a0E (F u) [x])=_;rw [M]
theorem kt{xs R:List D}{K x:Nat}{g:D->D}(z:x< 48)(p:(LF xs R l).set x .u=LF xs R l)(k:bV K it f (v,LF xs R l))(q:frz v=some (.l ds))(r:ds.length<=4) (hs:∀d∈ds,∃w,frz w=some (g d)/\bV K e ((LF xs R l).set x (.d d)) (w,(LF xs R l).set x (.d d))):bV K (.comp e [x] false it none) f (.ol (ds.map g),LF xs R l):=by
 have h:=U4 (λu=>(LF xs R l).set x u) (λu d y=>DA d y (by rw [Fh];exact z)) (λu=>by show ((LF xs R l).set x u).set x .u=_;rw [xy]) (by rw [p];exact k) q (j9 r) hs;have h:=h
 rwa [p] at h
section
variable {xs R Y:List D}(hn:Y.length<=3)(O:∀v∈Y,Vq v){b:Tx}(Q:b.length<=4){e:D}(he:e= .none\/∃s:Tx,e= .str s/\s.length<=4)
def Opt.aB(o:Opt)(x:Nat)(v:V)(l:List (Nat×V)):Opt:={o with co:=λxs f=>if xs==[x] then some (v,my l f) else none}
include hn in
theorem MY:bV 1 (.comp (.t [.none,.v 32]) [32] false (.v 3) none) (LF xs R [.ol Y,.d (.str b),.d e]) (.ol (Y.map λv=>.t [.none,v]),LF xs R [.d (.l Y),.d (.str b),.d e]):=kt ∅ rfl (λm U=>rfl) rfl (dh hn rfl) λd U=>(a7 _ rfl (λm U=>rfl))
include hn O in
theorem MX(rw:V):bV 6 (.comp (.call 92 [.v 33]) [33] false (.v 3) none) (LF xs R [.d (.l Y),.d (.str b),.d e,rw]) (.ol ((Y.map cA).map .l),LF xs R [.d (.l Y),.d (.str b),.d e,rw]):=by rw [uJ];refine kt ∅ rfl (λm U=>rfl) rfl (dh hn rfl) λd k=>qY (O d k) λws nd q h=>(a7 (.ol ws) (congrArg (λl=>some (dq l)) h.ws.symm) (λm p=>?_));show bt (b6 fns m 92 [.d d]) _=_;rw [yZ h m (c5 p rfl)];rfl
theorem Rt(h:mK n l):gw l:=λy k=>by refine a5 (h y k) λs p U=>?_;clear k;subst p;rfl
theorem Dr{R:Rows}(h:iy R)(hs:sep.length<=4)(he:e= .none\/∃s:Tx,e= .str s/\s.length<=4):gw (dE sep R e):=by
 rcases he with rfl | ⟨s,rfl,U⟩
 .exact Rt (si h hs).1
 exact λy k=>by rw [fh.mp k];rfl
abbrev A6(Y:List D)(b:Tx)(e:D):List V:=[.d (.l Y),.d (.str b),.d e,.ol (fu Y b e)]
abbrev A7(Y:List D)(b:Tx)(e:D):List V:=[.d (.l Y),.d (.str b),.d e,.d (.l (fu Y b e)),.d (f8 (Y.map cA)),cP CH (dE b (Y.map cA) e)]
include hn he in
theorem V6:∀m,2<=m->exs (b6 fns m) (bU 5 7) (LF xs R [.ol Y,.d (.str b),.d e])= .ok (.next,LF xs R (A6 Y b e)):=by
 have c:=MY (xs:=xs) (R:=R) hn (b:=b) (e:=e);have p:=yF (a:=Y.map λv=>D.t [.none,v]) (b:=[D.t [.str lu,c1 (.str b)]]) (n:=3) (k:=1) (by rw [cR];exact hn) (by simp);rcases he with rfl | ⟨s,rfl,U⟩
 .exact bT (n:=1) bQ {(ac 1).aB 32 (.ol (Y.map λv=>D.t [.none,v])) [(3,.d (.l Y))] with bn:=λU U U=>some (.ol (fu Y b .none))} (.cons c (.cons p .nil)) ⋯
 have q:hZ .append [D.t [.str oX,c1 (.str s)]] ((Y.map λv=>D.t [.none,v])++[D.t [.str lu,c1 (.str b)]])=some (.none,fu Y b (.str s)):=by rw [fL (xs:=_++_) (n:=8) (by rw [ey,cR,pF];exact Xv hn),jW];rfl
 exact bT (n:=1) bQ {(ac 1).aB 32 (.ol (Y.map λv=>D.t [.none,v])) [(3,.d (.l Y))] with bn:=λU U U=>some (.ol ((Y.map λv=>D.t [.none,v])++[D.t [.str lu,c1 (.str b)]])),lm:=λU U U=>some (.none,fu Y b (.str s))} (.cons c (.cons p (.cons q .nil))) ⋯
include hn O Q he in
theorem RU:∀m,36<=m->exs (b6 fns m) (bU 7 11) (LF xs R (A6 Y b e))= .ok (.next,LF xs R (A7 Y b e)):=by
 have z:∀v∈Y,Tv v:=λv h=>by exact qY (O v h) λws nd N h=>h.tv
 have p:=yu z hn;have q:=Dn z hn Q;have c:bV 34 _ _ _:=λm y=>MX (xs:=xs) (R:=R) hn O (b:=b) (e:=e) (.ol (fu Y b e)) m (c5 y rfl);have f:=(Mp z hn Q he).u 34;have o:=(Ds p Q he).u 34;have j:=ma (jc (Dr p Q he) 7);have w:mq .add (f8 (Y.map cA)) (.l [.l [.str b]])=some (.ol ((Y.map cA++[[iJ b]]).map dq)):=by rw [uI];exact yF (a:=(Y.map cA).map dq) (b:=[dq [iJ b]]) (n:=3) (k:=1) (by rw [cR,cR];exact hn) (fj 1)
 have s:=l7 (g:=68) ∅ (.head _) (LI z hn Q he);have M:=(Ds q (show ([]:Tx).length<=4 by decide) he).u 34;have i:cZ .ne (bW CH (dE [] (Y.map cA++[[.str b]]) e) .none) (bW CH (dE [] (Y.map cA++[[.str b]]) e) .none)=some false:=ma (km (jc (Dr q ∅ he) 6) rfl);clear z p q O hn Q he;have r:∀m,36<=m->exs (b6 fns m) (bU 7 10) (LF xs R (A6 Y b e))= .ok (.next,LF xs R (A7 Y b e)):=λm y=>bT (n:=1) (cH [(67,bR (cP CH (dE b (Y.map cA) e))),(95,bR (.ol (dE b (Y.map cA) e)))]) {(ac 34).aB 33 (.ol ((Y.map cA).map .l)) [] with cm:=λc a U=>match c,a with
  | .ne,.l _=>some false
  | _,_=>none} (.cons c (.cons f (.cons o (.cons j .nil)))) ⋯ m (by show 34+1<=m;exact c5 y rfl)
 refine λm y=>(eJ (a:=bU 7 10) (b:=bU 10 11) (r m y)).trans ?_;exact bT (n:=1) (cH [(94,bR (.d (bW CH (dE [] (Y.map cA++[[.str b]]) e) .none))),(95,bR (.ol (dE [] (Y.map cA++[[.str b]]) e)))]) {(ac 34) with bn:=λU U U=>some (.ol ((Y.map cA++[[iJ b]]).map dq)),cm:=λc a U=>match c,a with
  | .ne,.t _=>some false
  | _,_=>none} (.cons s (.cons w (.cons M (.cons i .nil)))) ⋯ m (by show 34+1<=m;exact c5 y rfl)
end
section
variable {xs R:List D}
theorem MT(h:Rk R)(hn:p.length<=3)(f:∀v∈p,Vq v):∃(u:List D) (b:Tx) (e:D),Rk u/\∀m,36<=m->exs (b6 fns m) (bU 3 11) (LF xs R [.ol p])= .ok (.next,LF xs u (A7 p b e)):=by
 refine c0 (tZ (xs:=xs) (es:=[.str [45],.str [],.str [44,32]]) (lits:=[.str [45],.str [],.str [44,32]]) (λU U=>rfl) rfl ∅ ∅ h) λd R1 r g t=>c0 (tZ (xs:=xs) (es:=[.none,.str [43],.str []]) (lits:=[.none,.str [43],.str []]) (k:=3) (λU U=>rfl) rfl ∅ ∅ g) λe w he o l=>?_;have z:∃b:Tx,d= .str b/\b.length<=4:=by simp only [dp,pG,or_false] at r;rcases r with rfl | rfl | rfl<;>exact ⟨_,rfl,∅⟩
 have he:e= .none\/∃s:Tx,e= .str s/\s.length<=4:=by
  simp only [dp,pG,or_false] at he;rcases he with rfl | rfl | rfl
  .exact .inl rfl
  all_goals exact .inr (a7 _ rfl ∅)
 obtain ⟨b,rfl,z⟩:=z;refine (eM w b e o (λm y=>?_));have j:exs (b6 fns m) (bU 3 4) (LF xs R [.ol p])= .ok (.next,LF xs R1 [.ol p,.d (.str b)]):=gy (jO (t _) trivial rfl m (c5 y rfl));have i:exs (b6 fns m) (bU 4 5) (LF xs R1 [.ol p,.d (.str b)])= .ok (.next,LF xs w [.ol p,.d (.str b),.d e]):=gy (jO (l _) trivial rfl m (c5 y rfl));exact (eJ (a:=bU 3 4) (b:=bU 4 11) j).trans ((eJ (a:=bU 4 5) (b:=bU 5 11) i).trans ((eJ (a:=bU 5 7) (b:=bU 7 11) (V6 hn he m (c5 y rfl))).trans (RU hn f z he m y)))
def d5(r:D):D:=.t [r,bN r]
theorem YY{P:D->D}{l:List D}:∀{ys:List D},(∀y∈ys,∃r∈l,y=P r)->∃rs:List D,ys=rs.map P/\∀r∈rs,r∈l:=by
 intro ys;induction ys with
 | nil=>exact λU=>(a7 [] rfl (λU h=>by cases h))
 | cons y ys u=>
  refine λh=>a5 (u λz k=>h z (.tail _ k)) λrs p w=>?_;clear u;subst p;refine a5 (h y (.head _)) λr t p=>?_;subst p;exact (a7 (r::rs) rfl (λz k=>by
   rcases dp.mp k with rfl | k
   .exact t
   exact w z k))
theorem SN{b:Tx}{e:D}(h:Rk R)(hn:r.length<=3)(k:∀v∈r,Vq v):∃(w:List D) (v:D) (ws:List D) (nd:D) (Y:V),Rk w/\Val v ws nd Y/\∀m,36<=m->exs (b6 fns m) (bU 11 14) (LF xs R (A7 r b e))= .ok (.next,LF xs w (A7 r b e++[.d v,.ol ws,.d nd])):=by
 rcases r with U | ⟨v,o⟩
 .refine gq (D7 h.1 h.2 (n:=2) ∅ ∅) λys w t c1 i s f=>xA f λQ c=>?_;have z:ys.length<=3:=by rw [c1];decide
  have k:∃nd,Val (B7 ys 2 t) ys nd (.d (.l ys)):=by
   clear f c;induction t with
   | true=>exact ⟨_,by show Val (.y CH (.l ys) (eY (2:Int).toNat)) _ _ _;rw [<-c1];exact .nm z i⟩
   | false=>exact ⟨_,.ch z i⟩
  refine xE k λnd k=>⟨w,B7 ys 2 t,ys,nd,.d (.l ys),⟨s,Q⟩,k,?_⟩;have l:=fG (c.u 30) (.cons ((yZ k).u 30) (.cons ((DY k).u 30) .nil));clear k c c1 i z;intro m j;clear f k;induction t with
  | true=>exact bT (fX 90 (qT ys 2 true) (.ol w) (cH [(92,bR (.ol ys)),(93,bR (.d nd))])) (ac 30) l ⋯ m (by show 30+1<=m;exact c5 j rfl)
  | false=>exact bT (fX 90 (qT ys 2 false) (.ol w) (cH [(92,bR (.ol ys)),(93,bR (.d nd))])) (ac 30) l ⋯ m (by show 30+1<=m;exact c5 j rfl)
 refine qY (k v (.head _)) λws nd Y p=>⟨R,v,ws,nd,Y,h,p,λm j=>?_⟩;have g:kI (.l (v::o)) (.int 0)=some v:=ko (n:=3) ∅ (by show (0:Int)< ((o.length+1:Nat):Int);exact Xw) hn;have l:=fG g (.cons ((yZ p).u 30) (.cons ((DY p).u 30) .nil));clear p k g;exact bT (n:=1) (cH [(92,bR (.ol ws)),(93,bR (.d nd))]) {(ac 30) with sb:=λU U=>some v} l ⋯ m (by show 30+1<=m;exact c5 j rfl)
end
abbrev H9(q:D×D×D×D×D×V)(v:D)(l:List V):List V:=.d q.1:: .d q.2.1:: .d q.2.2.1:: .d q.2.2.2.1:: .d q.2.2.2.2.1::q.2.2.2.2.2:: .d v::l
section
variable {xs R:List D}{q:D×D×D×D×D×V}{v:D}{ws:List D}{nd:D}{Y:V}
theorem F4{x:Nat}{k:Int}(O:x< 48)(I:∀s,(LF xs s l).set x .u=LF xs s l)(B:∀s u,((LF xs s l).set x u).headD .u= .d (.l xs))(w:0< k/\k<=4)(h:Rk R) (he:∀(R p:List D) (d:D) (y:D) m,b6 fns m 96 [.ol R]= .ok (.d y,.ol p)->ev (b6 fns m) (.cb 96 1 []) ((LF xs R l).set x (.d d))= .ok (.d y,(LF xs p l).set x (.d d))) : ∃(p:List D) (rs:List D),Rk p/\rs.length<=4/\rs≠[]/\(∀r∈rs,r∈plr)/\bV 2 (.comp (.cb 96 1 []) [x] true (.b .add (.int 1) (.b .mod (.cb 88 1 []) (.int k))) none) (LF xs R l) (.ol (rs.map d5),LF xs p l):=by
 refine cU (tF (xs:=xs) h) λn R1 G b=>?_;have c:=kj n w.1;obtain ⟨i,ys,c1,z,f,g⟩:=draw (λy=>∃r∈plr,y=d5 r) O I G (Xx w c) (λm t=>AW (qR (b l) (by simp;exact Xy w)) m (c5 t rfl)) λR d j=>by exact oS (P7 j.1 j.2) λr p e Q M N=>(lb p (.d (d5 r)) (d5 r) ⟨Q,M⟩ (a7 r e rfl) rfl (λm t=>he R p d _ m (N m t)))
 refine a5 (YY f) λrs C o=>?_;subst C;rw [cR] at z;exact (qi i rs c1 (Xz w c z) (by rintro rfl;simp at z;exact GG c z) o g)
abbrev DB:D:=(.str iQ)
def Hl:D->D
 | .t [r,_]=>r
 | _=>.none
theorem E6(l:rs.length<=4){L:List V}(w:x< 48)(z:(LF xs R L).set x .u=LF xs R L)(k:bV 2 (.v y) f (.d (.l (rs.map d5)),LF xs R L))(he:∀d r u,ev (b6 fns d) (.sub (.v x) (.int 0)) ((LF xs R L).set x (.d (.t [r,u])))= .ok (.d r,(LF xs R L).set x (.d (.t [r,u])))):bV 2 (.comp (.sub (.v x) (.int 0)) [x] false (.v y) none) f (.ol rs,LF xs R L):=by
 have h:=kt (g:=Hl) w z k rfl (by rw [cR];exact l) λd p=>by refine a5 (cM.mp p) λr U j=>?_;clear p;subst j;exact (a7 _ rfl (λm U=>he m r (bN r)))
 rw [uJ] at h
 rwa [show rs.map (Hl∘d5)=rs from C8 rs] at h
abbrev B2(q:D×D×D×D×D×V)(v:D)(ws:List D)(nd:D)(rs qs:List D):List V:=H9 q v [.ol ws,.d nd,.d (.l (rs.map d5)),.d (.l (qs.map d5)),cP DB rs,cP DB qs,.ol []]
theorem Va(h:Rk R):∃(z rs qs:List D),Rk z/\(rs.length<=4/\rs≠[]/\∀r∈rs,r∈plr)/\(qs.length<=4/\qs≠[]/\∀r∈qs,r∈plr)/\∀m,4<=m->exs (b6 fns m) (bU 14 19) (LF xs R (H9 q v [.ol ws,.d nd]))= .ok (.next,LF xs z (B2 q v ws nd rs qs)):=by
 obtain ⟨R1,rs,M,g,s,m1,t⟩:=F4 (l:=H9 q v [.ol ws,.d nd]) (x:=34) (k:=4) ∅ (λU=>rfl) (λU U=>rfl) ∅ h λR z d y m u=>by show bt (b6 fns m 96 [.ol R]) _=_;rw [u];rfl
 obtain ⟨p,qs,N,o,Q,m2,j⟩:=F4 (xs:=xs) (l:=H9 q v [.ol ws,.d nd,.ol (rs.map d5)]) (x:=35) (k:=3) ∅ (λU=>rfl) (λU U=>rfl) ∅ M λR z d y m u=>by show bt (b6 fns m 96 [.ol R]) _=_;rw [u];rfl
 refine (lb p rs qs N ⟨g,s,m1⟩ ⟨o,Q,m2⟩ (λm w=>?_));have e:exs (b6 fns m) (bU 14 15) (LF xs R (H9 q v [.ol ws,.d nd]))= .ok (.next,LF xs R1 (H9 q v [.ol ws,.d nd,.ol (rs.map d5)])):=gy (jO t trivial rfl m (c5 w rfl));have c:exs (b6 fns m) (bU 15 16) (LF xs R1 (H9 q v [.ol ws,.d nd,.ol (rs.map d5)]))= .ok (.next,LF xs p (H9 q v [.ol ws,.d nd,.ol (rs.map d5),.ol (qs.map d5)])):=gy (jO j trivial rfl m (c5 w rfl));have c1:=E6 (xs:=xs) (R:=p) g (L:=H9 q v [.ol ws,.d nd,.d (.l (rs.map d5)),.ol (qs.map d5)]) (x:=36) (y:=12) ∅ rfl (f:=LF xs p (H9 q v [.ol ws,.d nd,.ol (rs.map d5),.ol (qs.map d5)])) (λU U=>rfl) λU U U=>rfl;have i:=E6 (xs:=xs) (R:=p) o (L:=H9 q v [.ol ws,.d nd,.d (.l (rs.map d5)),.d (.l (qs.map d5)),cP DB rs]) (x:=37) (y:=13) ∅ rfl (f:=LF xs p (H9 q v [.ol ws,.d nd,.d (.l (rs.map d5)),.ol (qs.map d5),cP DB rs])) (λU U=>rfl) λU U U=>rfl;have l:=fG c1 (.cons i .nil);clear t j c1 i;exact (eJ (a:=bU 14 15) (b:=bU 15 19) e).trans ((eJ (a:=bU 15 16) (b:=bU 16 19) c).trans (bT (n:=1) bQ {(ac 2) with co:=λxs f=>match xs with
  | [36]=>some (.ol rs,my [(12,.d (.l (rs.map d5)))] f)
  | _=>some (.ol qs,my [(13,.d (.l (qs.map d5)))] f)} l ⋯ m (by show 2+1<=m;exact c5 w rfl)))
end
section
variable {K:Nat}{e i a b:E}{f:Fr}
theorem d9(h:rd f s= .d d):bV K (.v s) f (.d d,f):=λm U=>by
 show (match frz (rd f s) with
  | some d=>dS (eA d,if own (rd f s) then f.set s (.d d) else f)
  | none=>.x)=_
 rw [h];rfl
theorem wM(Y:bV K e f (.d p,f))(y:eN e=false)(Q:bV K i f (.d j,f))(h:kI p j=some d):bV K (.sub e i) f (.d d,f):=λm k=>by show bt (ev (b6 fns m) e f) _=_;rw [Y m k];show bt (if eN e then view (eA p,f) else fz (eA p,f)) _=_;rw [y];show bt (ev (b6 fns m) i f) _=_;rw [Q m k];show bt (cg (kI p j)) _=_;rw [h];rfl
theorem Yu(Y:bV K a f (.d x,f))(Q:bV K b f (.d y,f))(h:mq p x y=some v):bV K (.b p a b) f (v,f):=λm k=>by show bt (ev (b6 fns m) a f) _=_;rw [Y m k];show bt (ev (b6 fns m) b f) _=_;rw [Q m k];show bt (cg (mq p x y)) _=_;rw [h];rfl
theorem tU{xs:List D}(Y:bV K e f (.d (.l xs),f))(l:xs.length<=4):bV K (.bi .len [e]) f (.d (.int xs.length),f):=λm k=>by show bt (bt (ev (b6 fns m) e f) _) _=_;rw [Y m k];show bt (cg (kJ .len [.l xs])) _=_;rw [cK l];rfl
theorem tK{xs:List D}{k:Int}(Y:bV K e f (.d (.l xs),f))(y:eN e=false)(Q:bV K i f (.d (.int k),f))(p:xs≠[])(l:xs.length<=4):bV K (.sub e (.b .mod i (.bi .len [e]))) f (.d (cC xs (k.fmod xs.length)),f):=wM Y y (Yu Q (tU Y l) (iM k p)) (iL k p l)
theorem Es(F:D->D){xs:List D}{k:Int}(p:0<=k)(Y:k< xs.length):cC (xs.map F) k=F (cC xs k):=by have Q:=(AU p Y);unfold cC;rw [fC,fC,iV,fD Q];rfl
theorem rm{k:Int}(Y:bV K e f (.d (.l (rs.map d5)),f))(y:eN e=false)(Q:bV K i f (.d (.int k),f))(p:rs≠[])(l:rs.length<=4):bV K (.sub (.sub e (.b .mod i (.bi .len [e]))) (.int 1)) f (.d (cC (rs.map bN) (k.fmod (rs.map bN).length)),f):=by have c:=sJ k p;have h:=tK Y y Q (by simpa using p) (by rw [cR];exact l);rw [cR,Es d5 c.1 c.2] at h;rw [cR,Es bN c.1 c.2];exact wM h rfl (λm U=>rfl) rfl
theorem eW(Y:bV K e f (.d x,f))(Q:∀m,K<=m->evs (b6 fns m) es f= .ok (ds,f)):∀m,K<=m->evs (b6 fns m) (e::es) f= .ok (x::ds,f):=λm k=>by show bt (ev (b6 fns m) e f) _=_;rw [Y m k];show bt (evs (b6 fns m) es f) _=_;rw [Q m k];rfl
theorem mr:∀m,K<=m->evs (b6 fns m) [] f= .ok ([],f):=λU U=>rfl
theorem nI(Y:∀m,K<=m->evs (b6 fns m) es f= .ok (ds,f))(Q:At K g (ds.map .d) (.ok (v,.u))):bV K (.call g es) f (v,f):=λm k=>by show bt (evs (b6 fns m) es f) _=_;rw [Y m k];show bt (b6 fns m g (ds.map .d)) _=_;rw [Q m k];rfl
theorem Az(h:rd f x= .ol acc)(Y:bV K e f (v,f))(p:frz v=some d)(l:acc.length< 2000):∀m,K<=m->exs (b6 fns m) [.expr (.lm .append x [e])] f= .ok (.next,f.set x (.ol (acc++[d]))):=λm k=>by
 refine gy ?_;show bt (match rd f x with
  | .ol _=>(evs (b6 fns m) [e] f).bind λr=>match rd r.2 x with
   | .ol xs=>(cg (hZ .append r.1 xs)).bind λq=>dS (eA q.1,r.2.set x (.ol q.2))
   | _=>.x
  | _=>.x) _=_
 rw [h];have Q:evs (b6 fns m) [e] f= .ok ([d],f):=by show bt (ev (b6 fns m) e f) _=_;rw [Y m k];show bt (match frz v with | some d=>dS (d,f) | none=>.x) _=_;rw [p];rfl
 dsimp only;rw [Q];show bt (match rd f x with
   | .ol xs=>(cg (hZ .append [d] xs)).bind λq=>dS (eA q.1,f.set x (.ol q.2))
   | _=>.x) _=_
 rw [h];show bt (bt (cg (hZ .append [d] acc)) _) _=_;rw [fL l];rfl
end
theorem FY(N:w∈txs)(k:p∈plc)(y:q∈plc):At 3 97 [.d w,.d p,.d q] (.ok (.d (ph w p q),.u)):=fQ S2 (gj.mpr (a7 w N (gj.mpr (a7 p k (cM.mpr (a7 q y rfl))))))
section
variable {xs R:List D}{q:D×D×D×D×D×V}{v:D}{ws:List D}{nd:D}{M:V}{rs qs:List D}
abbrev CF(xs R:List D)(q:D×D×D×D×D×V)(v:D)(BM:V)(nd:D)(rs qs:List D)(k p:V)(acc:V)(u:V)(l:List V):Fr:=LF xs R (H9 q v (BM:: .d nd:: .d (.l (rs.map d5)):: .d (.l (qs.map d5))::k::p::acc::u::l))
theorem qo(h:∀r∈rs,r∈plr)(k:rs≠[])(i:Int):cC (rs.map bN) (i.fmod (rs.map bN).length)∈plc:=by refine a5 (cM.mp (fJ i (xs:=rs.map bN) (by simpa using k))) λr p e=>?_;rw [<-e];exact vH r (h r p)
variable (N:∀w∈ws,w∈txs)(O:ws.length<=3)(Y:rs.length<=4/\rs≠[]/\∀r∈rs,r∈plr)(Q:qs.length<=4/\qs≠[]/\∀r∈qs,r∈plr)
abbrev mC:E:=.v 17
abbrev Ep(s:Nat):E:=.sub (.sub (.v s) (.b .mod mC (.bi .len [.v s]))) (.int 1)
include N O Y Q in
theorem Sl(p y:V)(l:List V):∃u,nk u/\de 4 (.for [17] true (.bi .len [.v 10]) [.expr (.lm .append 16 [.call 97 [.sub (.v 10) mC,Ep 12,Ep 13]])]) (CF xs R q v (.ol ws) nd rs qs p y (.ol []) .u l) (CF xs R q v (.d (.l ws)) nd rs qs p y (.ol (lC ws (rs.map bN) (qs.map bN))) u l):=by
 obtain ⟨s,hs,h⟩:=oE (x:=17) (b:=[.expr (.lm .append 16 [.call 97 [.sub (.v 10) mC,Ep 12,Ep 13]])]) (it:=.bi .len [.v 10]) (f:=CF xs R q v (.ol ws) nd rs qs p y (.ol []) .u l) (λacc u=>CF xs R q v (.d (.l ws)) nd rs qs p y (.ol acc) u l) 4 (gc (dh O rfl)) dC (λacc u d j=>by induction u using bS<;>first | rfl | exact absurd rfl (j _)) (λm o=>by
   show bt (cg (kJ .len [.l ws])) _=_;rw [cK (n:=3) O];rfl) rfl (g8 (k:=4) (dh O rfl)) λacc d t z=>by
  refine ck (ij z) λi g w r=>?_;clear z;subst g;exact Az (d:=jQ ws (rs.map bN) (qs.map bN) id (.int i)) (v:=.d _) rfl (nI (eW (wM (d9 rfl) rfl (d9 rfl) (ko w r (n:=3) O)) (eW (rm (d9 rfl) rfl (d9 rfl) Y.2.1 Y.1) (eW (rm (d9 rfl) rfl (d9 rfl) Q.2.1 Q.1) mr))) ((FY (N _ (jI w r)) (qo Y.2.2 Y.2.1 i) (qo Q.2.2 Q.2.1 i)).u 4)) rfl (dh t rfl)
 exact (a7 s hs h)
theorem biE{K:Nat}{b:Bi}{f:Fr}{ds:List D}{v:V}(Y:∀m,K<=m->evs (b6 fns m) es f= .ok (ds,f))(h:kJ b ds=some v):bV K (.bi b es) f (v,f):=λm k=>by show bt (evs (b6 fns m) es f) _=_;rw [Y m k];show bt (cg (kJ b ds)) _=_;rw [h];rfl
abbrev sgX:List S:=[.expr (.lm .append 16 [.call 97 [.sub (.v 10) (.b .mod mC (.bi .len [.v 10])),Ep 12,Ep 13]])]
include N O Y Q in
theorem Sr(w:ws≠[])(k p:V)(y:nk u)(l:List V):∃r,nk r/\de 4 (.for [17] true (.bi .max [.bi .len [.v 10],.bi .len [.v 12],.bi .len [.v 13]]) sgX) (CF xs R q v (.d (.l ws)) nd rs qs k p (.ol []) u l) (CF xs R q v (.d (.l ws)) nd rs qs k p (.ol (qW ws (rs.map bN) (qs.map bN))) r l):=by have c:=yV (b:=(rs.map bN).length) (c:=(qs.map bN).length) (dh O rfl) (by rw [cR];exact Y.1) (by rw [cR];exact Q.1);exact oE (v:=.d (.int (mo ws (rs.map bN) (qs.map bN)))) (λacc u=>CF xs R q v (.d (.l ws)) nd rs qs k p (.ol acc) u l) 4 (gc c.2) y (λacc u d y=>by induction u using bS<;>first | rfl | exact absurd rfl (y _)) (biE (eW (tU (d9 rfl) (dX O)) (eW (tU (d9 rfl) (by rw [cR];exact Y.1)) (eW (tU (d9 rfl) (by rw [cR];exact Q.1)) mr))) (by unfold mo;rw [cR,cR,cR,cR];rfl)) rfl (g8 c.1) λacc d t z=>by refine ck (ij z) λi m j g=>?_;clear z;subst m;exact Az rfl (nI (eW (tK (d9 rfl) rfl (d9 rfl) w (dX O)) (eW (rm (d9 rfl) rfl (d9 rfl) Y.2.1 Y.1) (eW (rm (d9 rfl) rfl (d9 rfl) Q.2.1 Q.1) mr))) ((FY (N _ (fJ i w)) (qo Y.2.2 Y.2.1 i) (qo Q.2.2 Q.2.1 i)).u 4)) rfl (dh t rfl)
theorem QT(w p q:D):lz (ph w p q)=true:=by induction w using c7 with | str s=>(induction p using c7 with | int a=>(induction q using c7 with | int b=>rfl | _=>rfl) | _=>rfl) | _=>rfl
theorem DS(ws fs ls:List D)(t:Int->Int)(k:Int):gw ((cT k).map (jQ ws fs ls t)):=lY λd U=>by
 induction d using c7 with
 | int i=>exact QT _ _ _
 | _=>rfl
def Opt.neT(o:Opt):Opt:={o with cm:=λc a U=>match c,a with
 | .ne,.t _=>some false
 | _,_=>none}
include Y Q in
theorem Wn(k:Val v ws nd M):∃u,nk u/\∀m,40<=m->exs (b6 fns m) (bU 19 24) (LF xs R (B2 q v ws nd rs qs))= .ok (.next,CF xs R q v (.d (.l ws)) nd rs qs (.d (c9 rs)) (.d (c9 qs)) (.d (.l (mA ws (rs.map bN) (qs.map bN)))) u []):=by
 refine a5 (Sl (xs:=xs) (R:=R) (q:=q) (v:=v) (nd:=nd) k.tx k.len Y Q (cP DB rs) (cP DB qs) []) λu I c=>?_;have j:=oB (g:=72) k ∅ (Nb k Y.2.2 Q.2.2 Y.1 Q.1 Y.2.1 Q.2.1);have G:cZ .ne (bW CH (lC ws (rs.map bN) (qs.map bN)) nd) (bW CH (lC ws (rs.map bN) (qs.map bN)) nd)=some false:=ma (km (jc (DS _ _ _ _ _) 6) k.aI);have o:=l7 (g:=73) ∅ (.head _) (KX k Y.2.2 Q.2.2 Y.1 Q.1 Y.2.1 Q.2.1);have C:cZ .ne (bW CH (mA ws (rs.map bN) (qs.map bN)) .none) (bW CH (mA ws (rs.map bN) (qs.map bN)) .none)=some false:=ma (km (jc (by unfold mA;split;exact λU h=>(by cases h);exact DS _ _ _ _ _) 6) rfl);have s:∀m,38<=m->exs (b6 fns m) (bU 20 22) (CF xs R q v (.d (.l ws)) nd rs qs (cP DB rs) (cP DB qs) (.ol (lC ws (rs.map bN) (qs.map bN))) u [])= .ok (.next,CF xs R q v (.d (.l ws)) nd rs qs (.d (c9 rs)) (.d (c9 qs)) (.ol []) u []):=bT (n:=1) (oI 94 (bR (.d (bW CH (lC ws (rs.map bN) (qs.map bN)) nd)))) (ac 37).neT (.cons j (.cons G .nil)) ⋯;have r:∃y,nk y/\∀m,38<=m->exs (b6 fns m) (bU 22 23) (CF xs R q v (.d (.l ws)) nd rs qs (.d (c9 rs)) (.d (c9 qs)) (.ol []) u [])= .ok (.next,CF xs R q v (.d (.l ws)) nd rs qs (.d (c9 rs)) (.d (c9 qs)) (.ol (mA ws (rs.map bN) (qs.map bN))) y []):=by
  clear c j G o C s;induction ws using bO with
  | nil=>exact (a7 u I (bT (n:=1) bQ (ac 37) .nil ⋯))
  | cons w t=>refine a5 (Sr (xs:=xs) (R:=R) (q:=q) (v:=v) (nd:=nd) k.tx k.len Y Q (by simp) (.d (c9 rs)) (.d (c9 qs)) I []) λy p l=>?_;have l:de 37 _ _ _:=λm z=>l m (c5 z rfl);exact (a7 y p (bT (n:=1) bQ {(ac 37) with cm:=λU U U=>some true,fo:=λU U=>some (.ok (.next,CF xs R q v (.d (.l (w::t))) nd rs qs (.d (c9 rs)) (.d (c9 qs)) (.ol (qW (w::t) (rs.map bN) (qs.map bN))) y []))} (.cons (qv (R:=w::t) (by simp)) (.cons l .nil)) ⋯))
 exact a5 r λy p r=>(a7 y p (λm z=>(eJ (a:=bU 19 20) (b:=bU 20 24) (gy (c m (c5 z rfl)))).trans ((eJ (a:=bU 20 22) (b:=bU 22 24) (s m (c5 z rfl))).trans ((eJ (a:=bU 22 23) (b:=bU 23 24) (r m (c5 z rfl))).trans (bT (n:=1) (oI 94 (bR (.d (bW CH (mA ws (rs.map bN) (qs.map bN)) .none)))) (ac 37).neT (.cons o (.cons C .nil)) ⋯ m (by show 37+1<=m;exact c5 z rfl))))))
end
section
variable {xs R:List D}{q:D×D×D×D×D×V}{v:D}{ws:List D}{nd:D}{N:V}{rs qs hs:List D}
variable (Y:rs.length<=4/\rs≠[]/\∀r∈rs,r∈plr)(Q:qs.length<=4/\qs≠[]/\∀r∈qs,r∈plr)(O:hs.length<=4/\hs≠[]/\∀w∈hs,w∈wrds)
abbrev CD(xs R:List D)(q:D×D×D×D×D×V)(v:D)(ws:List D)(nd:D)(rs qs hs:List D)(acc u t y:V):Fr:=CF xs R q v (.d (.l ws)) nd rs qs (.d (c9 rs)) (.d (c9 qs)) acc u [.d (cv hs .none),t,y]
abbrev puB:List S:=[.a 20 (.sub (.f 18 1) (.b .mod mC (.bi .len [.f 18 1]))),.expr (.lm .append 16 [.call 98 [.sub (.v 10) mC,Ep 12,Ep 13,.v 20]])]
theorem AY(h:rd f x=u)(p:nk u)(v:V):put f x v= .ok (f.set x v):=by
 unfold put;rw [h];clear h;induction u using bS with
 | k d=>exact absurd rfl (p d)
 | _=>rfl
include Y Q O in
theorem S3(M:∀w∈ws,w∈wrds)(p:ws.length<=3){u:V}(s:nk u)(t:V):∃j:V×V,(nk j.1/\nk j.2)/\de 4 (.for [17] true (.bi .len [.v 10]) puB) (CD xs R q v ws nd rs qs hs (.ol []) u t .u) (CD xs R q v ws nd rs qs hs (.ol (putL ws (rs.map bN) (qs.map bN) hs)) j.1 t j.2):=by
 refine ml (λacc (j:V×V)=>CD xs R q v ws nd rs qs hs (.ol acc) j.1 t j.2) (λj=>nk j.1/\nk j.2) 4 (gc (dh p rfl)) (u,.u) ⟨s,dC⟩ (tU (d9 rfl) (dX p)) rfl (g8 (k:=4) (dh p rfl)) λacc j d z c r=>ck (ij r) λi I g o=>?_;clear r;subst I;obtain ⟨u,y⟩:=j;refine (d6 (.d (.int i),.d (cC hs (i.fmod hs.length))) (CD xs R q v ws nd rs qs hs (.ol acc) (.d (.int i)) t y) ⟨dH,dH⟩ (by have h:nk u:=z.1;clear z;induction u using bS<;>first | rfl | exact absurd rfl (h _)) (λm l=>?_))
 have e:de 4 (.a 20 (.sub (.f 18 1) (.b .mod mC (.bi .len [.f 18 1])))) (CD xs R q v ws nd rs qs hs (.ol acc) (.d (.int i)) t y) (CD xs R q v ws nd rs qs hs (.ol acc) (.d (.int i)) t (.d (cC hs (i.fmod hs.length)))):=jO (tK (λU U=>rfl) rfl (d9 rfl) O.2.1 O.1) trivial (AY (u:=y) rfl z.2 _);exact (jH (gy (e m l))).trans (Az (d:=jP ws (rs.map bN) (qs.map bN) hs (.int i)) (v:=.d _) rfl (nI (eW (wM (d9 rfl) rfl (d9 rfl) (ko g o (n:=3) p)) (eW (rm (d9 rfl) rfl (d9 rfl) Y.2.1 Y.1) (eW (rm (d9 rfl) rfl (d9 rfl) Q.2.1 Q.1) (eW (d9 rfl) mr)))) ((a0J pu0 pu3 pu6 (M _ (jI g o)) (qo Y.2.2 Y.2.1 i) (qo Q.2.2 Q.2.1 i) (O.2.2 _ (fJ i O.2.1))).u 4)) rfl (dh c rfl) m l)
theorem Ol(w p q v:D):lz (pd w p q v)=true:=by induction w using c7 with | str s=>(induction p using c7 with | int a=>(induction q using c7 with | int b=>(induction v using c7 with | str f=>rfl | _=>rfl) | _=>rfl) | _=>rfl) | _=>rfl
theorem Ok(ws fs ls hs:List D):gw (putL ws fs ls hs):=lY λd U=>by
 induction d using c7 with
 | int i=>exact Ol _ _ _ _
 | _=>rfl
theorem Ni(h:Rk R){k:Int}(z:0< k/\k<=3)(G:∀s,(LF xs s l).set 38 .u=LF xs s l)(he:∀(R p:List D) (d y:D) m,b6 fns m 89 [.ol R]= .ok (.d y,.ol p)->ev (b6 fns m) (.cb 89 1 []) ((LF xs R l).set 38 (.d d))= .ok (.d y,(LF xs p l).set 38 (.d d))):∃(p hs:List D),Rk p/\(hs.length<=4/\hs≠[]/\∀w∈hs,w∈wrds)/\bV 2 (.comp (.cb 89 1 []) [38] true (.b .add (.int 1) (.b .mod (.cb 88 1 []) (.int k))) none) (LF xs R l) (.ol hs,LF xs p l):=by
 refine cU (tF (xs:=xs) h) λn R1 C b=>?_;have c:=kj n z.1;obtain ⟨i,ys,c1,r,f,g⟩:=draw (λy=>y∈wrds) ∅ G C (XA z c) (λm t=>AW (qR (b l) (by simp;exact XB z)) m (c5 t rfl)) λR d j=>by exact oS (Fg j.1 j.2) λw p o e M I=>(lb p (.d w) w ⟨e,M⟩ o rfl (λm t=>he R p d _ m (I m t)))
 exact (d6 i ys c1 ⟨(XC z c r),by rintro rfl;simp at r;exact GG c r,f⟩ g)
include Y Q in
theorem Wq(h:Rk R)(w:Val v ws nd N){d16:D}{u:V}(C:nk u):∃(p:List D) (j o e:D) (r y:V),Rk p/\nk r/\nk y/\∀m,40<=m->exs (b6 fns m) (bU 24 27) (CF xs R q v (.d (.l ws)) nd rs qs (.d (c9 rs)) (.d (c9 qs)) (.d d16) u [])= .ok (.next,CF xs p q v (.d (.l ws)) nd rs qs (.d (c9 rs)) (.d (c9 qs)) (.d j) r [.d o,.d e,y]):=by
 obtain ⟨p,hs,H,O,c⟩:=Ni (xs:=xs) (k:=2) (l:=H9 q v [.d (.l ws),.d nd,.d (.l (rs.map d5)),.d (.l (qs.map d5)),.d (c9 rs),.d (c9 qs),.d d16,u]) h ∅ (λU=>rfl) λR p d y m x=>by show bt (b6 fns m 89 [.ol R]) _=_;rw [x];rfl
 have I:∀m,38<=m->exs (b6 fns m) (bU 24 25) (CF xs R q v (.d (.l ws)) nd rs qs (.d (c9 rs)) (.d (c9 qs)) (.d d16) u [])= .ok (.next,CF xs p q v (.d (.l ws)) nd rs qs (.d (c9 rs)) (.d (c9 qs)) (.d d16) u [cP CH hs]):=bT (n:=1) bQ {(ac 37) with co:=λU f=>some (.ol hs,f.set 1 (.ol p))} (.cons (show bV 37 _ _ _ from λm z=>c m (c5 z rfl)) .nil) ⋯;rcases w.char with G | ⟨a,rfl,A,B,rfl⟩
 .have t:=l6 (g:=74) ∅ (Lo w.aO G rs qs hs) ∅;have s:∀m,38<=m->exs (b6 fns m) (bU 25 27) (CF xs p q v (.d (.l ws)) nd rs qs (.d (c9 rs)) (.d (c9 qs)) (.d d16) u [cP CH hs])= .ok (.next,CD xs p q v ws nd rs qs hs (.d d16) u (.d (.str nT)) .u):=by
   revert t;refine pX (P:=λv=>At 37 94 [.d (.fn 74),.d (pf v rs qs hs)] (.ok (.d (.str nT),.u))->∀m,38<=m->exs (b6 fns m) (bU 25 27) (CF xs p q v (.d (.l ws)) nd rs qs (.d (c9 rs)) (.d (c9 qs)) (.d d16) u [cP CH hs])= .ok (.next,CD xs p q v ws nd rs qs hs (.d d16) u (.d (.str nT)) .u)) w.aO G ?_ ?_ ?_ ?_
   .exact λa=>bT (n:=1) (oI 94 (bR (.d (.str nT)))) (ac 37) (.cons a .nil) ⋯
   all_goals exact λi b a=>bT (n:=1) (oI 94 (bR (.d (.str nT)))) (ac 37) (.cons a .nil) ⋯
  exact ⟨p,d16,cv hs .none,.str nT,u,.u,H,C,dC,λm z=>(eJ (a:=bU 24 25) (b:=bU 25 27) (I m (c5 z rfl))).trans (s m (c5 z rfl))⟩
 have t:=oB (g:=74) w ∅ (Ma A B (dX w.len) Y.2.2 Q.2.2 O.2.2 Y.1 Q.1 O.1 Y.2.1 Q.2.1 O.2.1);have n1:cZ .ne (bW CH (putL ws (rs.map bN) (qs.map bN) hs) nd) (bW CH (putL ws (rs.map bN) (qs.map bN) hs) nd)=some false:=ma (km (jc (Ok _ _ _ _) 6) w.aI);refine a5 (S3 (xs:=xs) (R:=p) (q:=q) (v:=cv ws a) (nd:=nd) Y Q O B w.len C (.d (bW CH (putL ws (rs.map bN) (qs.map bN) hs) nd))) λρ σ l=>?_;obtain ⟨r,y⟩:=ρ;obtain ⟨M,hy⟩:=σ;have l:de 37 _ _ _:=λm z=>l m (c5 z rfl);have s:∀m,38<=m->exs (b6 fns m) (bU 25 27) (CF xs p q (cv ws a) (.d (.l ws)) nd rs qs (.d (c9 rs)) (.d (c9 qs)) (.d d16) u [cP CH hs])= .ok (.next,CD xs p q (cv ws a) ws nd rs qs hs (.d (.l (putL ws (rs.map bN) (qs.map bN) hs))) r (.d (bW CH (putL ws (rs.map bN) (qs.map bN) hs) nd)) y):=bT (n:=1) (oI 94 (bR (.d (bW CH (putL ws (rs.map bN) (qs.map bN) hs) nd)))) {(ac 37).neT with fo:=λU U=>some (.ok (.next,CD xs p q (cv ws a) ws nd rs qs hs (.ol (putL ws (rs.map bN) (qs.map bN) hs)) r (.d (bW CH (putL ws (rs.map bN) (qs.map bN) hs) nd)) y))} (.cons t (.cons l (.cons n1 .nil))) ⋯;exact ⟨p,_,cv hs .none,_,r,y,H,M,hy,λm z=>(eJ (a:=bU 24 25) (b:=bU 25 27) (I m (c5 z rfl))).trans (s m (c5 z rfl))⟩
end
section
variable {xs R:List D}{q:D×D×D×D×D×V}{v:D}{ws:List D}{nd:D}{Y:V}{z:D×D×D×D}{d16 d18 d19:D}{u y:V}
abbrev EF(xs R:List D)(q:D×D×D×D×D×V)(v:D)(ws:List D)(nd:D)(z:D×D×D×D)(d16:D)(u:V)(d18 d19:D)(y:V)(l:List V):Fr:=LF xs R (H9 q v (.d (.l ws):: .d nd:: .d z.1:: .d z.2.1:: .d z.2.2.1:: .d z.2.2.2:: .d d16::u:: .d d18:: .d d19::y::l))
def Yt(l:List (Nat×D)):eQ:=λg a=>if g==94 then (match a with
 | [.d (.fn g),_]=>(l.lookup g).map λd=>.ok (.d d,.u)
 | _=>none) else none
theorem Fq(k:w∈txs)(b:Bool):At 4 99 [.d w,.d (.bool b)] (.ok (.d (gz b w),.u)):=fQ Ql (gj.mpr (a7 w k (cM.mpr (a7 b (by induction b using dj<;>decide) rfl))))
theorem Uu(k:w∈txs){s:D×Bool×Bool}(hs:s∈sides):At 4 100 [.d w,.d s.1] (.ok (.d (gx s.2.1 s.2.2 w),.u)):=fQ Rm (gj.mpr (a7 w k (cM.mpr (a7 s hs rfl))))
theorem FK(b:Bool)(ws:List D):gw (ws.map (gz b)):=lY λw U=>by induction w using c7<;>rfl
theorem QU(a b:Bool)(ws:List D):gw (ws.map (gx a b)):=lY λw U=>by induction w using c7<;>rfl
theorem qD(p:Val v ws nd Y)(h:gw ys):cZ .ne (bW (.str k) ys nd) (bW (.str k) ys nd)=some false:=ma (km (jc h 6) p.aI)
theorem NK(p:Val v ws nd Y):∀m,38<=m->exs (b6 fns m) (bU 27 29) (EF xs R q v ws nd z d16 u d18 d19 y [])= .ok (.next,EF xs R q v ws nd z d16 u d18 d19 y []):=by
 have c1:bV 37 (.comp (.call 99 [.v 39,.bool true]) [39] false (.v 10) none) (EF xs R q v ws nd z d16 u d18 d19 y []) (.ol (ws.map (gz true)),EF xs R q v ws nd z d16 u d18 d19 y []):=kt ∅ rfl (d9 rfl) rfl (dX p.len) λw r=>(a7 (.d _) rfl (nI (eW (d9 rfl) (eW (λU U=>rfl) mr)) ((Fq (p.tx w r) true).u 37)));have j:bV 37 (.comp (.call 99 [.v 40,.bool false]) [40] false (.v 10) none) (EF xs R q v ws nd z d16 u d18 d19 y []) (.ol (ws.map (gz false)),EF xs R q v ws nd z d16 u d18 d19 y []):=kt ∅ rfl (d9 rfl) rfl (dX p.len) λw r=>(a7 (.d _) rfl (nI (eW (d9 rfl) (eW (λU U=>rfl) mr)) ((Fq (p.tx w r) false).u 37)));have t:=(oB p ∅ (PC p)).u 37;have l:=(oB p ∅ (OF p)).u 37;have i:=qD p (k:=cJ) (FK true ws);have g:=qD p (k:=cJ) (FK false ws);exact bT (n:=1) (Yt [(75,bW CH (ws.map (gz true)) nd),(76,bW CH (ws.map (gz false)) nd)]) {(ac 37).neT with co:=λxs f=>match xs with
  | [39]=>some (.ol (ws.map (gz true)),f)
  | _=>some (.ol (ws.map (gz false)),f)} (.cons t (.cons c1 (.cons i (.cons l (.cons j (.cons g .nil)))))) ⋯
def GC:Tx:=Ga++[8216]++jM++[8217,44,32,8216]++lr++[8217,44,32,8216]++lq++[8217]
theorem Py(h:Rk R)(j:Val v ws nd Y):∃(M:List D) (Q d21:D),Rk M/\∀m,38<=m->exs (b6 fns m) (bU 29 32) (EF xs R q v ws nd z d16 u d18 d19 y [])= .ok (.next,EF xs M q v ws nd z d16 u d18 Q y [.d d21]):=by
 refine c0 (tZ (xs:=xs) (es:=[.str jM,.str lr,.str lq,.str qB]) (lits:=[.str jM,.str lr,.str lq,.str qB]) (λU U=>rfl) rfl ∅ ∅ h) λs R1 hs c r=>?_;have N:∀m,38<=m->exs (b6 fns m) (bU 29 30) (EF xs R q v ws nd z d16 u d18 d19 y [])= .ok (.next,EF xs R1 q v ws nd z d16 u d18 d19 y [.d s]):=λm o=>gy (jO (r _) trivial rfl m (c5 o rfl));have p:∀t∈sides,∀m,38<=m->exs (b6 fns m) (bU 30 32) (EF xs R1 q v ws nd z d16 u d18 d19 y [.d t.1])= .ok (.next,EF xs R1 q v ws nd z d16 u d18 (bW CH (ws.map (gx t.2.1 t.2.2)) nd) y [.d t.1]):=λt e=>by
  have r:=(oB j ∅ (Nd j t e)).u 37;have I:=qD j (k:=cJ) (QU t.2.1 t.2.2 ws);have c1:bV 37 (.comp (.call 100 [.v 41,.v 21]) [41] false (.v 10) none) (EF xs R1 q v ws nd z d16 u d18 (bW CH (ws.map (gx t.2.1 t.2.2)) nd) y [.d t.1]) (.ol (ws.map (gx t.2.1 t.2.2)),EF xs R1 q v ws nd z d16 u d18 (bW CH (ws.map (gx t.2.1 t.2.2)) nd) y [.d t.1]):=kt ∅ rfl (d9 rfl) rfl (dX j.len) λw G=>(a7 (.d _) rfl (nI (eW (d9 rfl) (eW (d9 rfl) mr)) ((Uu (j.tx w G) e).u 37)));have l:=fG r (.cons c1 (.cons I .nil));clear r I c1 N hs;simp only [sides,dp,pG,or_false] at e;rcases e with rfl | rfl | rfl
  .exact bT (n:=1) (oI 94 (bR (.d (bW CH (ws.map (gx true true)) nd)))) ((ac 37).neT.comp (.ol (ws.map (gx true true)))) l ⋯
  .exact bT (n:=1) (oI 94 (bR (.d (bW CH (ws.map (gx true false)) nd)))) ((ac 37).neT.comp (.ol (ws.map (gx true false)))) l ⋯
  exact bT (n:=1) (oI 94 (bR (.d (bW CH (ws.map (gx false true)) nd)))) ((ac 37).neT.comp (.ol (ws.map (gx false true)))) l ⋯
 simp only [dp,pG,or_false] at hs;have i:∀{f:Fr},(∀m,38<=m->exs (b6 fns m) (bU 30 32) (EF xs R1 q v ws nd z d16 u d18 d19 y [.d s])= .ok (.next,f))->∀m,38<=m->exs (b6 fns m) (bU 29 32) (EF xs R q v ws nd z d16 u d18 d19 y [])= .ok (.next,f):=λh m o=>(eJ (a:=bU 29 30) (b:=bU 30 32) (N m o)).trans (h m o);rcases hs with rfl | rfl | rfl | rfl
 .exact (eM R1 _ _ c (i (p ((.str jM),true,true) (.head _))))
 .exact (eM R1 _ _ c (i (p ((.str lr),true,false) (.tail _ (.head _)))))
 .exact (eM R1 _ _ c (i (p ((.str lq),false,true) (.tail _ (.tail _ (.head _))))))
 have r:=(l6 (g:=77) ∅ (Nc v) ∅).u 37;exact (eM R1 (.str GC) ((.str qB)) c (i (bT (n:=1) (oI 94 (bR (.d (.str GC)))) (ac 37) (.cons r .nil) ⋯)))
end
section
variable {xs R:List D}{q:D×D×D×D×D×V}{v:D}{ws:List D}{nd:D}{Y:V}{z:D×D×D×D}{d16 d18 d19 d21:D}{u y u25:V}
abbrev FF(xs R:List D)(q:D×D×D×D×D×V)(r6:V)(v:D)(ws:List D)(nd:D)(z:D×D×D×D)(d16:D)(u:V)(d18 d19:D)(y:V)(d21:D)(l:List V):Fr:=LF xs R (.d q.1:: .d q.2.1:: .d q.2.2.1::r6:: .d q.2.2.2.2.1::q.2.2.2.2.2:: .d v:: .d (.l ws):: .d nd:: .d z.1:: .d z.2.1:: .d z.2.2.1:: .d z.2.2.2:: .d d16::u:: .d d18:: .d d19::y:: .d d21::l)
def Cb.ls(c:Cb)(v:D):List D:=[.t [.none,c1 c.a],.t [.none,c1 c.o],.t [.str [120],v],.t [.str jt,lg c.x]]
theorem QB(h:Rk R):∃(w:List D) (a o:D) (x:Bool),Rk w/\a∈aims/\o∈oths/\∀m,2<=m->exs (b6 fns m) (bU 32 37) (FF xs R q (.d q.2.2.2.1) v ws nd z d16 u d18 d19 y d21 [])= .ok (.next,FF xs w q (.ol ((⟨a,o,x,false⟩:Cb).ls v)) v ws nd z d16 u d18 d19 y d21 [.d a,.d o,.d (.bool x)]):=by
 refine c0 (tZ (xs:=xs) (es:=[.str [97],.str [46],.str [97,98],.str [],.str [98]]) (lits:=aims) (λU U=>rfl) rfl ∅ ∅ h) λa R1 s M r=>c0 (tZ (xs:=xs) (es:=[.str [120],.str [],.none,.str hH]) (lits:=oths) (k:=4) (λU U=>rfl) rfl ∅ ∅ M) λo g Q f t=>cU (mc f.1 f.2) λn R3 e b=>?_;have c:cZ .eq (.int (n.fmod 2)) (.int 1)=some (n.fmod 2==1):=Bl _ _;generalize (n.fmod 2==1)=x at c;refine ⟨R3,a,o,x,⟨e,b.1⟩,s,Q,λm p=>?_⟩;have j:exs (b6 fns m) (bU 32 33) (FF xs R q (.d q.2.2.2.1) v ws nd z d16 u d18 d19 y d21 [])= .ok (.next,FF xs R1 q (.d q.2.2.2.1) v ws nd z d16 u d18 d19 y d21 [.d a]):=gy (jO (r _) trivial rfl m (c5 p rfl));have i:exs (b6 fns m) (bU 33 34) (FF xs R1 q (.d q.2.2.2.1) v ws nd z d16 u d18 d19 y d21 [.d a])= .ok (.next,FF xs g q (.d q.2.2.2.1) v ws nd z d16 u d18 d19 y d21 [.d a,.d o]):=gy (jO (t _) trivial rfl m (c5 p rfl));refine (eJ (a:=bU 32 33) (b:=bU 33 37) j).trans ((eJ (a:=bU 33 34) (b:=bU 34 37) i).trans ?_);have l:=fG b.2 (.cons c .nil);clear j i r t c;induction x with
 | true=>exact bT (n:=1) (fX 88 (.d (.int n)) (.ol R3) bQ) {(ac 1) with cm:=λU U U=>some true} l ⋯ m (by show 1+1<=m;exact c5 p rfl)
 | false=>exact bT (n:=1) (fX 88 (.d (.int n)) (.ol R3) bQ) {(ac 1) with cm:=λU U U=>some false} l ⋯ m (by show 1+1<=m;exact c5 p rfl)
theorem RZ:ft 4 (aims.flatMap λa=>tfs.map λx=>(103,[.d a,.d (.bool x)],.d (.bool (x||!cY a (.str [46])))))=True:=⋯
theorem tc(k:a∈aims)(x:Bool):At 4 103 [.d a,.d (.bool x)] (.ok (.d (.bool (x||!cY a (.str [46]))),.u)):=fQ RZ (gj.mpr ⟨a,k,cM.mpr ⟨x,by induction x using dj<;>decide,rfl⟩⟩)
abbrev fB:List S:=match bU 37 38 with
 | [.for _ _ _ b]=>b
 | _=>[]
theorem Ur(r:w∈txs)(k:a∈aim1)(p:o∈oths)(e:Bool):At 4 101 [.d w,.d a,.d o,.d (.bool e)] (.ok (.d (jv w a o e),.u)):=fQ Rb (gj.mpr (a7 w r (gj.mpr (a7 a k (gj.mpr (a7 o p (cM.mpr (a7 e (by induction e using dj<;>decide) rfl))))))))
def H5:List D:=aims++oths
theorem vL(h:o∈H5)(s:Tx):cZ .eq o (.str s)=some (cY o (.str s)):=by simp only [H5,aims,oths,J3,J5,dp,pG,or_false] at h;rcases h with rfl | rfl | rfl | rfl | rfl | rfl | rfl | rfl | rfl<;>exact qu rfl
theorem QQ(ws:List D)(a o:D)(e:Bool):gw (ws.map λw=>jv w a o e):=lY λw U=>by
 induction w using c7 with
 | str s=>induction a using c7 with
  | str a=>induction o using c7 with
   | str f=>rfl
   | _=>show lz (if tN s a then .none else .str s)=true;induction tN s a using dj<;>rfl
  | _=>rfl
 | _=>rfl
def r6(e:Bool)(l:List D):V:=match e with
 | true=>.d (.l l)
 | false=>.ol l
def rk(an:Option Bool)(k:Bool):Opt:={(ac 43) with cm:=λc U q=>match c,q with
 | .eq,.str []=>an
 | .eq,.str _=>some k
 | .ne,.t _=>some false
 | _,_=>none}
abbrev FB(xs R:List D)(q:D×D×D×D×D×V)(r6:V)(v:D)(ws:List D)(nd:D)(z:D×D×D×D)(d16:D)(u:V)(d18 d19:D)(y:V)(d21 a o:D)(x e:Bool):Fr:=FF xs R q r6 v ws nd z d16 u d18 d19 y d21 [.d a,.d o,.d (.bool x),.d (.bool e)]
theorem z5(k:a∈aims)(p:o∈oths)(x e:Bool):(⟨a,o,x,e⟩:Cb)∈cbs:=gj.mpr (a7 a k (gj.mpr (a7 o p (gj.mpr (a7 x (by induction x using dj<;>decide) (cM.mpr (a7 e (by induction e using dj<;>decide) rfl)))))))
theorem wA(e:Bool):(if e then 83 else 82)< dP:=by induction e using dj<;>decide
theorem Wu{x e:Bool}(r:a∈aims)(t:o∈oths)(k:Cb.bad ⟨a,o,x,e⟩=true):∀m,44<=m->exs (b6 fns m) fB (FB xs R q (r6 e ((⟨a,o,x,false⟩:Cb).ls v)) v ws nd z d16 u d18 d19 y d21 a o x e)= .ok (.next,FB xs R q (.d (.l ((⟨a,o,x,false⟩:Cb).ls v))) v ws nd z (.str fV) u d18 d19 y d21 a o x e):=by
 have w:=(l6 (wA e) (SD v ⟨a,o,x,e⟩ (mY.mpr ⟨z5 r t x e,k⟩)) ∅).u 43;have p:=(tc r x).u 43;have c:=vL (uF _ t) hH;obtain rfl:x=false:=by
  clear w p;induction x with
  | false=>rfl
  | true=>injection k
 induction h:cY a (.str [46]) with
 | true=>
  rw [h] at p;have l:=fG p (.cons w .nil);clear w p c k r t h;exact bT (n:=1) (cH [(103,bR (.d (.bool false))),(94,bR (.d (.str fV)))]) (rk none false) l (by clear l;induction e using dj<;>kernel_rfl)
 | false=>
  rw [h] at p;have j:cY o (.str hH)=true:=by
   have k:(cY a (.str [46])||cY o (.str hH))=true:=k
   rwa [h] at k
  rw [j] at c;have l:=fG p (.cons c (.cons w .nil));clear w p c k r t h j;exact bT (n:=1) (cH [(103,bR (.d (.bool true))),(94,bR (.d (.str fV)))]) (rk none true) l (by clear l;induction e using dj<;>kernel_rfl)
theorem E7{x e:Bool}(k:Cb.bad ⟨a,o,x,e⟩=false):(x||!cY a (.str [46]))=true/\(x=true\/(x=false/\cY o (.str hH)=false)):=by
 have k:(!x&&(cY a (.str [46])||cY o (.str hH)))=false:=k;induction x with
 | true=>exact ⟨rfl,.inl rfl⟩
 | false=>
  induction p:cY a (.str [46]) with
  | true=>rw [p] at k;injection k
  | false=>rw [p] at k;exact ⟨rfl,.inr ⟨rfl,k⟩⟩
theorem YD(t:Val v ws nd Y){a o:D}{x e:Bool}(r:a∈aims)(i:o∈oths)(s:Cb.bad ⟨a,o,x,e⟩=false)(f:cY a (.str [])=false):∀m,44<=m->exs (b6 fns m) fB (FB xs R q (r6 e ((⟨a,o,x,false⟩:Cb).ls v)) v ws nd z d16 u d18 d19 y d21 a o x e)= .ok (.next,FB xs R q (.d (.l ((⟨a,o,x,false⟩:Cb).ls v))) v ws nd z (bW CH (ws.map λw=>jv w a o e) nd) u d18 d19 y d21 a o x e):=by
 refine xA (E7 s) λM N=>?_;have Q:=oB t (wA e) (Vz t ⟨a,o,x,e⟩ (mY.mpr ⟨z5 r i x e,by show (!Cb.bad ⟨a,o,x,e⟩&&!cY a (.str []))=true;rw [s,f];rfl⟩));have p:=(tc r x).u 43;rw [M] at p;have c:=vL (uF _ i) hH;have g:=vL (o9 _ r) [];rw [show cY a (.str [])=false from f] at g;have j:a∈aim1:=by
  simp only [aims,aim1,dp,pG,or_false] at r ⊢;rcases r with rfl | rfl | rfl | rfl | rfl
  .exact .inl rfl
  .exact .inr (.inl rfl)
  .exact .inr (.inr (.inl rfl))
  .injection f
  exact .inr (.inr (.inr rfl))
 have I:=qD t (k:=cJ) (QQ ws a o e);have k1:bV 43 (.comp (.call 101 [.v 42,.v 22,.v 23,.v 25]) [42] false (.v 10) none) (FB xs R q (r6 e ((⟨a,o,x,false⟩:Cb).ls v)) v ws nd z d16 u d18 d19 y d21 a o x e) (.ol (ws.map λw=>jv w a o e),FB xs R q (r6 e ((⟨a,o,x,false⟩:Cb).ls v)) v ws nd z d16 u d18 d19 y d21 a o x e):=kt ∅ rfl (d9 rfl) rfl (dX t.len) λw O=>(a7 (.d _) rfl (nI (eW (d9 rfl) (eW (d9 rfl) (eW (d9 rfl) (eW (d9 rfl) mr)))) ((Ur (t.tx w O) j i e).u 43)));have l:=λh=>fG p (.cons (h:cZ .eq o (.str hH)=some (cY o (.str hH))) (.cons g (.cons k1 (.cons Q (.cons I .nil)))));have l:=l c;clear Q p c g k1 I s f r i j M t;generalize cY o (.str hH)=G at l N;rcases N with rfl | ⟨rfl,rfl⟩
 .exact bT (n:=1) (cH [(103,bR (.d (.bool true))),(94,bR (.d (bW CH (ws.map λw=>jv w a o e) nd)))]) ((rk (some false) G).comp (.ol (ws.map λw=>jv w a o e))) l (by clear l;induction G using dj<;>induction e using dj<;>kernel_rfl)
 exact bT (n:=1) (cH [(103,bR (.d (.bool true))),(94,bR (.d (bW CH (ws.map λw=>jv w a o e) nd)))]) ((rk (some false) false).comp (.ol (ws.map λw=>jv w a o e))) l (by clear l;clear l;induction e using dj<;>kernel_rfl)
def Ia(k:Bool):Opt:={(ac 43) with cm:=λc U q=>match c,q with
 | .eq,.str (_::_)=>some k
 | .ne,.t _=>some false
 | .ne,.l _=>some true
 | _,_=>none}
theorem U8(r:Val v ws nd Y){o:D}{x e:Bool}(M:o∈oths)(s:Cb.bad ⟨(.str []),o,x,e⟩=false):∃d,∀m,44<=m->exs (b6 fns m) fB (FB xs R q (r6 e ((⟨(.str []),o,x,false⟩:Cb).ls v)) v ws nd z d16 u d18 d19 y d21 (.str []) o x e)= .ok (.next,FB xs R q (.d (.l ((⟨(.str []),o,x,false⟩:Cb).ls v))) v ws nd z d u d18 d19 y d21 (.str []) o x e):=by
 refine xA (E7 s) λI i=>?_;have f:(.str [])∈aims:=.tail _ (.tail _ (.tail _ (.head _)));have Q:(⟨(.str []),o,x,e⟩:Cb)∈wp:=mY.mpr ⟨z5 f M x e,by rw [s];rfl⟩;have p:=(tc f x).u 43;have c:=vL (uF _ M) hH;have N:=qD r (k:=cJ) (ys:=[]) (λU h=>by cases h);induction ws using bO with
 | nil=>
  have t:=oB (g:=if e then 83 else 82) r (wA e) (SE r _ Q);have l:=fG p (.cons c (.cons t (.cons N .nil)));refine ⟨bW CH [] nd,?_⟩;clear t p c N s f M I r Q;generalize cY o (.str hH)=j at l i;rcases i with rfl | ⟨rfl,rfl⟩
  .exact bT (n:=1) (cH [(103,bR (.d (.bool true))),(94,bR (.d (bW CH [] nd)))]) (rk none j) l (by clear l;induction j using dj<;>induction e using dj<;>kernel_rfl)
  exact bT (n:=1) (cH [(103,bR (.d (.bool true))),(94,bR (.d (bW CH [] nd)))]) (rk none false) l (by clear l;induction e using dj<;>kernel_rfl)
 | cons w G=>
  have t:=(l6 (g:=if e then 83 else 82) (wA e) (sub_zero r (by simp) _ Q) ∅).u 43;have l:=fG p (.cons c (.cons (qv (R:=w::G) (by simp)) (.cons t .nil)));refine ⟨.str nZ,?_⟩;clear t p c N s f M I r Q;generalize cY o (.str hH)=j at l i;rcases i with rfl | ⟨rfl,rfl⟩
  .exact bT (n:=1) (cH [(103,bR (.d (.bool true))),(94,bR (.d (.str nZ)))]) (Ia j) l (by clear l;induction j using dj<;>induction e using dj<;>kernel_rfl)
  exact bT (n:=1) (cH [(103,bR (.d (.bool true))),(94,bR (.d (.str nZ)))]) (Ia false) l (by clear l;induction e using dj<;>kernel_rfl)
theorem U7(r:Val v ws nd Y)(x e:Bool)(k:a∈aims)(w:o∈oths):∃d,∀m,44<=m->exs (b6 fns m) fB (FB xs R q (r6 e ((⟨a,o,x,false⟩:Cb).ls v)) v ws nd z d16 u d18 d19 y d21 a o x e)= .ok (.next,FB xs R q (.d (.l ((⟨a,o,x,false⟩:Cb).ls v))) v ws nd z d u d18 d19 y d21 a o x e):=by
 induction p:Cb.bad ⟨a,o,x,e⟩ with
 | true=>exact ⟨_,Wu k w p⟩
 | false=>
  induction t:cY a (.str []) with
  | true=>clear k;obtain rfl:=l8 t;exact U8 r w p
  | false=>exact ⟨_,YD r k w p t⟩
theorem U6(n:Val v ws nd Y){a o:D}(x:Bool)(i:a∈aims)(c:o∈oths):∃d u25,nk u25/\∀m,44<=m->exs (b6 fns m) (bU 37 38) (FF xs R q (.ol ((⟨a,o,x,false⟩:Cb).ls v)) v ws nd z d16 u d18 d19 y d21 [.d a,.d o,.d (.bool x)])= .ok (.next,FF xs R q (.d (.l ((⟨a,o,x,false⟩:Cb).ls v))) v ws nd z d u d18 d19 y d21 [.d a,.d o,.d (.bool x),u25]):=by
 obtain ⟨s,⟨t,j⟩,h⟩:=we (xs:=[25]) (it:=.list [.bool false,.bool true]) (v:=.ol [.bool false,.bool true]) (p:=.l [.bool false,.bool true]) (rg:=false) (ds:=[.bool false,.bool true]) (s0:=(.ol ((⟨a,o,x,false⟩:Cb).ls v),d16,.u)) (λ(s:V×D×V)=>FF xs R q s.1 v ws nd z s.2.1 u d18 d19 y d21 [.d a,.d o,.d (.bool x),s.2.2]) (λk s=>s.1=r6 (k !=0) ((⟨a,o,x,false⟩:Cb).ls v)/\us s.2.2) ⟨rfl,Or.inl rfl⟩ (λm U=>rfl) rfl rfl λk s d ⟨t,j⟩ r=>by
  obtain ⟨w,d16,u25⟩:=s;obtain rfl:w=_:=t;have r:∃e:Bool,d= .bool e/\(k !=0)=e:=by
   rcases k with U | U | k
   .exact (a7 false (by cases r;rfl) rfl)
   .exact (a7 true (by cases r;rfl) rfl)
   injection r
  refine a5 r λe Q f=>?_;clear r;subst Q;refine xE (U7 (xs:=xs) (R:=R) (q:=q) (v:=v) (z:=z) (d16:=d16) (d18:=d18) (d19:=d19) (d21:=d21) (u:=u) (y:=y) n x e i c) λd h=>?_;rw [f];exact (d6 (.d (.l ((⟨a,o,x,false⟩:Cb).ls v)),d,.d (.bool e)) _ ⟨rfl,pi⟩ (by rcases j with rfl | ⟨e,rfl⟩<;>rfl) h)
 obtain ⟨w,d,u25⟩:=s;obtain rfl:w= .d (.l ((⟨a,o,x,false⟩:Cb).ls v)):=t;exact (dU d u25 (XZ j) (λm g=>gy (h m g)))
end
theorem z7{k:Type}{l:List k}(F:k->Fr)(r:k->V×Fr)(h:(cN l λx=>fb (dy bQ (ac 0) 0) (ac 0) e (F x) (λc f=>(c,f)=r x) (λU=>False))=cN l λx=>(r x=r x)):∀x∈l,bV 0 e (F x) (r x):=λx p=>f9 bQ (ac 0) .nil (propext ⟨λU=>rfl,λU=>kg (h.symm▸ki (λx U=>rfl):cN l λx=>fb (dy bQ (ac 0) 0) (ac 0) e (F x) (λc f=>(c,f)=r x) (λU=>False)) x p⟩)
def uq:List (D×D):=txs.flatMap λw=>aims.map λa=>(w,a)
theorem Gi(p:w∈txs)(k:a∈aims):(w,a)∈uq:=gj.mpr (a7 w p (cM.mpr (a7 a k rfl)))
section
variable {xs R:List D}{q:D×D×D×D×D×V}{v:D}{ws:List D}{nd:D}{Y:V}{z:D×D×D×D}{d16 d18 d19 d21 a o:D}{x:Bool}{u y u25:V}
abbrev GF(xs R:List D)(q:D×D×D×D×D×V)(a o:D)(x:Bool)(v:D)(ws:List D)(nd:D)(z:D×D×D×D)(d16:D)(u:V)(d18 d19:D)(y:V)(d21:D)(u25:V)(l:List V):Fr:=FF xs R q (.d (.l ((⟨a,o,x,false⟩:Cb).ls v))) v ws nd z d16 u d18 d19 y d21 (.d a:: .d o:: .d (.bool x)::u25::l)
abbrev I0:E:=.i (.and [.c .isn (.bor 43) .none,.c .inn (.v 22) (.bor 43)]) (.int 1) (.int 0)
theorem WS:(cN uq λp=>fb (dy bQ (ac 0) 0) (ac 0) I0 ((GF xs R q p.2 o x v ws nd z d16 u d18 d19 y d21 u25 []).set 43 (.d p.1)) (λc f=>(c,f)=(.d (fW p.2 p.1),(GF xs R q p.2 o x v ws nd z d16 u d18 d19 y d21 u25 []).set 43 (.d p.1))) (λU=>False))=cN uq λp=>((eA (fW p.2 p.1),(GF xs R q p.2 o x v ws nd z d16 u d18 d19 y d21 u25 []).set 43 (.d p.1))=(eA (fW p.2 p.1),(GF xs R q p.2 o x v ws nd z d16 u d18 d19 y d21 u25 []).set 43 (.d p.1))):=⋯
theorem Uf(ws:List D)(a:D):gw (ws.map (fW a)):=lY λw U=>by induction w using c7 with | str s=>(induction a using c7<;>rfl) | _=>rfl
theorem ME(g:Val v ws nd Y)(l:a∈aims):∃d,∀m,38<=m->exs (b6 fns m) (bU 38 41) (GF xs R q a o x v ws nd z d16 u d18 d19 y d21 u25 [])= .ok (.next,GF xs R q a o x v ws nd z d u d18 d19 y d21 u25 []):=by
 have p:=(tc l x).u 37;have t:∀m,38<=m->exs (b6 fns m) (bU 38 39) (GF xs R q a o x v ws nd z d16 u d18 d19 y d21 u25 [])= .ok (.next,GF xs R q a o x v ws nd z (.str fV) u d18 d19 y d21 u25 []):=bT (n:=1) bQ (ac 37) .nil ⋯;have r:∀{f:Fr},(∀m,38<=m->exs (b6 fns m) (bU 39 41) (GF xs R q a o x v ws nd z (.str fV) u d18 d19 y d21 u25 [])= .ok (.next,f))->∀m,38<=m->exs (b6 fns m) (bU 38 41) (GF xs R q a o x v ws nd z d16 u d18 d19 y d21 u25 [])= .ok (.next,f):=λh m e=>(eJ (t m e)).trans (h m e);induction k:(x||!cY a (.str [46])) with
 | true=>
  have i:(!x&&cY a (.str [46]))=false:=by
   clear p t r;induction x using dj
   .induction h:cY a (.str [46]) with
    | true=>rw [h] at k;injection k
    | false=>rfl
   rfl
  rw [k] at p;have j:=l7 ∅ (.tail _ (.head _)) (Oj g l i);have Q:cZ .ne (bW (.str dJ) (ws.map (fW a)) .none) (bW (.str dJ) (ws.map (fW a)) .none)=some false:=ma (km (jc (Uf ws a) 6) rfl);have c1:bV 37 (.comp I0 [43] false (.v 10) none) (GF xs R q a o x v ws nd z (.str fV) u d18 d19 y d21 u25 []) (.ol (ws.map (fW a)),GF xs R q a o x v ws nd z (.str fV) u d18 d19 y d21 u25 []):=kt ∅ rfl (d9 rfl) rfl (dX g.len) λw s=>(a7 (.d _) rfl (λm U=>z7 (λp=>(GF xs R q p.2 o x v ws nd z (.str fV) u d18 d19 y d21 u25 []).set 43 (.d p.1)) (λp=>(.d (fW p.2 p.1),(GF xs R q p.2 o x v ws nd z (.str fV) u d18 d19 y d21 u25 []).set 43 (.d p.1))) WS (w,a) (Gi (g.tx w s) l) m (dR m)));exact ⟨bW (.str dJ) (ws.map (fW a)) .none,r (bT (n:=1) (cH [(103,bR (.d (.bool true))),(94,bR (.d (bW (.str dJ) (ws.map (fW a)) .none)))]) ((ac 37).neT.comp (.ol (ws.map (fW a)))) (.cons p (.cons c1 (.cons j (.cons Q .nil)))) ⋯)⟩
 | false=>
  rw [k] at p;obtain ⟨rfl,c⟩:x=false/\cY a (.str [46])=true:=by
   clear p t r;induction x using dj
   .induction h:cY a (.str [46]) with
    | true=>exact ⟨rfl,rfl⟩
    | false=>rw [h] at k;injection k
   injection k
  clear l t k;obtain rfl:=l8 c;have j:=l6 ∅ (MD v) ∅;exact ⟨.str fV,r (bT (n:=1) (cH [(103,bR (.d (.bool false))),(94,bR (.d (.str fV)))]) (ac 37) (.cons p (.cons j .nil)) ⋯)⟩
theorem Ut(p:w∈wrds)(k:a∈aims):At 4 102 [.d w,.d a] (.ok (.ol (eP w a),.u)):=fQ Rj (gj.mpr (a7 w p (cM.mpr (a7 a k rfl))))
theorem Sw(ws:List D)(s:Tx):(pr ws s).map uc=ws.map λw=>.l (eP w (.str s)):=by unfold pr;rw [uJ];exact G1 ws _ _ λi=>rfl
theorem par_run:(cN wrds λw=>cN aims λa=>(eP w a).all lz=true)=cN wrds λw=>cN aims λa=>true=true:=⋯
theorem UN(r:∀w∈ws,w∈wrds)(p:a∈aims):fS 7 (.l (ws.map λw=>.l (eP w a)))=true:=FS λy k=>by refine a5 (cM.mp k) λw h t=>?_;clear k;subst t;exact jc (λy k=>dM.mp (kg (kg (par_run.symm▸ki (λU U=>ki λU U=>rfl)) w (r w h)) a p) y k) 5
theorem Vy(k:a∈aims):∃s,a= .str s:=by simp only [aims,dp,pG,or_false] at k;rcases k with rfl | rfl | rfl | rfl | rfl<;>exact ⟨_,rfl⟩
theorem Val.names(r:Val (cv ws a) ws nd Y):(a= .none/\nd= .none)\/∃k,k<=4/\a=eY k/\nd= .l (gg k):=by
 generalize p:cv ws a=w at r;induction r with
 | ch=>injection p with _ _ h;exact .inl ⟨h,rfl⟩
 | nm l=>injection p with _ _ h;exact .inr (cF _ (dX l) h rfl)
 | nul=>injection p
 | ot t=>injection p with h;exact absurd h (kb (P:=λκ=>¬CH=κ.k) (λh=>by cases h) (λh=>by cases h) (λh=>by cases h) _ t)
 | fc=>injection p with h;cases h
theorem Su(h:ws.length<=4):(pr ws s).length<=4:=by unfold pr;rw [cR];exact gc (pa h)
theorem N8(j:Val v ws nd Y)(N:a∈aims):∃d e,∀m,43<=m->exs (b6 fns m) (bU 41 44) (GF xs R q a o x v ws nd z d16 u d18 d19 y d21 u25 [])= .ok (.next,GF xs R q a o x v ws nd z d u d18 e y d21 u25 []):=by
 rcases j.char with H | ⟨b,rfl,hb,B,rfl⟩
 .have O:=(l6 ∅ (N7 j.aO H a x) ∅).u 42;refine (ix (.str mQ) (.str mQ) ?_);revert O;refine pX (P:=λv=>At 42 94 [.d (.fn 70),.d (hY v a x)] (.ok (.d (.str mQ),.u))->∀m,43<=m->exs (b6 fns m) (bU 41 44) (GF xs R q a o x v ws nd z d16 u d18 d19 y d21 u25 [])= .ok (.next,GF xs R q a o x v ws nd z (.str mQ) u d18 (.str mQ) y d21 u25 [])) j.aO H ?_ ?_ ?_ ?_
  .exact λa=>bT (n:=1) (oI 94 (bR (.d (.str mQ)))) (ac 42) (.cons a .nil) ⋯
  all_goals exact λi b a=>bT (n:=1) (oI 94 (bR (.d (.str mQ)))) (ac 42) (.cons a .nil) ⋯
 have C:=j.len;have hn:=j.names;have p:=(tc N x).u 42;refine xE (Vy N) λs A=>?_;subst A;have G:(ws=[]\/(!x&&cY (.str s) (.str [46]))=false)->At 42 94 [.d (.fn 70),.d (hY (cv ws b) (.str s) x)] (.ok (.d (bW (.str eV) (ws.map λw=>.l (eP w (.str s))) nd),.u)):=λh=>by have M:=Po (by rcases hn with h | ⟨k,M,r,U⟩;exact .inl h.1;exact .inr ⟨k,M,r⟩) B (dX C) N h;have r:=Nu ∅ (Su (dX C)) yW (by rcases hn with h | ⟨k,U,M,r⟩;exact .inl h;exact .inr ⟨k,M,r⟩) M;rw [Sw] at r;exact r.u 42
 have c1:bV 42 (.comp (.call 102 [.v 44,.v 22]) [44] false (.v 10) none) (GF xs R q (.str s) o x (cv ws b) ws nd z d16 u d18 (bW (.str eV) (ws.map λw=>.l (eP w (.str s))) nd) y d21 u25 []) (.ol (ws.map λw=>.l (eP w (.str s))),GF xs R q (.str s) o x (cv ws b) ws nd z d16 u d18 (bW (.str eV) (ws.map λw=>.l (eP w (.str s))) nd) y d21 u25 []):=kt ∅ rfl (d9 rfl) rfl (dX C) λw h=>(a7 (.ol (eP w (.str s))) rfl (nI (eW (d9 rfl) (eW (d9 rfl) mr)) ((Ut (B w h) N).u 42)));have I:cZ .ne (bW (.str eV) (ws.map λw=>.l (eP w (.str s))) nd) (bW (.str eV) (ws.map λw=>.l (eP w (.str s))) nd)=some false:=ma (km (UN B N) j.aI);induction ws using bO with
 | nil=>have l:=fG (G (.inl rfl)) (.cons c1 (.cons I .nil));clear G c1 I p hn j;exact (ix (bW (.str eV) (([]:List D).map λw=>.l (eP w (.str s))) nd) (bW (.str eV) (([]:List D).map λw=>.l (eP w (.str s))) nd) (bT (n:=1) (oI 94 (bR (.d (bW (.str eV) (([]:List D).map λw=>.l (eP w (.str s))) nd)))) ((ac 42).neT.comp (.ol (([]:List D).map λw=>.l (eP w (.str s))))) l ⋯))
 | cons w Q=>
  induction f:(x||!cY (.str s) (.str [46])) with
  | true=>
   rw [f] at p;have l:=fG (G (.inr (by
    induction x using dj
    .induction h:cY (.str s) (.str [46]) with
     | true=>rw [h] at f;injection f
     | false=>rfl
    rfl))) (.cons (qv (R:=w::Q) (by simp)) (.cons p (.cons c1 (.cons I .nil))))
   clear G c1 I p hn j;exact (ix (bW (.str eV) ((w::Q).map λw=>.l (eP w (.str s))) nd) (bW (.str eV) ((w::Q).map λw=>.l (eP w (.str s))) nd) (bT (n:=1) (cH [(103,bR (.d (.bool true))),(94,bR (.d (bW (.str eV) ((w::Q).map λw=>.l (eP w (.str s))) nd)))]) {(ac 42).comp (.ol ((w::Q).map λw=>.l (eP w (.str s)))) with cm:=λc a U=>match c,a with
    | .ne,.l _=>some true
    | .ne,.t _=>some false
    | _,_=>none} l ⋯))
  | false=>
   rw [f] at p;obtain ⟨rfl,r⟩:x=false/\cY (.str s) (.str [46])=true:=by
    induction x using dj
    .induction h:cY (.str s) (.str [46]) with
     | true=>exact ⟨rfl,rfl⟩
     | false=>rw [h] at f;injection f
    injection f
   have r:=l8 r;injection r with r
   subst r;have O:=(l6 (g:=70) ∅ (N6 (ws:=w::Q) (a:=b) (by simp) (dX C)) ∅).u 42;have l:=fG O (.cons (qv (R:=w::Q) (by simp)) (.cons p .nil));clear G c1 I p hn j O;exact (ix (.str fV) (.str fV) (bT (n:=1) (cH [(103,bR (.d (.bool false))),(94,bR (.d (.str fV)))]) {(ac 42) with cm:=λc a U=>match c,a with
    | .ne,.l _=>some true
    | _,_=>none} l ⋯))
end
section
variable {xs R:List D}{q:D×D×D×D×D×V}{v:D}{ws:List D}{nd:D}{Y:V}{z:D×D×D×D}{d16 d18 d19 d21 a o:D}{x:Bool}{u y u25:V}
def a0F(c:Bool):D:=if c then .none else .int 2
abbrev I5:E:=.i (.c .is (.bor 45) .none) (.v 26) (.bi .len [.v 45])
theorem Xg(c:Bool):(cN txs λw=>fb (dy bQ (ac 0) 0) (ac 0) I5 ((GF xs R q a o x v ws nd z d16 u d18 d19 y d21 u25 [.d (a0F c)]).set 45 (.d w)) (λk f=>(k,f)=(.d (eF c w),(GF xs R q a o x v ws nd z d16 u d18 d19 y d21 u25 [.d (a0F c)]).set 45 (.d w))) (λU=>False))=cN txs λw=>((eA (eF c w),(GF xs R q a o x v ws nd z d16 u d18 d19 y d21 u25 [.d (a0F c)]).set 45 (.d w))=(eA (eF c w),(GF xs R q a o x v ws nd z d16 u d18 d19 y d21 u25 [.d (a0F c)]).set 45 (.d w))):=⋯
theorem Ug(ws:List D)(c:Bool):gw (ws.map (eF c)):=lY λw U=>by induction w using c7 with | str s=>rfl | _=>induction c using dj<;>rfl
theorem MM(p:Val v ws nd Y):∃e r,nk r/\∀m,38<=m->exs (b6 fns m) (bU 44 46) (GF xs R q a o x v ws nd z d16 u d18 d19 y d21 u25 [])= .ok (.next,GF xs R q a o x v ws nd z d16 u d18 e y d21 u25 [r]):=by
 rcases p.bJ with s | ⟨U,i,rfl⟩
 .have t:=Nq p s ∅ (OL p s);have j:=qD p (k:=dv) (Ug ws (!ei v));have c1:bV 37 (.comp I5 [45] false (.v 10) none) (GF xs R q a o x v ws nd z d16 u d18 (bW (.str dv) (ws.map (eF (!ei v))) nd) y d21 u25 [.d (a0F (!ei v))]) (.ol (ws.map (eF (!ei v))),GF xs R q a o x v ws nd z d16 u d18 (bW (.str dv) (ws.map (eF (!ei v))) nd) y d21 u25 [.d (a0F (!ei v))]):=kt ∅ rfl (d9 rfl) rfl (dX p.len) λw f=>(a7 (.d _) rfl (λm U=>z7 (λw=>(GF xs R q a o x v ws nd z d16 u d18 (bW (.str dv) (ws.map (eF (!ei v))) nd) y d21 u25 [.d (a0F (!ei v))]).set 45 (.d w)) (λw=>(.d (eF (!ei v) w),(GF xs R q a o x v ws nd z d16 u d18 (bW (.str dv) (ws.map (eF (!ei v))) nd) y d21 u25 [.d (a0F (!ei v))]).set 45 (.d w))) (Xg _) w (p.tx w f) m (dR m)));have l:=fG t (.cons c1 (.cons j .nil));refine (dU (bW (.str dv) (ws.map (eF (!ei v))) nd) (.d (a0F (!ei v))) dH ?_);clear t c1 j p;induction s with
  | ch i=>exact bT (n:=1) (oI 94 (bR (.d (bW (.str dv) (ws.map (eF true)) nd)))) ((ac 37).neT.comp (.ol (ws.map (eF true)))) l ⋯
  | nm i n=>exact bT (n:=1) (oI 94 (bR (.d (bW (.str dv) (ws.map (eF true)) nd)))) ((ac 37).neT.comp (.ol (ws.map (eF true)))) l ⋯
  | _=>exact bT (n:=1) (oI 94 (bR (.d (bW (.str dv) (ws.map (eF false)) nd)))) ((ac 37).neT.comp (.ol (ws.map (eF false)))) l ⋯
 have t:=l6 ∅ (ML i) ∅;exact (dU (.str AP) .u dC (bT (n:=1) (oI 94 (bR (.d (.str AP)))) (ac 37) (.cons t .nil) ⋯))
theorem Vl(ws:List D)(F:D->D)(G:D->D)(h:∀i:Int,0<=i->i< ws.length->G (.int i)=F (cC ws i)):(cT ws.length).map G=ws.map F:=by
 rw [<-G1 ws F (λd=>match d with
  | .int i=>F (cC ws i)
  | _=>.none) λi=>rfl]
 refine IR λd k=>ck (ij k) λi r p w=>?_;clear k;subst r;exact h i p w
theorem Vv(ws:List D)(a:D):(if ws.isEmpty then [] else wK ws [a])=ws.map λw=>fM w a:=by
 induction ws using bO with
 | nil=>rfl
 | cons w k=>
  have e:fq (w::k) [a]=((w::k).length:Int):=by unfold fq;rw [if_neg (by simp only [jE,J7];exact XD)]
  unfold wK;rw [e];refine Vl (w::k) _ _ λi p r=>?_;show fM (cC (w::k) (i.fmod _)) (cC [a] (i.fmod 1))=_;rw [Int.fmod_eq_of_lt p r,Int.fmod_one];rfl
abbrev Iq:E:=.i (.c .is (.bor 46) .none) .none (.i (.c .eq (.slice (.v 46) none (some (.bi .len [.v 22]))) (.v 22)) (.int 1) (.int 0))
theorem XX(k w:V):(cN uq λp=>fb (dy bQ (ac 0) 0) (ac 0) Iq ((GF xs R q p.2 o x v ws nd z d16 u d18 d19 y d21 u25 [k,w]).set 46 (.d p.1)) (λr f=>(r,f)=(.d (fM p.1 p.2),(GF xs R q p.2 o x v ws nd z d16 u d18 d19 y d21 u25 [k,w]).set 46 (.d p.1))) (λU=>False))=cN uq λp=>((eA (fM p.1 p.2),(GF xs R q p.2 o x v ws nd z d16 u d18 d19 y d21 u25 [k,w]).set 46 (.d p.1))=(eA (fM p.1 p.2),(GF xs R q p.2 o x v ws nd z d16 u d18 d19 y d21 u25 [k,w]).set 46 (.d p.1))):=⋯
theorem QR(ws:List D)(a:D):gw (ws.map λw=>fM w a):=lY λw U=>by induction w using c7 with | str s=>(induction a using c7<;>rfl) | _=>rfl
theorem M7(r:Val v ws nd Y)(f:a∈aims)(k:V):∃d e,∀m,38<=m->exs (b6 fns m) (bU 46 50) (GF xs R q a o x v ws nd z d16 u d18 d19 y d21 u25 [k])= .ok (.next,GF xs R q a o x v ws nd z d u d18 e y d21 u25 [k,.d (cv [a] .none)]):=by
 rcases r.char with g | ⟨b,rfl,c,t,rfl⟩
 .have l:=l6 ∅ (M6 r.aO g [a]) ∅;refine (ix (.str mJ) (.str mJ) ?_);revert l;refine pX (P:=λv=>At 37 94 [.d (.fn 79),.d (hW v (cv [a] .none))] (.ok (.d (.str mJ),.u))->∀m,38<=m->exs (b6 fns m) (bU 46 50) (GF xs R q a o x v ws nd z d16 u d18 d19 y d21 u25 [k])= .ok (.next,GF xs R q a o x v ws nd z (.str mJ) u d18 (.str mJ) y d21 u25 [k,.d (cv [a] .none)])) r.aO g ?_ ?_ ?_ ?_
  .exact λh=>bT (n:=1) (oI 94 (bR (.d (.str mJ)))) (ac 37) (.cons h .nil) ⋯
  all_goals exact λi b h=>bT (n:=1) (oI 94 (bR (.d (.str mJ)))) (ac 37) (.cons h .nil) ⋯
 have j:=N9 c t (dX r.len) (hs:=[a]) (λw t=>by rw [fh.mp t];exact f) (show 1<=4 by decide) (by simp);rw [Vv] at j;have l:=l7 ∅ (.tail _ (.head _)) j;have s:cZ .ne (bW (.str dJ) (ws.map λw=>fM w a) .none) (bW (.str dJ) (ws.map λw=>fM w a) .none)=some false:=ma (km (jc (QR ws a) 6) rfl);have c1:bV 37 (.comp Iq [46] false (.v 10) none) (GF xs R q a o x (cv ws b) ws nd z d16 u d18 (bW (.str dJ) (ws.map λw=>fM w a) .none) y d21 u25 [k,.d (cv [a] .none)]) (.ol (ws.map λw=>fM w a),GF xs R q a o x (cv ws b) ws nd z d16 u d18 (bW (.str dJ) (ws.map λw=>fM w a) .none) y d21 u25 [k,.d (cv [a] .none)]):=kt ∅ rfl (d9 rfl) rfl (dX r.len) λw t=>(a7 (.d _) rfl (λm U=>z7 (λp=>(GF xs R q p.2 o x (cv ws b) ws nd z d16 u d18 (bW (.str dJ) (ws.map λw=>fM w a) .none) y d21 u25 [k,.d (cv [a] .none)]).set 46 (.d p.1)) (λp=>(.d (fM p.1 p.2),(GF xs R q p.2 o x (cv ws b) ws nd z d16 u d18 (bW (.str dJ) (ws.map λw=>fM w a) .none) y d21 u25 [k,.d (cv [a] .none)]).set 46 (.d p.1))) (XX k _) (w,a) (Gi (r.tx w t) f) m (dR m)));exact (ix (bW (.str dJ) (ws.map λw=>fM w a) .none) (bW (.str dJ) (ws.map λw=>fM w a) .none) (bT (n:=1) (oI 94 (bR (.d (bW (.str dJ) (ws.map λw=>fM w a) .none)))) ((ac 37).neT.comp (.ol (ws.map λw=>fM w a))) (.cons l (.cons c1 (.cons s .nil))) ⋯))
end
theorem Wy{l:Type}{K:Nat}{xs:List Nat}{b:List S}{it:E}{v:V}{p:D}{rg:Bool}(F:l->Fr)(P:Nat->l->Prop)(B:Nat->Prop)(r:V){ds:List D}{s0:l}(G:P 0 s0)(c:bV K it f (v,F s0))(a:frz v=some p)(A:dN rg p=some ds) (hs:∀k s d,P k s->ds[k]? =some d->(∃s' f1,P (k+1) s'/\cE (F s) xs d=some f1/\∀m,K<=m->exs (b6 fns m) b f1= .ok (.next,F s'))\/(B k/\∃f1 y,cE (F s) xs d=some f1/\∀m,K<=m->exs (b6 fns m) b f1= .ok (.ret r,y))):(∃s,P ds.length s/\de K (.for xs rg it b) f (F s))\/((∃k,k< ds.length/\B k)/\∃y,mB K (.for xs rg it b) f (.ok (.ret r,y))):=by
 have Y:∀(es:List D) (k:Nat) (s:l),P k s->(∀i,ds[k+i]? =es[i]?)->(∃s',P (k+es.length) s'/\∀m,K<=m->fm (λd f=>(cg (cE f xs d)).bind λf=>exs (b6 fns m) b f) es (F s)= .ok (.next,F s'))\/((∃j,j< ds.length/\B j)/\∃y,∀m,K<=m->fm (λd f=>(cg (cE f xs d)).bind λf=>exs (b6 fns m) b f) es (F s)= .ok (.ret r,y)):=by
  intro es;induction es with
  | nil=>exact λk s hs U=>.inl (a7 s hs (λm q=>rfl))
  | cons d es ih=>
   intro k s H M;have N:=M 0;rcases hs k s d H N with ⟨I,f1,O,g,e⟩ | ⟨C,f1,y,g,e⟩
   .have fZ:∀m,K<=m->∀o,fm (λd f=>(cg (cE f xs d)).bind λf=>exs (b6 fns m) b f) es (F I)=o->fm (λd f=>(cg (cE f xs d)).bind λf=>exs (b6 fns m) b f) (d::es) (F s)=o:=λm q o z=>by
     show bt (bt (cg (cE (F s) xs d)) λf=>exs (b6 fns m) b f) _=_;rw [g];show bt (exs (b6 fns m) b f1) _=_;rw [e m q];exact z
    rcases ih (k+1) I O (λi=>by have:=M (i+1);rw [uE] at this;rw [<-this];congr 1;first | exact f4 k 1 i | exact (f4 k 1 i).symm) with ⟨s',Q,z⟩ | ⟨n,y,z⟩
    .exact .inl (a7 s' (by rw [jE,show k+(es.length+1)=k+1+es.length from (f4 k 1 _).symm];exact Q) (λm q=>fZ m q _ (z m q)))
    exact .inr (iT n y (λm q=>fZ m q _ (z m q)))
   refine .inr (iT (a7 k ((gS.mp N).1) C) y (λm q=>?_));show bt (bt (cg (cE (F s) xs d)) λf=>exs (b6 fns m) b f) _=_;rw [g];show bt (exs (b6 fns m) b f1) _=_;rw [e m q];rfl
 have t:∀m,K<=m->∀o,fm (λd f=>(cg (cE f xs d)).bind λf=>exs (b6 fns m) b f) ds (F s0)=o->ex (b6 fns m) (.for xs rg it b) f=o:=λm q o h=>by show bt (ev (b6 fns m) it f) _=_;rw [c m q];show bt (match frz v with | some d=>dS (d,F s0) | none=>.x) _=_;rw [a];show bt (cg (dN rg p)) _=_;rw [A];exact h
 rcases Y ds 0 s0 G (λi=>by rw [iH]) with ⟨s,hs,h⟩ | ⟨n,y,h⟩
 .exact .inl (a7 s (by rwa [iH] at hs) (λm q=>t m q _ (h m q)))
 exact .inr (iT n y (λm q=>t m q _ (h m q)))
section
variable {xs R:List D}{w:Nat->V}{v:D}{ws cs:List D}{x11:V}{u:V}{d19:D}
abbrev JF(xs R:List D)(w:Nat->V)(v:D)(ws:List D)(x11 acc u:V)(d19:D)(k y z:V):Fr:=LF xs R [w 3,w 4,w 5,w 6,w 7,w 8,.d v,.d (.l ws),x11,w 12,w 13,w 14,w 15,acc,u,w 18,.d d19,w 20,w 21,w 22,w 23,w 24,w 25,w 26,w 27,k,y,z]
abbrev jB:List S:=match bU 53 54 with
 | [.for _ _ _ b]=>b
 | _=>[]
theorem WZ(acc:List D):(cN ro λp=>fT (dy bQ mL 0) mL (jB.drop 2) (JF xs R w v ws x11 (.ol acc) u d19 (.d (.l cs)) (.d p.1) (.d p.2)) (λc f=>(c,f)=(.next,JF xs R w v ws x11 (.ol (acc++[jx p.1 p.2])) u d19 (.d (.l cs)) (.d p.1) (.d p.2))) (λU=>False))=cN ro λp=>cj [hZ .append [jx p.1 p.2] acc=some (.none,acc++[jx p.1 p.2])] ((h4,JF xs R w v ws x11 (.ol (acc++[jx p.1 p.2])) u d19 (.d (.l cs)) (.d p.1) (.d p.2))=(h4,JF xs R w v ws x11 (.ol (acc++[jx p.1 p.2])) u d19 (.d (.l cs)) (.d p.1) (.d p.2))):=⋯
theorem Uq(acc:List D):(cN rn λp=>fT (dy bQ mL 0) mL (jB.drop 2) (JF xs R w v ws x11 (.ol acc) u (.str iA) (.d (.l cs)) (.d p.1) (.d p.2)) (λc f=>(c,f)=(.ret (.d (.bool true)),JF xs R w v ws x11 (.ol acc) u (.str iA) (.d (.l cs)) (.d p.1) (.d p.2))) (λU=>False))=cN rn λp=>((rY (.d (.bool true)),JF xs R w v ws x11 (.ol acc) u (.str iA) (.d (.l cs)) (.d p.1) (.d p.2))=(rY (.d (.bool true)),JF xs R w v ws x11 (.ol acc) u (.str iA) (.d (.l cs)) (.d p.1) (.d p.2))):=⋯
theorem EP(j:ws.length<=4)(t:cs.length<=4)(g:ws≠[])(f:cs≠[]){i:Int}(q:nk y)(r:nk z):∀m,exs (b6 fns m) (jB.take 2) (JF xs R w v ws x11 acc (.d (.int i)) d19 (.d (.l cs)) y z)= .ok (.next,JF xs R w v ws x11 acc (.d (.int i)) d19 (.d (.l cs)) (.d (cC ws (i.fmod ws.length))) (.d (cC cs (i.fmod cs.length)))):=λm=>by have k:de 0 (.a 29 (.sub (.v 10) (.b .mod mC (.bi .len [.v 10])))) (JF xs R w v ws x11 acc (.d (.int i)) d19 (.d (.l cs)) y z) (JF xs R w v ws x11 acc (.d (.int i)) d19 (.d (.l cs)) (.d (cC ws (i.fmod ws.length))) z):=jO (tK (d9 rfl) rfl (d9 rfl) g j) trivial (AY (u:=y) rfl q _);have p:de 0 (.a 30 (.sub (.v 28) (.b .mod mC (.bi .len [.v 28])))) (JF xs R w v ws x11 acc (.d (.int i)) d19 (.d (.l cs)) (.d (cC ws (i.fmod ws.length))) z) (JF xs R w v ws x11 acc (.d (.int i)) d19 (.d (.l cs)) (.d (cC ws (i.fmod ws.length))) (.d (cC cs (i.fmod cs.length)))):=jO (tK (d9 rfl) rfl (d9 rfl) f t) trivial (AY (u:=z) rfl r _);exact (jH (gy (k m (dR m)))).trans (gy (p m (dR m)))
theorem Pb(k:Nat):cT ((k+1:Nat):Int)=cT (k:Int)++[.int k]:=by unfold cT;rw [kW,kW,List.range_succ,uI];rfl
abbrev wT:E:=.i (.c .ne (.bor 10) (.list [])) (.bi .max [.bi .len [.v 10],.bi .len [.v 28]]) (.int 0)
theorem Up(hw:∀t∈ws,t∈txs)(hc:∀c∈cs,c∈ct5)(N:ws.length<=4)(M:cs.length<=4)(I:ws≠[])(A:cs≠[])(Y:kC ws cs=true->d19= .str iA)(hu:nk u) : (kC ws cs=false/\∃s:V×V×V,de 4 (.for [17] true wT jB) (JF xs R w v ws x11 (.ol []) u d19 (.d (.l cs)) .u .u) (JF xs R w v ws x11 (.ol (jw ws cs)) s.1 d19 (.d (.l cs)) s.2.1 s.2.2))\/∃G,mB 4 (.for [17] true wT jB) (JF xs R w v ws x11 (.ol []) u d19 (.d (.l cs)) .u .u) (.ok (.ret (.d (.bool true)),G)):=by
 have H:=qk N M;have g:bV 4 wT (JF xs R w v ws x11 (.ol []) u d19 (.d (.l cs)) .u .u) (.d (.int (fq ws cs)),JF xs R w v ws x11 (.ol []) u d19 (.d (.l cs)) .u .u):=f9 (n:=0) bQ {(ac 4).l with cm:=λU U U=>some true} (.cons (qv I) (.cons (cK N) (.cons (cK M) .nil))) ⋯;have hl:(cT (fq ws cs)).length=(fq ws cs).toNat:=by unfold cT;simp
 rcases Wy (xs:=[17]) (b:=jB) (it:=wT) (v:=.d (.int (fq ws cs))) (p:=.int (fq ws cs)) (rg:=true) (ds:=cT (fq ws cs)) (s0:=(([]:List D),u,V.u,V.u)) (λs=>JF xs R w v ws x11 (.ol s.1) s.2.1 d19 (.d (.l cs)) s.2.2.1 s.2.2.2) (λk s=>s.1=(cT (k:Int)).map (wF ws cs)/\(∀j:Nat,j< k->qN ws cs (.int j)=false)/\nk s.2.1/\nk s.2.2.1/\nk s.2.2.2) (λk=>qN ws cs (.int k)=true) (.d (.bool true)) ⟨rfl,λj h=>absurd h (Jj j),hu,dC,dC⟩ g rfl (g8 (k:=4) H.1) (λk s d ⟨r,o,O,C,B⟩ hk=>by
   obtain ⟨acc,u,y,z⟩:=s;refine xA (yA hk) λx hlt=>?_;subst x;have r:acc=_:=r;have Q:cE (JF xs R w v ws x11 (.ol acc) u d19 (.d (.l cs)) y z) [17] (.int k)=some (JF xs R w v ws x11 (.ol acc) (.d (.int k)) d19 (.d (.l cs)) y z):=by have O:nk u:=O;clear C B;induction u using bS<;>first | rfl | exact absurd rfl (O _)
   have ht:=hw _ (fJ k I);have f:=hc _ (fJ k A);induction q:qN ws cs (.int k) with
   | true=>clear g;obtain rfl:=Y (jY.mpr (a7 (.int k) (kR hk) q));exact .inr ⟨rfl,_,JF xs R w v ws x11 (.ol acc) (.d (.int k)) (.str iA) (.d (.l cs)) (.d (cC ws ((k:Int).fmod ws.length))) (.d (cC cs ((k:Int).fmod cs.length))),Q,λm H=>(eJ (a:=jB.take 2) (b:=jB.drop 2) (EP N M I A C B m)).trans (nv (l:=rn) (Ps:=λU=>[]) bQ mL (λp=>JF xs R w v ws x11 (.ol acc) (.d (.int k)) (.str iA) (.d (.l cs)) (.d p.1) (.d p.2)) (λp=>(.ret (.d (.bool true)),JF xs R w v ws x11 (.ol acc) (.d (.int k)) (.str iA) (.d (.l cs)) (.d p.1) (.d p.2))) (λp=>.nil) (Uq acc) (_,_) (ET ht f q) m (dR m))⟩
   | false=>
    have la:acc.length< 4:=by rw [r,cR];unfold cT;simp;omega
    refine .inl (d6 (acc++[wF ws cs (.int k)],.d (.int k),.d (cC ws ((k:Int).fmod ws.length)),.d (cC cs ((k:Int).fmod cs.length))) _ ⟨by show acc++_=_;rw [Pb,uI,r];rfl,λj hj=>?_,dH,dH,dH⟩ Q (λm H=>(eJ (a:=jB.take 2) (b:=jB.drop 2) (EP N M I A C B m)).trans ?_))
    .by_cases e:j=k
     .rw [e];exact q
     exact o j (Jg (Cd hj) e)
    exact nv (l:=ro) bQ mL (λp=>JF xs R w v ws x11 (.ol acc) (.d (.int k)) d19 (.d (.l cs)) (.d p.1) (.d p.2)) (λp=>(.next,JF xs R w v ws x11 (.ol (acc++[jx p.1 p.2])) (.d (.int k)) d19 (.d (.l cs)) (.d p.1) (.d p.2))) (λp=>.cons (fL la) .nil) (WZ acc) (_,_) (EU ht f q) m (dR m)) with ⟨s,⟨r,o,_⟩,h⟩ | ⟨⟨k,_,_⟩,G,h⟩
 .obtain ⟨acc,u',y,z⟩:=s;rw [hl] at r o;have e:(((fq ws cs).toNat:Nat):Int)=fq ws cs:=pN (by unfold fq;split<;>exact Ck _);rw [e] at r;clear right;obtain rfl:acc=jw ws cs:=r;refine .inl (iT (Jp.mpr λQ=>a5 (jY.mp Q) λd Y q=>ck (ij Y) λi x i0 i1=>?_) (u',y,z) h);clear Y;subst x;have:=o i.toNat (Cr.mpr (uR (lR (pN i0)) i1));rw [show ((i.toNat:Nat):Int)=i from pN i0,q] at this;injection this
 exact .inr ⟨G,h⟩
end
section
variable {xs R:List D}{w:Nat->V}{v:D}{ws Y:List D}{x11:V}{u:V}{d16 d19 nd:D}{Q:V}
abbrev jL(w:Nat->V)(v:D)(ws:List D)(x11 acc u:V)(d19:D)(k y z:V):List V:=[w 3,w 4,w 5,w 6,w 7,w 8,.d v,.d (.l ws),x11,w 12,w 13,w 14,w 15,acc,u,w 18,.d d19,w 20,w 21,w 22,w 23,w 24,w 25,w 26,w 27,k,y,z]
theorem Mw(h:Rk R):∃(p Y:List D),Rk p/\Y.length<=3/\Y≠[]/\(∀c∈Y,c∈ct5)/\∀m,4<=m->exs (b6 fns m) (bU 50 51) (JF xs R w v ws x11 (.d d16) u d19 .u .u .u)= .ok (.next,JF xs p w v ws x11 (.d d16) u d19 (.ol Y) .u .u):=by
 refine cU (tF (xs:=xs) h) λn R1 s b=>?_;have c:=kj n (k:=3);obtain ⟨t,ys,c1,z,l,j⟩:=draw (x:=47) (e:=.sub (.list [.int 0,.int 1,.int 2,.none,.neg (.int 1)]) (.b .mod (.cb 88 1 []) (.int 5))) (λy=>y∈ct5) ∅ (λU=>rfl) s (n:=1+n.fmod 3) (XE c) (λm q=>AW (qR (b _) (k:=3) (by rfl)) m (c5 q rfl)) λR d r=>by
  refine c0 (mc r.1 r.2) λi p f g a=>?_;have k:=kj i (k:=5);have o:bV 2 (.cb 88 1 []) ((LF xs R (jL w v ws x11 (.d d16) u d19 .u .u .u)).set 47 (.d d)) (.d (.int i),(LF xs p (jL w v ws x11 (.d d16) u d19 .u .u .u)).set 47 (.d d)):=λm q=>by show bt (b6 fns m 88 [.ol R]) _=_;rw [a m (c5 q rfl)];rfl
  exact (lb p (.d (cC ct5 (i.fmod 5))) _ ⟨f,g⟩ (jI k.1 k.2) rfl (GL (lits:=ct5) (λU U=>rfl) (qR o (k:=5) (by rfl)) k.1 k.2 ∅))
 exact (qi t ys c1 (XF c z) (by rintro rfl;simp at z;exact XG c z) l (λm q=>gy (jO j trivial rfl m (c5 q rfl))))
theorem Val.aN(k:Val v ws nd Q)(s:Shn v):nd= .none:=by
 induction k with
 | nm=>cases s
 | _=>rfl
theorem Val.nd2(k:Val v ws nd Q):nd= .none\/nd= .l (gg ws.length):=by
 induction k with
 | nm=>exact .inr rfl
 | _=>exact .inl rfl
def BB(k p:Bool):Opt:={(ac 43).l with cm:=λc a b=>match c,a with
 | .eq,.t _=>some true
 | .ne,.int _=>some k
 | .eq,.l _=>some p
 | _,_=>none}
theorem vC(h:nJ d=true):cZ .eq d d=some true:=DK h
theorem WW(a:At 43 94 [.d (.fn 86),.d (hW v (ci Y))] (.ok (.d t,.u))):∀m,44<=m->exs (b6 fns m) (bU 51 53) (JF xs R w v ws x11 (.d d16) u d19 (.ol Y) .u .u)= .ok (.next,JF xs R w v ws x11 (.ol []) u t (.d (.l Y)) .u .u):=bT (n:=1) (oI 94 (bR (.d t))) (ac 43) (.cons a .nil) ⋯
theorem Om(w c:D):lz (jx w c)=true:=by induction w using c7 with | str s=>(induction c using c7<;>rfl) | _=>rfl
theorem yJ(ws Y:List D):gw (jw ws Y):=lY λd U=>by
 induction d using c7 with
 | int i=>exact Om _ _
 | _=>rfl
theorem WY(a:At 43 94 [.d (.fn 86),.d (hW v (ci Y))] (.ok (.d (bW CH [] .none),.u)))(hn:nd= .none\/nd= .l []):∃f,∀m,44<=m->exs (b6 fns m) (bU 51 57) (JF xs R w v [] (.d nd) (.d d16) u d19 (.ol Y) .u .u)= .ok (.ret (.d (.bool true)),f):=by
 have e:cZ .eq (bW CH [] .none) (bW CH [] .none)=some true:=vC rfl;refine ⟨JF xs R w v [] (.d .none) (.d (.l [])) u (bW CH [] .none) (.d (.l Y)) .u .u,?_⟩;have l:=fG a (.cons e .nil);rcases hn with rfl | rfl
 .exact bT (n:=1) (oI 94 (bR (.d (bW CH [] .none)))) {(ac 43) with cm:=λc a U=>match c,a with
   | .eq,.t _=>some true
   | _,_=>none} l ⋯
 exact bT (n:=1) (oI 94 (bR (.d (bW CH [] .none)))) {(ac 43) with cm:=λc a U=>match c,a with
  | .eq,.t _=>some true
  | _,_=>none} l ⋯
theorem z6(h:ws≠[]):cZ .eq (.l ws) (.l [])=some false:=by
 induction ws using bO with
 | nil=>exact absurd rfl h
 | cons a r=>rfl
theorem I6(a b:Int):cZ .ne (.int a) (.int b)=some (!(a==b)):=Fz rfl
theorem Um(k:gw ys)(p:ws≠[]):∃f,∀m,44<=m->exs (b6 fns m) (bU 54 57) (JF xs R w v ws (.d .none) (.ol ys) u (bW CH ys .none) (.d (.l Y)) y z)= .ok (.ret (.d (.bool true)),f):=by have e:cZ .eq (bW CH ys .none) (bW CH ys .none)=some true:=vC (km (jc k 6) rfl);exact ⟨JF xs R w v ws (.d .none) (.d (.l ys)) u (bW CH ys .none) (.d (.l Y)) y z,bT (n:=1) bQ (BB false false) (.cons (z6 p) (.cons e .nil)) ⋯⟩
theorem Un(k:gw ys)(hn:gw ns)(r:ws≠[])(q:ys.length<=4)(p:ns.length<=4)(h:ns.length=ys.length):∃f,∀m,44<=m->exs (b6 fns m) (bU 54 57) (JF xs R w v ws (.d (.l ns)) (.ol ys) u (bW CH ys (.l ns)) (.d (.l Y)) y z)= .ok (.ret (.d (.bool true)),f):=by
 have e:cZ .eq (bW CH ys (.l ns)) (bW CH ys (.l ns))=some true:=vC (km (jc k 6) (jc hn 6));have n:cZ .ne (.int ns.length) (.int ys.length)=some false:=by rw [I6,h,beq_self_eq_true];rfl
 exact ⟨JF xs R w v ws (.d (.l ns)) (.d (.l ys)) u (bW CH ys (.l ns)) (.d (.l Y)) y z,bT (n:=1) bQ (BB false false) (.cons (cK p) (.cons (cK q) (.cons n (.cons (z6 r) (.cons e .nil))))) ⋯⟩
theorem Uo(k:gw ys)(r:ws≠[])(q:ys.length<=4)(p:ns.length<=4)(h:ns.length≠ys.length):∃f,∀m,44<=m->exs (b6 fns m) (bU 54 57) (JF xs R w v ws (.d (.l ns)) (.ol ys) u (bW CH ys .none) (.d (.l Y)) y z)= .ok (.ret (.d (.bool true)),f):=by
 have e:cZ .eq (bW CH ys .none) (bW CH ys .none)=some true:=vC (km (jc k 6) rfl);have n:cZ .ne (.int ns.length) (.int ys.length)=some true:=by rw [I6,show ((ns.length:Int)==ys.length)=false from beq_eq_false_iff_ne.mpr (XH h)];rfl
 exact ⟨JF xs R w v ws (.d .none) (.d (.l ys)) u (bW CH ys .none) (.d (.l Y)) y z,bT (n:=1) bQ (BB true false) (.cons (cK p) (.cons (cK q) (.cons n (.cons (z6 r) (.cons e .nil))))) ⋯⟩
theorem WX(n:∀t∈ws,t∈txs)(i:∀c∈Y,c∈ct5)(N:ws.length<=4)(M:Y.length<=4)(G:ws≠[])(I:Y≠[])(e:nk u){t:D}(a:At 43 94 [.d (.fn 86),.d (hW v (ci Y))] (.ok (.d t,.u)))(g:kC ws Y=true->t= .str iA)(p:kC ws Y=false->∀u y z,∃f,∀m,44<=m->exs (b6 fns m) (bU 54 57) (JF xs R w v ws x11 (.ol (jw ws Y)) u t (.d (.l Y)) y z)= .ok (.ret (.d (.bool true)),f)):∃f,∀m,44<=m->exs (b6 fns m) (bU 51 57) (JF xs R w v ws x11 (.d d16) u d19 (.ol Y) .u .u)= .ok (.ret (.d (.bool true)),f):=by
 have q:=WW (xs:=xs) (R:=R) (w:=w) (ws:=ws) (x11:=x11) (u:=u) (d16:=d16) (d19:=d19) a;rcases Up (xs:=xs) (R:=R) (w:=w) (v:=v) (x11:=x11) n i N M G I g e with ⟨j,s,h⟩ | ⟨r,h⟩
 .exact xE (p j s.1 s.2.1 s.2.2) λf o=>⟨f,λm k=>(eJ (a:=bU 51 53) (b:=bU 53 57) (q m k)).trans ((jH (gy (h m (c5 k rfl)))).trans (o m k))⟩
 exact ⟨r,λm k=>(eJ (a:=bU 51 53) (b:=bU 53 57) (q m k)).trans (EE (h m (c5 k rfl)) rfl)⟩
theorem Sd(h:Rk R)(k:Val v ws nd Q)(A:nk u):∃f j,Rk j/\∀m,44<=m->exs (b6 fns m) (bU 50 57) (JF xs R w v ws (.d nd) (.d d16) u d19 .u .u .u)= .ok (.ret (.d (.bool true)),f):=by
 refine hB (Mw (xs:=xs) (w:=w) (v:=v) (ws:=ws) (x11:=.d nd) (u:=u) (d16:=d16) (d19:=d19) h) λj Y x o I M i=>?_;suffices hs:∃f,∀m,44<=m->exs (b6 fns m) (bU 51 57) (JF xs j w v ws (.d nd) (.d d16) u d19 (.ol Y) .u .u)= .ok (.ret (.d (.bool true)),f) by exact xE hs λf hs=>(dU f j x (λm C=>(eJ (a:=bU 50 51) (b:=bU 51 57) (i m (c5 C rfl))).trans (hs m C)))
 have n:=k.len;have c:=dX o;by_cases q:ws=[]
 .clear i n;subst q;exact WY ((l7 (g:=86) ∅ (.head _) (Sc k o)).u 43) k.nd2
 have p:=λ{t:D} a H G=>WX (xs:=xs) (R:=j) (w:=w) (v:=v) (x11:=.d nd) (d16:=d16) (d19:=d19) (t:=t) k.tx M (dX n) c q I A a H G;have B:(jw ws Y).length<=4:=by unfold jw;rw [cR];exact gc (qk (dX n) c).2
 induction r:kC ws Y with
 | true=>exact p ((l6 (g:=86) ∅ (Sa k q M o I r) ∅).u 43) (λU=>rfl) λh=>by rw [r] at h;injection h
 | false=>
  rcases k.bI with s | ⟨rfl,rfl⟩
  .clear i;obtain rfl:=k.aN s;exact p ((l7 (g:=86) ∅ (.head _) (Vj k s q M o I r)).u 43) (λh=>by rw [r] at h;injection h) λU u y z=>Um (yJ ws Y) q
  have O:=Vi k q M o I r;have hn:nd= .l (gg ws.length):=by
   rcases k.nd2 with h | h
   .clear i p;subst h;rcases Val.names (a:=eY ws.length) k with ⟨h,U⟩ | ⟨U,U,U,h⟩<;>injection h
   exact h
  clear i k;subst hn;have N:(gg ws.length).length=ws.length:=by unfold gg;simp
  by_cases e:(jw ws Y).length=ws.length
  .exact p ((Nr (g:=86) ∅ e O).u 43) (λh=>by rw [r] at h;injection h) λU u y z=>Un (yJ ws Y) (EK _) q B (GH n N) (XI N e)
  exact p ((Nt (g:=86) ∅ e O).u 43) (λh=>by rw [r] at h;injection h) λU u y z=>Uo (yJ ws Y) q B (GH n N) (XJ N e)
end
theorem jd(hs:bU a c=bU a b++bU b c)(p:∀m,k1<=m->exs (b6 fns m) (bU a b) f= .ok (.next,f1))(q:∀m,44<=m->exs (b6 fns m) (bU b c) f1=o)(l:k1<=44:=by decide):∀m,44<=m->exs (b6 fns m) (bU a c) f=o:=λm k=>by rw [hs];exact (eJ (p m (cW l k))).trans (q m k)
theorem law_at{xs:List D}(hx:Rw xs)(k:xs.length<=63):At 45 104 [.d (.l xs)] (.ok (.d (.bool true),.u)):=by refine oS (QN hx k) λR1 k r1 ln hv e1=>d8 (MT (xs:=xs) r1 ln hv) λR2 b e r2 e2=>gv (SN (xs:=xs) (b:=b) (e:=e) r2 ln hv) λR3 v ws nd ρ=>ck ρ λtv r3 r e3=>gq (Va (xs:=xs) (q:=(.l k,.str b,e,.l (fu k b e),f8 (k.map cA),cP CH (dE b (k.map cA) e))) (v:=v) (ws:=ws) (nd:=nd) r3) λR4 rs qs r4 h1 h2 e4=>a5 (Wn (xs:=xs) (R:=R4) (q:=(.l k,.str b,e,.l (fu k b e),f8 (k.map cA),cP CH (dE b (k.map cA) e))) h1 h2 r) λu5 n5 e5=>gv (Wq (xs:=xs) (q:=(.l k,.str b,e,.l (fu k b e),f8 (k.map cA),cP CH (dE b (k.map cA) e))) h1 h2 r4 r (d16:=.l (mA ws (rs.map bN) (qs.map bN))) n5) λR6 d16 d18 d19 ρ=>oS ρ λm j r6 n6 m6 e6=>?_;have e7:=NK (xs:=xs) (R:=R6) (q:=(.l k,.str b,e,.l (fu k b e),f8 (k.map cA),cP CH (dE b (k.map cA) e))) (z:=(.l (rs.map d5),.l (qs.map d5),c9 rs,c9 qs)) (d16:=d16) (d18:=d18) (d19:=d19) (u:=m) (y:=j) r;refine d8 (Py (xs:=xs) (R:=R6) (q:=(.l k,.str b,e,.l (fu k b e),f8 (k.map cA),cP CH (dE b (k.map cA) e))) (z:=(.l (rs.map d5),.l (qs.map d5),c9 rs,c9 qs)) (d16:=d16) (d18:=d18) (d19:=d19) (u:=m) (y:=j) r6 r) λR8 p d21 r8 e8=>sG (QB (xs:=xs) (q:=(.l k,.str b,e,.l (fu k b e),f8 (k.map cA),cP CH (dE b (k.map cA) e))) (v:=v) (ws:=ws) (nd:=nd) (z:=(.l (rs.map d5),.l (qs.map d5),c9 rs,c9 qs)) (d16:=d16) (d18:=d18) (d19:=p) (d21:=d21) (u:=m) (y:=j) r8) λi a o x r9 M ho e9=>cU (U6 (xs:=xs) (R:=i) (q:=(.l k,.str b,e,.l (fu k b e),f8 (k.map cA),cP CH (dE b (k.map cA) e))) (z:=(.l (rs.map d5),.l (qs.map d5),c9 rs,c9 qs)) (d16:=d16) (d18:=d18) (d19:=p) (d21:=d21) (u:=m) (y:=j) r x M ho) λg u25 n25 I=>xE (ME (xs:=xs) (R:=i) (q:=(.l k,.str b,e,.l (fu k b e),f8 (k.map cA),cP CH (dE b (k.map cA) e))) (z:=(.l (rs.map d5),.l (qs.map d5),c9 rs,c9 qs)) (d16:=g) (d18:=d18) (d19:=p) (d21:=d21) (u:=m) (y:=j) (u25:=u25) (o:=o) (x:=x) r M) λA G=>fY (N8 (xs:=xs) (R:=i) (q:=(.l k,.str b,e,.l (fu k b e),f8 (k.map cA),cP CH (dE b (k.map cA) e))) (z:=(.l (rs.map d5),.l (qs.map d5),c9 rs,c9 qs)) (d16:=A) (d18:=d18) (d19:=p) (d21:=d21) (u:=m) (y:=j) (u25:=u25) (o:=o) (x:=x) r M) λc h O=>cU (MM (xs:=xs) (R:=i) (q:=(.l k,.str b,e,.l (fu k b e),f8 (k.map cA),cP CH (dE b (k.map cA) e))) (z:=(.l (rs.map d5),.l (qs.map d5),c9 rs,c9 qs)) (d16:=c) (d18:=d18) (d19:=h) (d21:=d21) (u:=m) (y:=j) (u25:=u25) (a:=a) (o:=o) (x:=x) r) λN Y n26 C=>fY (M7 (xs:=xs) (R:=i) (q:=(.l k,.str b,e,.l (fu k b e),f8 (k.map cA),cP CH (dE b (k.map cA) e))) (z:=(.l (rs.map d5),.l (qs.map d5),c9 rs,c9 qs)) (d16:=c) (d18:=d18) (d19:=N) (d21:=d21) (u:=m) (y:=j) (u25:=u25) (o:=o) (x:=x) r M Y) λs Q B=>cU (Sd (xs:=xs) (R:=i) (w:=λn=>rd (GF xs i (.l k,.str b,e,.l (fu k b e),f8 (k.map cA),cP CH (dE b (k.map cA) e)) a o x v ws nd (.l (rs.map d5),.l (qs.map d5),c9 rs,c9 qs) s m d18 Q j d21 u25 [Y,.d (cv [a] .none)]) n) (d16:=s) (d19:=Q) r9 r n6) λf R15 r15 H=>?_;have t:=jd rfl e1 (jd rfl e2 (jd rfl e3 (jd rfl e4 (jd rfl e5 (jd rfl e6 (jd rfl e7 (jd rfl e8 (jd rfl e9 (jd rfl I (jd rfl G (jd rfl O (jd rfl C (jd rfl B H)))))))))))));exact At.body rfl rfl t rfl
end Mine.Internal.L
namespace Mine.Internal
section
theorem Ez:(defOf Mh.Internal.q1 "law").isSome=true:=⋯
def dk:DefRec×List (a6×a8):=(defOf Mh.Internal.q1 "law").get Ez
theorem hdef:defOf Mh.Internal.q1 "law" =some (dk.1,dk.2):=(Option.some_get Ez).symm
theorem hpd:Mh.Internal.pw.theDef "law" =some (dk.1.params,dk.1.body,dk.1.scope):=⋯
theorem hkw:kwWritten? dk.1.params.kwonlyargs dk.1.params.kw_defaults=some dk.2:=⋯
theorem yS{is:List Int}(h:is.length<=63):b6 fns 45 104 [.d (.l (is.map .int))]= .ok (.d (.bool true),.u):=L.law_at (λd k=>let ⟨i,_,e⟩:=cM.mp k;⟨i,e.symm⟩) (by rw [cR];exact h) 45 (fj _)
theorem Mr:CB callerA [] (2*45):=⟨rfl,∅,∅,rfl⟩
theorem OC:dk.1.name= "law" :=defOf_name hdef
theorem S0(k:List WData):rw0.claim.post k (.bool true) k=true:=⋯
theorem Xj(w:cQ)(a b:b7):O1 w a b≠ .lo/\O1 w a b≠ .cl:=by
 unfold O1;split
 .exact ⟨(λh=>by injection h),λh=>by injection h⟩
 split
 .exact ⟨(λh=>by injection h),λh=>by injection h⟩
 exact ⟨(λh=>by injection h),λh=>by injection h⟩
theorem law_call:WalkO Mh.Internal.q1 Mh.Internal.lo (λU U=>True) (λw h=>Kp (Mh.Internal.HB w.params) h) rw0.toRowW dk.1 dk.2 λf vs=>PySem.call f vs:=by
 intro w s₀ s₁ mg mb G Y a o pm cd doc dV kV ho hd hcd hD y k O vals as i C hrd u H;have Y:Kp (cf w).B s₁.heap:=Y;refine xA (pre_splitW i) λp1 p2=>c0 (hasAllW_cons p1) λd r I h1 h2=>?_;subst I;obtain rfl:=hasAllW_nil h2;refine xE (list_of h1) λis I=>?_;subst I;have s:is.length<=63:=by have:=S1 p2;rwa [cR] at this
 cases u with | cons hw hr=>
 cases hr;cases hw with | @list L vs _ c t=>
 have n1:s₁.heap.Ns gR (cf w).mg:=(Gv w).keeps Y;have e1:mg "law" =(cf w).mg "law" :=z4 G.T.g n1 _;rw [OC,e1] at y;have e2:(cf w).mg "law" =some (.ref (jT 104)):=⋯
 obtain rfl:jT 104=a:=by rw [e2] at y;exact ez (bv y)
 have j:=QY w Y c rfl;have zL:O1 w L L= .z:=if_pos rfl;have dr:DR (cf w) (O1 w L) s₁.heap (.l (is.map .int)) (.ref L):=⟨vs.toArray,⟨L,_,0,rfl,zL,c,⟨rfl,rfl,rfl⟩,rfl⟩,Nh _ _ _ t⟩;have Q:b6 fns 45 104 [.d (.l (is.map .int))]≠ .x:=by rw [yS s];exact λh=>by injection h
 have K:=(WD w 45).K 104 ∅ callerA [] s₁ (O1 w L) [.d (.l (is.map .int))] [.ref L] Mr (Xj w L) j ⟨_,_,rfl,dr,rfl⟩ (λv M=>by rw [fh.mp M];rfl) Q;refine rE (ux K λN s' p=>?_);induction N with
 | error e=>refine a5 p λm q U=>?_;rw [yS s] at q;injection q
 | ok f=>induction f with
  | ret v=>
   obtain ⟨v',b,O',e,j',vr,U,st,A⟩:=p;rw [yS s] at e;cases e;have M:v= .bool true:=vr;subst M;refine ⟨.inl ⟨.bool true,.bool true,[],rfl,λcls=>rfl,.bool true,S0 _,λU=>⟨List.nodup_nil,λa ha=>by cases ha⟩⟩,RQ w Y c (λes n h=>by injection h) st,A.2,.of_eq (A.1.trans k)⟩
  | _=>exact p.elim
end
end Mine.Internal
end
theorem PySem.Challenge.cw_nz0537_01_holds : PySem.Challenge.rw_nz0537_01.Holds :=
holds_law Mh.Internal.law_said λp=>holds_open (r:=Mine.Internal.rw0) (q:=Mh.Internal.q1) (loose:=Mh.Internal.lo) (Xt:=λU=>true) (XP:=λU U=>True) (Yf:=λs=>s.heap) (Ya:=λw=>Mh.Internal.HB w.params) (YP:=λw h=>Mine.Internal.Kp (Mh.Internal.HB w.params) h) (N:=20000) Mh.Internal.left (λw s e=>by rw [e];exact Mine.Internal.Kp.refl _) (λw h h' x k=>x.trans k) (λU U=>trivial) (λU U U U U=>trivial) Mine.Internal.hdef Mine.Internal.hpd Mine.Internal.hkw (λs U=>recFacts_of (R:=Mine.Internal.rw0.records) (s:=s) rfl) (by kernel_rfl) p (by kernel_rfl) ⟨rfl,rfl,rfl,rfl,rfl,by decide +kernel⟩ ⟨[.list []],by kernel_rfl,by kernel_rfl⟩ Mine.Internal.law_call
