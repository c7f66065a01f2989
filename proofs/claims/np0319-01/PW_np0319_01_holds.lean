import PyProof.Rows.All
import Wide.All
import OpenK.AllK
import Wide.FinOn
import Lean
import PySem.Challenge.RW_np0319_01
set_option Elab.async false
set_option maxHeartbeats 0
set_option linter.all false
set_option maxRecDepth 100000
set_option bootstrap.genMatcherCode false
set_option genSizeOf false
set_option genSizeOfSpec false
set_option genInjectivity false
set_option tactic.hygienic false
set_option compiler.extract_closed false
noncomputable section
namespace RG.Internal
section
open Lean
def zzA(x:String):Syntax:=.atom .none x
def zzT(s:String)(x:Array Syntax):Syntax:=.node .none (.str `Lean.Parser.Tactic s) x
def zzM(s:String)(x:Array Syntax):Syntax:=.node .none (.str `Lean.Parser.Term s) x
def zzN(x:Array Syntax):Syntax:=.node .none `null x
def zzI(s:String):Syntax:=.ident .none s.toRawSubstring s.toName []
def zzP(s:Syntax)(x:Array Syntax):=zzM "app" #[s,zzN x]
def zzC(s:Syntax):Syntax:=zzT "tacticSeq" #[zzT "tacticSeq1Indented" #[zzN #[s]]]
def zzB(s:Syntax):Syntax:=zzM "byTactic" #[zzA "by",zzC s]
def zzO(x:Array Syntax):=zzT "optConfig" #[zzN x]
def zzH:=zzM "syntheticHole" #[zzA "?",zzA "_"]
def zzS(l:String)(x:Array Syntax):Syntax:=zzT "simp" #[zzA "simp",zzO #[],zzN #[],zzN #[zzA "only"],zzN #[zzA "[",zzN (x++(Syntax.mkSep ((l.splitOn " ").map λx=>zzT "simpLemma" #[zzN #[],zzN #[],zzI x]).toArray (zzA ",")).getArgs),zzA "]"],zzN #[]]
end
local macro_rules (kind:=Lean.Parser.Term.arrow)
|s=>pure (zzM "forall" #[zzA "∀",zzN #[zzI "Y"],zzN #[zzM "typeSpec" #[zzA ":",s[0]]],zzA ",",s[2]])
local macro_rules (kind:=«term∅»)
|s=>pure (zzB (.node .none `tacticKernel_rfl #[zzA "kernel_rfl"]))
local macro_rules (kind:=Vector.«term#v[_,]»)
|s=>pure (zzB (zzT "decide" #[zzA "decide",zzO #[]]))
local macro_rules (kind:=Lean.Parser.Term.omission)
|s=>pure (zzB (zzT "decide" #[zzA "decide",zzO #[zzT "configItem" #[zzT "posConfigItem" #[zzA "+",zzI "kernel"]]]]))
local macro_rules (kind:=Lean.Parser.Tactic.simpAutoUnfold)
|s=>pure ((s.setKind ``Lean.Parser.Tactic.simp).setArg 3 (zzN #[zzA "only"]))
local macro_rules (kind:=Lean.Parser.Tactic.dsimpAutoUnfold)
|s=>pure ((s.setKind ``Lean.Parser.Tactic.dsimp).setArg 3 (zzN #[zzA "only"]))
local macro_rules (kind:=Lean.Parser.Tactic.tacticErw___)
|s=>pure (zzT "refine" #[zzA "refine",s[2][1][0][1]])
local macro_rules (kind:=Lean.Parser.Tactic.tacticRwa__)
|s=>pure (zzT "exact" #[zzA "exact",s[1][1][0][1]])
local macro_rules (kind:=Lean.Parser.Tactic.injections)
|s=>let xs:=s[1].getArgs
 let i:=xs.toList.findIdx (·.isOfKind ``Lean.Parser.Term.hole)
 let v:=if i<xs.size then xs.extract (i+1) xs.size else xs
 let u:=λs=>zzI (s++toString v.size)
 let h:=zzM "hole" #[zzA "_"]
 let f:=λs t=>zzP (zzI s) #[t]
 let g:=λt x=>zzT "generalizeArg" #[zzN #[],t,zzA "=",x]
 let t:=v.pop.toList.foldl (λ(t,l)x=>(f "Prod.snd" t,l++[g (f "Prod.fst" t) x,zzA ","])) (zzP (u "qe") #[h,h],([]:List Lean.Syntax))
 let r:=λv=>zzT "revert" #[zzA "revert",zzN v]
 pure (zzN ((if 0<i&&i<xs.size then #[r (xs.extract 0 i)]else #[])++#[r v,zzT "refine" #[zzA "refine",zzM "typeAscription" #[zzM "hygienicLParen" #[zzA "(",.node .none Lean.hygieneInfoKind #[.ident .none "".toRawSubstring .anonymous []]],zzP (u "qE") #[zzH,zzH],zzA ":",zzN #[h],zzA ")"]],zzT "exact" #[zzA "exact",zzI "qeN"],zzT "generalize" #[zzA "generalize",zzN (t.2++[g t.1 v.back!]).toArray,zzN #[]]]++if i==0 then #[]else #[zzT "intros" #[zzA "intros",zzN #[]]]))
local macro_rules (kind:=Lean.Parser.Term.quotedName)
|n=>match n.getHeadInfo with|.original ..=>pure (zzP (zzI "S") #[Lean.Syntax.mkStrLit (⟨n[0]⟩:Lean.NameLit).getName.toString])|_=>Lean.Macro.throwUnsupported
local macro_rules (kind:=Lean.Parser.Command.declaration)
|d=>match d.getHeadInfo with|.original ..=>pure (d.setHeadInfo .none)|_=>Lean.Macro.throwUnsupported
open List renaming length_append->al,length_cons->ar,length_nil->a5,all_cons->a6,length_map->Vo,mem_cons_self->Vv,mem_singleton->Vy,append_assoc->VA,mem_cons_of_mem->VB,append_nil->VC,mem_cons->VD,map_append->VE,mem_map->VI,mem_append->VJ,all_eq_true->VK,length_range->VN,length_filter_le->VP,map_map->VQ,size_toArray->VV,flatMap_cons->VY,map_cons->V3,mem_filter->V8,contains_iff_mem->V9,take_of_length_le->Wa,mem_filterMap->Wh,exists_cons_of_ne_nil->Wi,mem_append_right->Wj,flatMap_append->Wp,mem_of_mem_take->Wu,mem_range->Wx,length_take->WC,length_drop->WD,length_pos_iff->WF,length_set->WN,map_congr_left->WR,filterMap_eq_map'->W7,filter_cons->Xa,not_mem_nil->Xb,mem_flatMap->Xc,length_zipIdx->Xd,length_filterMap_le->Xf,mem_of_mem_drop->Xh,mem_append_left->Xi,flatten_cons->Xj,length_take_le->Xn,range_succ_eq_map->Xo,drop_of_length_le->Xp,append_eq_nil_iff->Xr,any_eq_true->Xu,flatMap_nil->Xv,cons_ne_nil->Xw,forall_mem_cons->XF,nodup_append->XG,filter_eq_self->XM,take_length->XQ,map_id'->XZ,filter_filter->X3,nodup_cons->X4,take_left'->X6,nil_append->X7,filter_congr->Yd,length_filter_lt_length_iff_exists->Ye,drop_eq_getElem_cons->Ys,replicate_succ->Yt,flatten_append->Yv,map_drop->Yw,forIn_cons->Yy,map_inj_left->YK,filter_eq_nil_iff->YR,map_nil->YS,drop_eq_nil_of_le->YU,dropLast_eq_take->YW,filterMap_append->YZ,mem_reverse->Y5,getElem_mem->Y7,isEmpty_map->Y8,getElem_map->Y9,map_take->Zc,length_zip->Zm,append_toArray->Zo,tail_drop->Zz,filterMap_nil->ZC,getElem_range->ZG,filter_append->ZH,zipIdx_cons->ZP,map_reverse->ZX,ext_getElem->ZZ,take_append_drop->aa5,drop_zero->aa7,drop_eq_nil_iff->aa9,nodup_nil->ab1,takeWhile_cons->ab8,zipIdx_map_fst->ac2,map_filterMap->ad2,pairwise_cons->ad4,map_id->af9,range->eg,replicate->ew,filterMap_cons->eO,find?_cons->fo,length_cons->f5,foldl_cons->hM,lookup_cons->hR,length->sA,map->ON,take_succ_cons->ae5,cons->af2,zip_cons_cons->ag3,foldl->ag7,flatten->ah1,drop->ai0,filterMap->ai8,getLast?->aj7,take_sublist->an9,reverse_cons->ao0,getElem?_map->ao1,find?_isSome->ao2,ext_getElem?->ao3,take_append->ap3,range'_succ->ap4,mem_nil_iff->ap5,drop_append->ap6,cons_append->ap7,take->aq1,zipIdx_nil->aq6,of_mem_zip->aq7,filter_nil->aq8,take_left->ar5,forIn_nil->ar6,drop_take->ar7,sum_cons->as4,any_cons->as5
open Bool renaming and_eq_true->Vq,not_eq_true'->Wn,or_eq_true->Wz,eq_false_iff->WT,eq_iff_iff->WW,and_true->W0,or_eq_false_iff->Yg,and_eq_true_iff->Ze,false_eq_true->Zv,or_true->Z4,and_false->aa6,or_eq_true_iff->ab7,or_false->ac6,true_and->as7,false_or->as8
open Nat renaming mul_le_mul_left->Vt,le_of_ble_eq_true->Vu,le_trans->Vw,le_refl->VM,le_add_right->VW,add_le_add->VZ,ble_eq_true_of_le->V0,zero_add->Wg,lt_of_le_of_lt->Wv,succ_le_succ->WB,zero_le->WK,le_of_not_lt->WP,ne_of_gt->WQ,eq_of_beq_eq_true->WU,add_assoc->WV,blt_eq->W9,add_sub_cancel_left->Xk,add_le_add_left->Xm,lt_trans->Xq,lt_irrefl->Xs,le_of_mul_le_mul_left->XC,min_le_right->XN,not_le_of_lt->XR,le_of_eq->XW,lt_of_lt_of_le->XY,min_le_left->X5,one_mul->Yj,min_eq_right->Yk,ne_of_lt->Yl,sub_self->Ym,min_eq_left->Yx,le_succ->YE,add_mul->YF,mul_div_cancel_left->YG,lt_add_of_pos_right->YH,le_of_lt->YM,le_succ_of_le->YT,add_zero->YV,lt_of_not_le->Y2,sub_le->Y6,mul_le_mul_right->Zf,sub_eq_of_eq_add->Zg,not_lt_zero->Zh,le_antisymm->Zi,le_add_left->Zn,mod_lt->ZD,ble_eq->ZE,le_of_succ_le->ZK,not_lt_of_le->ZO,succ_ne_self->ZU,mod_eq_of_lt->ZY,add_le_add_right->ab2,sub_le_of_le_add->ab3,div_le_of_le_mul->ab4,mul_le_mul->ab6,add_sub_cancel'->ac0,add_comm->ad5,lt_or_ge->ad7,succ_pos->af1,log2_lt->af6,ble->er,beq->mn,blt->nf,toDigits->w6,succ->ah6,lt_succ_of_le->an7,le_of_lt_succ->an8,lt_succ_self->ap2,mul_add_div->aq4
open Option renaming isSome_iff_exists->V4,bind_some->Wl,map_eq_some_iff->Ww,bind_eq_some_iff->XT,isNone_iff_eq_none->Yr,getD_some->Y0,map_some->nx,none->al1,map->am6,not_isSome->an4,isSome_map->an5
open Int renaming natCast_nonneg->Wf,fdiv_eq_ediv_of_nonneg->Wq,toNat_of_nonneg->XJ,ofNat_lt->XX,ofNat_le->YI,toNat_natCast->YN,ofNat_inj->Zb,not_lt->Zt,fmod_eq_emod_of_nonneg->ZF,ofNat->em,natCast_pow->ar0,le_antisymm->ar1,emod_nonneg->ar2,ediv_nonneg->ar3
open Array renaming any_toList->Y4
open PySem PySem.W PyProof.Rows PySem.Calls
open PySem.Value renaming ref->e0,builtin->e5,str->m7,none->q0,bytes->wx
open Ne renaming symm->hg
open PySem.Builtin.Range renaming rangeSize->hj,small->ae7
open And renaming elim->hJ,intro->w7
open PySem.Builtin.SmallTypes renaming nextOf->hK,ownedTupleHandOut->ae1
open PySem.PyData renaming keyHash->kV
open PySem.Str renaming ofString->m6,ofString->am2
open ForInStep renaming yield->nD
open PySem.Shared renaming heap->pk
open PySem.Stmt.Assign renaming elim->v6
open PySem.Expr.Attribute renaming elim->wy
open PySem.Builtin.Str renaming strSliceIndices->w2,strKind->al3
open PySem.Env renaming kindOf->x8
open PySem.NameKind renaming free->y5,cell->as2
open PySem.Expr.Tuple renaming elim->J1
open PySem.Expr.Slice renaming elim->KO
open PySem.Expr.Call renaming elim->ad8
open PySem.Builtin renaming bitAnd->ad9,bitOr->aj9
open PySem.W.Fast renaming tw14364793385576792824->ae8
open PySem.Expr.ListComp renaming elim->ag4
open PySem.Expr.Constant renaming elim->ag5
open PySem.Builtin.Bytes.joinM renaming match_1->ag6
open PySem.Txt renaming contains->ah0
open PySem.Data.fields renaming elim->ah3
open PySem.Value.str renaming elim->ai5
open PySem.Value.ref renaming elim->ai6
open PySem.Value.int renaming elim->ai7
open PySem.Expr.Name renaming elim->ai9
open PySem.Data.func renaming elim->aj0
open PySem.Const.str renaming elim->aj1
open PySem.Stmt.For renaming elim->aj5
open PySem.Data.cls renaming elim->aj8
open PySem.Bind renaming madeHere->ak0,madeBy->al2
open PySem.Stmt.FunctionDef renaming elim->ak8
open PySem.Stmt.ClassDef renaming elim->am1
open PySem.IsL renaming update->am7
open Char renaming ofNat->am8
open PySem.callAny renaming viaDunder->an3
open PySem.NumText renaming digitsVal->an6
open Function renaming comp_def->ao4
open PySem.Expr.UnaryOp renaming elim->ao5
open PySem.Stmt.While renaming elim->aq2
open PySem.Manifest renaming isStub->aq5
open PySem.Heap.DictOf renaming new->ar4
open PySem.FuncBody renaming stmts->ar9
open Eq renaming symm->am,trans->Vn
open PySem renaming wpAny_bind->Vm,wpAny_pure->Vs,wpAny_holding->VX,wpAny_field->V5,wpAny_of_eq->Wc,wpAny_standAt->We,wpAny_setField_rec->Wo,sizeLine_eq->Wr,wpAny_mono->WI,wpAny_seqItems->WL,wpAny_call_entry->WY,wpAny_loadName_local->WZ,wpAny_truthy_bool->W6,wpAny_Name->W8,wpAny_rule->Xl,call_meets->Xx,wpAny_setField->Xz,wpAny_execs_nil->XD,wpAny_release->XI,wpAny_onRaise->X8,getMethod_builtin->Yb,wpAny_newObj_type->Yc,codeAny_call_builtin->Yh,wpAny_execs_cons->Yn,typeIs_str->YA,wpAny_call->YB,wpAny_letGo->YC,wpAny_pyIter_list->YJ,wpAny_pyNext_list_item->YL,wpAny_newTuple->YO,wpAny_pyNext_list_end->YX,wpAny_askSetting->Y3,wpAny_attempt->Za,wpAny_updateSeq_pair->Zd,wpAny_typeOf->Zr,strKind_is->Zu,wpAny_loadPart->Zw,wpAny_ite_true->Zy,wpAny_pyIter_tuple->ZA,slot_list_append->ZQ,aRefKeyMayBeTheName_at->Z0,codeAny_mono->Z3,codeAny_of_tree->Z6,codeAny_builtin->Z7,wpAny_specialOf->Z8,wpAny_pyIter_listiter->aa3,wpAny_throw->ab0,wpAt_of_wpAny->ab9,plainId_quiet->ac3,wpAny_handled->ac4,wpAny_newList->ac5,typeIs_int->ac7,callType_new->ae0,wpAny_noted->af8,Value->ea,call->ec,wpAny->ed,mainGlobals->ef,Shared->eN,Scope->e6,exec->e7,isSubtype->gb,NameKind->hP,builtinsNs->hW,assignEach->hX,eval->j1,execs->j2,letOwnedTupleGo->j3,Around->kx,Setting->l4,foldedSetIterable->m4,rawInt->m5,isInstance->nc,importedModules->nw,model->n4,IsPair->p4,codeAny->p7,strKind->qn,Comprehension->qt,typeLookup->qu,compEnvC->us,checkBuiltinCall->u6,starEach->v7,swappedStores->v8,Operator->w5,sysModules->xd,cameBackBy->x6,holding->x9,slicePicked->y4,pyNext->z2,standAt->z3,treeTable->z4,compareOp->Ho,DictEntry->Ht,wpAny_loadPart'->Ic,loadName->KX,bindArgs->L0,markedEach->Po,pyIter->SF,assign->ad6,notedBy->ae2,backTo->ae9,sizeLine->af0,attributeBase->af4,assignInOrder->af5,newList->ag1,ExceptHandler->ag2,clipAt->ag8,IsEnum->ag9,cLine->ah2,compTurn->ah4,compPost->ah5,IsZip->ah7,sliceBounds->ai1,bindSpecial->ai2,methodCallForm->ai3,constantsAlone->ai4,typeOf->aj2,valueAt->aj4,field->ak2,Params->ak3,cellsFrom->ak5,assignAll->ak7,getItem->al0,stored->al4,evalEach->al8,binaryOp->al9,getattributeRaised->am0,wpAny_assign_Name->am9,slot_list_setitem->an0,sliceBounds_plain->an1,entry_list_append->an2,wpAny_updatePart->ao6,wpAny_lookBehind->ao7,wpAny_isInstance->ao8,pastItsLine_dict->ao9,entryFor_of_tree->ap0,args_list_append->ap1,Program->ap8,OsState->ap9,Fin->aq0,wpAt_bind->aq3,FuncData->as0,frameOf->as1
open Exists renaming elim->V7
open PySem.W.Looks renaming of_peek->Wk,ld->ae6,of_pure->as3
open PySem.Heap renaming lt_size->Wm,size_push->Wy,SameBut->pC,ExtBut->ae3
open LawfulBEq renaming eq_of_beq->WA
open PySem.F renaming slot_tuple_iterator_next->Xy,slot_enumerate_next->Ya,excBase_Exception->Yq,plainAttrs_list->YD,args_tuple_iterator_next_1->Zj,slot_zip_next->Zl,entry_tuple_iterator_next->Zs,args_str_split_2->Zx,entry_str_split->ZI,slot_str_split->ZR,args_enumerate_next_1->ZS,entry_enumerate_next->Z2,args_object_init_2->aa8,slot_str_ne_refl->ac8
open PySem.Obj renaming data_mapFields->XA,isFreed_of_fields->X9,cls_mapFields->ZJ,mapFields->qq,mapSeq->x7
open Classical renaming byContradiction->XB,propDecidable->ak1
open PySem.W renaming typeIs_bytes->XE,looks_findIn->Z1,looks_clsIn->af7,getL->hU,findIn->kt,Looks->ol,boot_heap->ql,emptyDict->v9,typeIn->ah8,hasDictIn->ah9,boot_drawn->aj3,clsIn->aj6,specialIn->ak4,boot_toks->ak6,instObj->ak9,keepIn->al5,openSeen->al6,handedIn->al7,mroIn->am3,namesBound->am4,check_slot->am5
open PySem.Heap.SameBut renaming update->Yu
open PySem.W.KBw renaming iter_typeIs->Zk,slot_next->ZM,pyIter_bytes->ZT,IsBytesIter->IA,ints_length->aq9,entry_next->ar8,args_next->as6
open PyProof renaming noPylong_of_log2->ZL
open PySem.Calls renaming callWith_builtin->ZV
open PySem.StrLaws renaming glued_eq_join->aa2
open PyProof.Rows renaming assign_Tuple_tuple->ad0,subscriptTail->af3
open PySem.Code renaming quiet_builtin->ad1
open Or renaming elim->ag0
abbrev a9(α:Type):=α->eN->Prop
abbrev a8:=a9 ea
def Vp:=@Option.some.inj
def Vr:=@Heap.get?_push_of_some
def Vx:=@decide_eq_true_eq
def Vz:=@decide_eq_true
def VF:=@of_decide_eq_true
def VG:=@List.getElem?_eq_getElem
def VH:=@Heap.get?_push_size
def VL:=@List.getD_eq_getElem?_getD
def VO:=@decide_eq_false
def VS:=@List.getElem?_append_left
def VT:=@congrArg
def VU:=@List.getElem?_append_right
def V1:=@decide_eq_decide
def V2:=@List.getElem?_eq_some_iff
def V6:=@Heap.get?_update_other
def Wb:=@beq_iff_eq
def Wd:=@congrFun
def WE:=@beq_eq_false_iff_ne
def WG:=@if_pos
def WH:=@Heap.get?_update_self
def WJ:=@List.getElem?_set_ne
def WM:=@Array.getElem?_eq_some_iff
def WO:=@if_neg
def WS:=@List.getElem?_set
def WX:=@of_decide_eq_false
def Xe:=@Array.getElem?_setIfInBounds_self_of_lt
def Xg:=@Heap.get?_none_of_le
def XH:=@List.cons.inj
def XU:=@Prod.mk.inj
def Yi:=@List.mem_of_getElem?
def Yo:=@List.mem_of_find?_eq_some
def Yp:=@List.getLast?_eq_getElem?
def Yz:=@Heap.get?_some_iff
def YQ:=@or_false
def Y1:=@beq_self_eq_true
def Zp:=@ne_true_of_eq_false
def Zq:=@if_true
def ZN:=@Prod.mk.injEq
def ZW:=@List.getElem?_singleton
def Z5:=@List.find?_some
def Z9:=@List.head?_drop
def aa0:=@Array.getElem?_mapIdx
def aa1:=@List.getElem?_toArray
def aa4:=@List.getElem?_eq_none
def ab5:=@List.getLast?_append
def ac1:=@List.getElem?_range
def ac9:=@List.findIdx?_cons
def ad3:=@List.find?_eq_none
def ae4:=@Nat.succ.inj
section
variable{A B D E F G H I J K L M N O Q:Type}
def qe1(_:Nonempty A)(P:A->Prop):A:=Classical.epsilon λa=>¬P a
theorem qeN{α:Type}(i:Nonempty α:=by repeat' first|exact default|constructor|intro _):Nonempty α:=i
theorem qE1{P:A->Prop}(i)(h:P (qe1 i P)):∀a,P a:=λa=>Classical.byContradiction λk=>absurd h (Classical.epsilon_spec (p:=λa=>¬P a) ⟨a,k⟩)
def qe2(i:Nonempty (A×B))(P:A->B->Prop):=qe1 i λx=>P x.1 x.2
theorem qE2{P:A->B->Prop}(i)(h:P (qe2 i P).1 (qe2 i P).2):∀a b,P a b:=λa b=>qE1 (P:=λ(x:A×B)=>P x.1 x.2) i h (a,b)
def qe4(i:Nonempty (A×B×D×E))(P:A->B->D->E->Prop):=qe2 i λa x=>P a x.1 x.2.1 x.2.2
theorem qE4{P:A->B->D->E->Prop}(i)(h:P (qe4 i P).1 (qe4 i P).2.1 (qe4 i P).2.2.1 (qe4 i P).2.2.2):∀a b c d,P a b c d:=λa b c d=>qE2 (P:=λa(x:B×D×E)=>P a x.1 x.2.1 x.2.2) i h a (b,c,d)
def qe7(i:Nonempty (A×B×D×E×F×G×H))(P:A->B->D->E->F->G->H->Prop):=qe4 i λa b c x=>P a b c x.1 x.2.1 x.2.2.1 x.2.2.2
theorem qE7{P:A->B->D->E->F->G->H->Prop}(i)(h:P (qe7 i P).1 (qe7 i P).2.1 (qe7 i P).2.2.1 (qe7 i P).2.2.2.1 (qe7 i P).2.2.2.2.1 (qe7 i P).2.2.2.2.2.1 (qe7 i P).2.2.2.2.2.2):∀a b c d e f g,P a b c d e f g:=λa b c d e f g=>qE4 (P:=λa b c(x:E×F×G×H)=>P a b c x.1 x.2.1 x.2.2.1 x.2.2.2) i h a b c (d,e,f,g)
def qe11(i:Nonempty (A×B×D×E×F×G×H×I×J×K×L))(P:A->B->D->E->F->G->H->I->J->K->L->Prop):=qe7 i λa b c d e f x=>P a b c d e f x.1 x.2.1 x.2.2.1 x.2.2.2.1 x.2.2.2.2
theorem qE11{P:A->B->D->E->F->G->H->I->J->K->L->Prop}(i)(h:P (qe11 i P).1 (qe11 i P).2.1 (qe11 i P).2.2.1 (qe11 i P).2.2.2.1 (qe11 i P).2.2.2.2.1 (qe11 i P).2.2.2.2.2.1 (qe11 i P).2.2.2.2.2.2.1 (qe11 i P).2.2.2.2.2.2.2.1 (qe11 i P).2.2.2.2.2.2.2.2.1 (qe11 i P).2.2.2.2.2.2.2.2.2.1 (qe11 i P).2.2.2.2.2.2.2.2.2.2):∀a b c d e f g j k l m,P a b c d e f g j k l m:=λa b c d e f g j k l m=>qE7 (P:=λa b c d e f(x:H×I×J×K×L)=>P a b c d e f x.1 x.2.1 x.2.2.1 x.2.2.2.1 x.2.2.2.2) i h a b c d e f (g,j,k,l,m)
def qe15(i:Nonempty (A×B×D×E×F×G×H×I×J×K×L×M×N×O×Q))(P:A->B->D->E->F->G->H->I->J->K->L->M->N->O->Q->Prop):=qe11 i λa b c d e f g j k l x=>P a b c d e f g j k l x.1 x.2.1 x.2.2.1 x.2.2.2.1 x.2.2.2.2
theorem qE15{P:A->B->D->E->F->G->H->I->J->K->L->M->N->O->Q->Prop}(i)(h:P (qe15 i P).1 (qe15 i P).2.1 (qe15 i P).2.2.1 (qe15 i P).2.2.2.1 (qe15 i P).2.2.2.2.1 (qe15 i P).2.2.2.2.2.1 (qe15 i P).2.2.2.2.2.2.1 (qe15 i P).2.2.2.2.2.2.2.1 (qe15 i P).2.2.2.2.2.2.2.2.1 (qe15 i P).2.2.2.2.2.2.2.2.2.1 (qe15 i P).2.2.2.2.2.2.2.2.2.2.1 (qe15 i P).2.2.2.2.2.2.2.2.2.2.2.1 (qe15 i P).2.2.2.2.2.2.2.2.2.2.2.2.1 (qe15 i P).2.2.2.2.2.2.2.2.2.2.2.2.2.1 (qe15 i P).2.2.2.2.2.2.2.2.2.2.2.2.2.2):∀a b c d e f g j k l m n o p q,P a b c d e f g j k l m n o p q:=λa b c d e f g j k l m n o p q=>qE11 (P:=λa b c d e f g j k l(x:L×M×N×O×Q)=>P a b c d e f g j k l x.1 x.2.1 x.2.2.1 x.2.2.2.1 x.2.2.2.2) i h a b c d e f g j k l (m,n,o,p,q)
end
section
variable{α β γ δ ε ζ η:Sort _}{C:Prop}
theorem m_03{A B D:Prop}(a:A)(b:B)(c:D):A/\B/\D:=⟨a,⟨b,c⟩⟩
theorem kS{A B D E:Prop}(a:A)(b:B)(c:D)(d:E):A/\B/\D/\E:=⟨a,m_03 b c d⟩
theorem Cn{A B D E F:Prop}(a:A)(b:B)(c:D)(d:E)(e:F):A/\B/\D/\E/\F:=⟨a,kS b c d e⟩
theorem Fd{A B D E F G:Prop}(a:A)(b:B)(c:D)(d:E)(e:F)(f:G):A/\B/\D/\E/\F/\G:=⟨a,Cn b c d e f⟩
theorem Ry{A B D E F G H:Prop}(a:A)(b:B)(c:D)(d:E)(e:F)(f:G)(g:H):A/\B/\D/\E/\F/\G/\H:=⟨a,Fd b c d e f g⟩
theorem TB{A B D E F G H I:Prop}(a:A)(b:B)(c:D)(d:E)(e:F)(f:G)(g:H)(h:I):A/\B/\D/\E/\F/\G/\H/\I:=⟨a,Ry b c d e f g h⟩
theorem TC{A B D E F G H I J:Prop}(a:A)(b:B)(c:D)(d:E)(e:F)(f:G)(g:H)(h:I)(i:J):A/\B/\D/\E/\F/\G/\H/\I/\J:=⟨a,TB b c d e f g h i⟩
theorem m_12{A B:α->Prop}(x:α)(a:A x)(b:B x):∃x,A x/\B x:=⟨x,⟨a,b⟩⟩
theorem ia{A B D:α->Prop}(x:α)(a:A x)(b:B x)(c:D x):∃x,A x/\B x/\D x:=⟨x,m_03 a b c⟩
theorem Fe{A B D E:α->Prop}(x:α)(a:A x)(b:B x)(c:D x)(d:E x):∃x,A x/\B x/\D x/\E x:=⟨x,kS a b c d⟩
theorem Rz{A B D E F:α->Prop}(x:α)(a:A x)(b:B x)(c:D x)(d:E x)(e:F x):∃x,A x/\B x/\D x/\E x/\F x:=⟨x,Cn a b c d e⟩
theorem TF{A B D E F G:α->Prop}(x:α)(a:A x)(b:B x)(c:D x)(d:E x)(e:F x)(f:G x):∃x,A x/\B x/\D x/\E x/\F x/\G x:=⟨x,Fd a b c d e f⟩
theorem TG{A B D E F G H:α->Prop}(x:α)(a:A x)(b:B x)(c:D x)(d:E x)(e:F x)(f:G x)(g:H x):∃x,A x/\B x/\D x/\E x/\F x/\G x/\H x:=⟨x,Ry a b c d e f g⟩
theorem TH{A B D E F G H I J:α->Prop}(x:α)(a:A x)(b:B x)(c:D x)(d:E x)(e:F x)(f:G x)(g:H x)(h:I x)(i:J x):∃x,A x/\B x/\D x/\E x/\F x/\G x/\H x/\I x/\J x:=⟨x,TC a b c d e f g h i⟩
theorem nv{A:α->β->Prop}(x:α)(y:β)(a:A x y):∃x y,A x y:=⟨x,y,a⟩
theorem m_22{A B:α->β->Prop}(x:α)(y:β)(a:A x y)(b:B x y):∃x y,A x y/\B x y:=⟨x,m_12 y a b⟩
theorem rF{A B D:α->β->Prop}(x:α)(y:β)(a:A x y)(b:B x y)(c:D x y):∃x y,A x y/\B x y/\D x y:=⟨x,ia y a b c⟩
theorem Hg{A B D E:α->β->Prop}(x:α)(y:β)(a:A x y)(b:B x y)(c:D x y)(d:E x y):∃x y,A x y/\B x y/\D x y/\E x y:=⟨x,Fe y a b c d⟩
theorem TJ{A B D E F:α->β->Prop}(x:α)(y:β)(a:A x y)(b:B x y)(c:D x y)(d:E x y)(e:F x y):∃x y,A x y/\B x y/\D x y/\E x y/\F x y:=⟨x,Rz y a b c d e⟩
theorem TK{A B D E F G:α->β->Prop}(x:α)(y:β)(a:A x y)(b:B x y)(c:D x y)(d:E x y)(e:F x y)(f:G x y):∃x y,A x y/\B x y/\D x y/\E x y/\F x y/\G x y:=⟨x,TF y a b c d e f⟩
theorem TL{A B D E F G H:α->β->Prop}(x:α)(y:β)(a:A x y)(b:B x y)(c:D x y)(d:E x y)(e:F x y)(f:G x y)(g:H x y):∃x y,A x y/\B x y/\D x y/\E x y/\F x y/\G x y/\H x y:=⟨x,TG y a b c d e f g⟩
theorem RA{A B D E F G H I J:α->β->Prop}(x:α)(y:β)(a:A x y)(b:B x y)(c:D x y)(d:E x y)(e:F x y)(f:G x y)(g:H x y)(h:I x y)(i:J x y):∃x y,A x y/\B x y/\D x y/\E x y/\F x y/\G x y/\H x y/\I x y/\J x y:=⟨x,TH y a b c d e f g h i⟩
theorem RB{A:α->β->γ->Prop}(x:α)(y:β)(z:γ)(a:A x y z):∃x y z,A x y z:=⟨x,nv y z a⟩
theorem m_32{A B:α->β->γ->Prop}(x:α)(y:β)(z:γ)(a:A x y z)(b:B x y z):∃x y z,A x y z/\B x y z:=⟨x,m_22 y z a b⟩
theorem m_33{A B D:α->β->γ->Prop}(x:α)(y:β)(z:γ)(a:A x y z)(b:B x y z)(c:D x y z):∃x y z,A x y z/\B x y z/\D x y z:=⟨x,rF y z a b c⟩
theorem gO{A B D E:α->β->γ->Prop}(x:α)(y:β)(z:γ)(a:A x y z)(b:B x y z)(c:D x y z)(d:E x y z):∃x y z,A x y z/\B x y z/\D x y z/\E x y z:=⟨x,Hg y z a b c d⟩
theorem LP{A B D E F:α->β->γ->Prop}(x:α)(y:β)(z:γ)(a:A x y z)(b:B x y z)(c:D x y z)(d:E x y z)(e:F x y z):∃x y z,A x y z/\B x y z/\D x y z/\E x y z/\F x y z:=⟨x,TJ y z a b c d e⟩
theorem RC{A B D E F G:α->β->γ->Prop}(x:α)(y:β)(z:γ)(a:A x y z)(b:B x y z)(c:D x y z)(d:E x y z)(e:F x y z)(f:G x y z):∃x y z,A x y z/\B x y z/\D x y z/\E x y z/\F x y z/\G x y z:=⟨x,TK y z a b c d e f⟩
theorem LQ{A B D E F G H:α->β->γ->Prop}(x:α)(y:β)(z:γ)(a:A x y z)(b:B x y z)(c:D x y z)(d:E x y z)(e:F x y z)(f:G x y z)(g:H x y z):∃x y z,A x y z/\B x y z/\D x y z/\E x y z/\F x y z/\G x y z/\H x y z:=⟨x,TL y z a b c d e f g⟩
theorem TM{A B D E F G H I J:α->β->γ->Prop}(x:α)(y:β)(z:γ)(a:A x y z)(b:B x y z)(c:D x y z)(d:E x y z)(e:F x y z)(f:G x y z)(g:H x y z)(h:I x y z)(i:J x y z):∃x y z,A x y z/\B x y z/\D x y z/\E x y z/\F x y z/\G x y z/\H x y z/\I x y z/\J x y z:=⟨x,RA y z a b c d e f g h i⟩
theorem LU{A B:α->β->γ->δ->Prop}(x:α)(y:β)(z:γ)(u:δ)(a:A x y z u)(b:B x y z u):∃x y z u,A x y z u/\B x y z u:=⟨x,m_32 y z u a b⟩
theorem LV{A B D:α->β->γ->δ->Prop}(x:α)(y:β)(z:γ)(u:δ)(a:A x y z u)(b:B x y z u)(c:D x y z u):∃x y z u,A x y z u/\B x y z u/\D x y z u:=⟨x,m_33 y z u a b c⟩
theorem Ff{A B D E:α->β->γ->δ->Prop}(x:α)(y:β)(z:γ)(u:δ)(a:A x y z u)(b:B x y z u)(c:D x y z u)(d:E x y z u):∃x y z u,A x y z u/\B x y z u/\D x y z u/\E x y z u:=⟨x,gO y z u a b c d⟩
theorem oI{A B D E F:α->β->γ->δ->Prop}(x:α)(y:β)(z:γ)(u:δ)(a:A x y z u)(b:B x y z u)(c:D x y z u)(d:E x y z u)(e:F x y z u):∃x y z u,A x y z u/\B x y z u/\D x y z u/\E x y z u/\F x y z u:=⟨x,LP y z u a b c d e⟩
theorem LW{A B D E F G:α->β->γ->δ->Prop}(x:α)(y:β)(z:γ)(u:δ)(a:A x y z u)(b:B x y z u)(c:D x y z u)(d:E x y z u)(e:F x y z u)(f:G x y z u):∃x y z u,A x y z u/\B x y z u/\D x y z u/\E x y z u/\F x y z u/\G x y z u:=⟨x,RC y z u a b c d e f⟩
theorem TN{A B D E F G H:α->β->γ->δ->Prop}(x:α)(y:β)(z:γ)(u:δ)(a:A x y z u)(b:B x y z u)(c:D x y z u)(d:E x y z u)(e:F x y z u)(f:G x y z u)(g:H x y z u):∃x y z u,A x y z u/\B x y z u/\D x y z u/\E x y z u/\F x y z u/\G x y z u/\H x y z u:=⟨x,LQ y z u a b c d e f g⟩
theorem TP{A B D E F G H I J:α->β->γ->δ->Prop}(x:α)(y:β)(z:γ)(u:δ)(a:A x y z u)(b:B x y z u)(c:D x y z u)(d:E x y z u)(e:F x y z u)(f:G x y z u)(g:H x y z u)(h:I x y z u)(i:J x y z u):∃x y z u,A x y z u/\B x y z u/\D x y z u/\E x y z u/\F x y z u/\G x y z u/\H x y z u/\I x y z u/\J x y z u:=⟨x,TM y z u a b c d e f g h i⟩
theorem TQ{A B:α->β->γ->δ->ε->Prop}(x:α)(y:β)(z:γ)(u:δ)(v:ε)(a:A x y z u v)(b:B x y z u v):∃x y z u v,A x y z u v/\B x y z u v:=⟨x,LU y z u v a b⟩
theorem RE{A B D E:α->β->γ->δ->ε->Prop}(x:α)(y:β)(z:γ)(u:δ)(v:ε)(a:A x y z u v)(b:B x y z u v)(c:D x y z u v)(d:E x y z u v):∃x y z u v,A x y z u v/\B x y z u v/\D x y z u v/\E x y z u v:=⟨x,Ff y z u v a b c d⟩
theorem TR{A B D E F:α->β->γ->δ->ε->Prop}(x:α)(y:β)(z:γ)(u:δ)(v:ε)(a:A x y z u v)(b:B x y z u v)(c:D x y z u v)(d:E x y z u v)(e:F x y z u v):∃x y z u v,A x y z u v/\B x y z u v/\D x y z u v/\E x y z u v/\F x y z u v:=⟨x,oI y z u v a b c d e⟩
theorem TS{A B D E F G:α->β->γ->δ->ε->Prop}(x:α)(y:β)(z:γ)(u:δ)(v:ε)(a:A x y z u v)(b:B x y z u v)(c:D x y z u v)(d:E x y z u v)(e:F x y z u v)(f:G x y z u v):∃x y z u v,A x y z u v/\B x y z u v/\D x y z u v/\E x y z u v/\F x y z u v/\G x y z u v:=⟨x,LW y z u v a b c d e f⟩
theorem RF{A B D E:α->β->γ->δ->ε->ζ->Prop}(x:α)(y:β)(z:γ)(u:δ)(v:ε)(w:ζ)(a:A x y z u v w)(b:B x y z u v w)(c:D x y z u v w)(d:E x y z u v w):∃x y z u v w,A x y z u v w/\B x y z u v w/\D x y z u v w/\E x y z u v w:=⟨x,RE y z u v w a b c d⟩
theorem TT{A B D E F G:α->β->γ->δ->ε->ζ->Prop}(x:α)(y:β)(z:γ)(u:δ)(v:ε)(w:ζ)(a:A x y z u v w)(b:B x y z u v w)(c:D x y z u v w)(d:E x y z u v w)(e:F x y z u v w)(f:G x y z u v w):∃x y z u v w,A x y z u v w/\B x y z u v w/\D x y z u v w/\E x y z u v w/\F x y z u v w/\G x y z u v w:=⟨x,TS y z u v w a b c d e f⟩
theorem mL{A B D:Prop}(h:A/\B/\D)(k:A->B->D->C):C:=hJ (λa q=>hJ (k a) q) h
theorem rG{A B D E:Prop}(h:A/\B/\D/\E)(k:A->B->D->E->C):C:=hJ (λa q=>mL q (k a)) h
theorem Hh{A B D E F:Prop}(h:A/\B/\D/\E/\F)(k:A->B->D->E->F->C):C:=hJ (λa q=>rG q (k a)) h
theorem Pb{A B D E F G:Prop}(h:A/\B/\D/\E/\F/\G)(k:A->B->D->E->F->G->C):C:=hJ (λa q=>Hh q (k a)) h
theorem LX{A B D E F G H:Prop}(h:A/\B/\D/\E/\F/\G/\H)(k:A->B->D->E->F->G->H->C):C:=hJ (λa q=>Pb q (k a)) h
theorem RH{A B D E F G H I:Prop}(h:A/\B/\D/\E/\F/\G/\H/\I)(k:A->B->D->E->F->G->H->I->C):C:=hJ (λa q=>LX q (k a)) h
theorem TU{A B D E F G H I J:Prop}(h:A/\B/\D/\E/\F/\G/\H/\I/\J)(k:A->B->D->E->F->G->H->I->J->C):C:=hJ (λa q=>RH q (k a)) h
theorem x_12{A B:α->Prop}(h:∃x,A x/\B x)(k:∀x,A x->B x->C):C:=h.elim λx q=>hJ (k x) q
theorem gJ{A B D:α->Prop}(h:∃x,A x/\B x/\D x)(k:∀x,A x->B x->D x->C):C:=h.elim λx q=>mL q (k x)
theorem LY{A B D E:α->Prop}(h:∃x,A x/\B x/\D x/\E x)(k:∀x,A x->B x->D x->E x->C):C:=h.elim λx q=>rG q (k x)
theorem Hi{A B D E F:α->Prop}(h:∃x,A x/\B x/\D x/\E x/\F x)(k:∀x,A x->B x->D x->E x->F x->C):C:=h.elim λx q=>Hh q (k x)
theorem TV{A B D E F G:α->Prop}(h:∃x,A x/\B x/\D x/\E x/\F x/\G x)(k:∀x,A x->B x->D x->E x->F x->G x->C):C:=h.elim λx q=>Pb q (k x)
theorem TX{A B D E F G H:α->Prop}(h:∃x,A x/\B x/\D x/\E x/\F x/\G x/\H x)(k:∀x,A x->B x->D x->E x->F x->G x->H x->C):C:=h.elim λx q=>LX q (k x)
theorem TY{A B D E F G H I J:α->Prop}(h:∃x,A x/\B x/\D x/\E x/\F x/\G x/\H x/\I x/\J x)(k:∀x,A x->B x->D x->E x->F x->G x->H x->I x->J x->C):C:=h.elim λx q=>TU q (k x)
theorem kT{A:α->β->Prop}(h:∃x y,A x y)(k:∀x y,A x y->C):C:=h.elim λx q=>q.elim (k x)
theorem d6{A B:α->β->Prop}(h:∃x y,A x y/\B x y)(k:∀x y,A x y->B x y->C):C:=h.elim λx q=>x_12 q (k x)
theorem fw{A B D:α->β->Prop}(h:∃x y,A x y/\B x y/\D x y)(k:∀x y,A x y->B x y->D x y->C):C:=h.elim λx q=>gJ q (k x)
theorem LZ{A B D E:α->β->Prop}(h:∃x y,A x y/\B x y/\D x y/\E x y)(k:∀x y,A x y->B x y->D x y->E x y->C):C:=h.elim λx q=>LY q (k x)
theorem TZ{A B D E F:α->β->Prop}(h:∃x y,A x y/\B x y/\D x y/\E x y/\F x y)(k:∀x y,A x y->B x y->D x y->E x y->F x y->C):C:=h.elim λx q=>Hi q (k x)
theorem T4{A B D E F G:α->β->Prop}(h:∃x y,A x y/\B x y/\D x y/\E x y/\F x y/\G x y)(k:∀x y,A x y->B x y->D x y->E x y->F x y->G x y->C):C:=h.elim λx q=>TV q (k x)
theorem T5{A B D E F G H:α->β->Prop}(h:∃x y,A x y/\B x y/\D x y/\E x y/\F x y/\G x y/\H x y)(k:∀x y,A x y->B x y->D x y->E x y->F x y->G x y->H x y->C):C:=h.elim λx q=>TX q (k x)
theorem T6{A B D E F G H I J:α->β->Prop}(h:∃x y,A x y/\B x y/\D x y/\E x y/\F x y/\G x y/\H x y/\I x y/\J x y)(k:∀x y,A x y->B x y->D x y->E x y->F x y->G x y->H x y->I x y->J x y->C):C:=h.elim λx q=>TY q (k x)
theorem Pc{A:α->β->γ->Prop}(h:∃x y z,A x y z)(k:∀x y z,A x y z->C):C:=h.elim λx q=>kT q (k x)
theorem fi{A B:α->β->γ->Prop}(h:∃x y z,A x y z/\B x y z)(k:∀x y z,A x y z->B x y z->C):C:=h.elim λx q=>d6 q (k x)
theorem bw{A B D:α->β->γ->Prop}(h:∃x y z,A x y z/\B x y z/\D x y z)(k:∀x y z,A x y z->B x y z->D x y z->C):C:=h.elim λx q=>fw q (k x)
theorem x_34{A B D E:α->β->γ->Prop}(h:∃x y z,A x y z/\B x y z/\D x y z/\E x y z)(k:∀x y z,A x y z->B x y z->D x y z->E x y z->C):C:=h.elim λx q=>LZ q (k x)
theorem Pd{A B D E F:α->β->γ->Prop}(h:∃x y z,A x y z/\B x y z/\D x y z/\E x y z/\F x y z)(k:∀x y z,A x y z->B x y z->D x y z->E x y z->F x y z->C):C:=h.elim λx q=>TZ q (k x)
theorem x_36{A B D E F G:α->β->γ->Prop}(h:∃x y z,A x y z/\B x y z/\D x y z/\E x y z/\F x y z/\G x y z)(k:∀x y z,A x y z->B x y z->D x y z->E x y z->F x y z->G x y z->C):C:=h.elim λx q=>T4 q (k x)
theorem RI{A B D E F G H:α->β->γ->Prop}(h:∃x y z,A x y z/\B x y z/\D x y z/\E x y z/\F x y z/\G x y z/\H x y z)(k:∀x y z,A x y z->B x y z->D x y z->E x y z->F x y z->G x y z->H x y z->C):C:=h.elim λx q=>T5 q (k x)
theorem T7{A B D E F G H I J:α->β->γ->Prop}(h:∃x y z,A x y z/\B x y z/\D x y z/\E x y z/\F x y z/\G x y z/\H x y z/\I x y z/\J x y z)(k:∀x y z,A x y z->B x y z->D x y z->E x y z->F x y z->G x y z->H x y z->I x y z->J x y z->C):C:=h.elim λx q=>T6 q (k x)
theorem RJ{A B:α->β->γ->δ->Prop}(h:∃x y z u,A x y z u/\B x y z u)(k:∀x y z u,A x y z u->B x y z u->C):C:=h.elim λx q=>fi q (k x)
theorem xY{A B D:α->β->γ->δ->Prop}(h:∃x y z u,A x y z u/\B x y z u/\D x y z u)(k:∀x y z u,A x y z u->B x y z u->D x y z u->C):C:=h.elim λx q=>bw q (k x)
theorem RK{A B D E:α->β->γ->δ->Prop}(h:∃x y z u,A x y z u/\B x y z u/\D x y z u/\E x y z u)(k:∀x y z u,A x y z u->B x y z u->D x y z u->E x y z u->C):C:=h.elim λx q=>x_34 q (k x)
theorem zQ{A B D E F:α->β->γ->δ->Prop}(h:∃x y z u,A x y z u/\B x y z u/\D x y z u/\E x y z u/\F x y z u)(k:∀x y z u,A x y z u->B x y z u->D x y z u->E x y z u->F x y z u->C):C:=h.elim λx q=>Pd q (k x)
theorem Fg{A B D E F G:α->β->γ->δ->Prop}(h:∃x y z u,A x y z u/\B x y z u/\D x y z u/\E x y z u/\F x y z u/\G x y z u)(k:∀x y z u,A x y z u->B x y z u->D x y z u->E x y z u->F x y z u->G x y z u->C):C:=h.elim λx q=>x_36 q (k x)
theorem T8{A B D E F G H I J:α->β->γ->δ->Prop}(h:∃x y z u,A x y z u/\B x y z u/\D x y z u/\E x y z u/\F x y z u/\G x y z u/\H x y z u/\I x y z u/\J x y z u)(k:∀x y z u,A x y z u->B x y z u->D x y z u->E x y z u->F x y z u->G x y z u->H x y z u->I x y z u->J x y z u->C):C:=h.elim λx q=>T7 q (k x)
theorem Pe{A B:α->β->γ->δ->ε->Prop}(h:∃x y z u v,A x y z u v/\B x y z u v)(k:∀x y z u v,A x y z u v->B x y z u v->C):C:=h.elim λx q=>RJ q (k x)
theorem RL{A B D E:α->β->γ->δ->ε->Prop}(h:∃x y z u v,A x y z u v/\B x y z u v/\D x y z u v/\E x y z u v)(k:∀x y z u v,A x y z u v->B x y z u v->D x y z u v->E x y z u v->C):C:=h.elim λx q=>RK q (k x)
theorem T9{A B D E F:α->β->γ->δ->ε->Prop}(h:∃x y z u v,A x y z u v/\B x y z u v/\D x y z u v/\E x y z u v/\F x y z u v)(k:∀x y z u v,A x y z u v->B x y z u v->D x y z u v->E x y z u v->F x y z u v->C):C:=h.elim λx q=>zQ q (k x)
theorem Ua{A B D E F G:α->β->γ->δ->ε->Prop}(h:∃x y z u v,A x y z u v/\B x y z u v/\D x y z u v/\E x y z u v/\F x y z u v/\G x y z u v)(k:∀x y z u v,A x y z u v->B x y z u v->D x y z u v->E x y z u v->F x y z u v->G x y z u v->C):C:=h.elim λx q=>Fg q (k x)
theorem Ub{A B:α->β->γ->δ->ε->ζ->Prop}(h:∃x y z u v w,A x y z u v w/\B x y z u v w)(k:∀x y z u v w,A x y z u v w->B x y z u v w->C):C:=h.elim λx q=>Pe q (k x)
theorem RM{A B D E:α->β->γ->δ->ε->ζ->Prop}(h:∃x y z u v w,A x y z u v w/\B x y z u v w/\D x y z u v w/\E x y z u v w)(k:∀x y z u v w,A x y z u v w->B x y z u v w->D x y z u v w->E x y z u v w->C):C:=h.elim λx q=>RL q (k x)
theorem Pf{A B D E F G:α->β->γ->δ->ε->ζ->Prop}(h:∃x y z u v w,A x y z u v w/\B x y z u v w/\D x y z u v w/\E x y z u v w/\F x y z u v w/\G x y z u v w)(k:∀x y z u v w,A x y z u v w->B x y z u v w->D x y z u v w->E x y z u v w->F x y z u v w->G x y z u v w->C):C:=h.elim λx q=>Ua q (k x)
end
theorem RN{a:Sort _}{K:Sort _}{c:K}{f:a->K}{Q:K->Prop}(h:∃x,c=f x)(k:∀x,Q (f x)):Q c:=by obtain⟨x,rfl⟩:=h;rwa[k x]
theorem ba{G:Prop}(h:(G->False)->False):G:=XB h
theorem Pg{a b c C:Prop}(h:a\/b\/c)(x:a->C)(y:b->C)(z:c->C):C:=by rcases h with h|h|h;rwa[x h];rwa[y h];rwa[z h]
theorem gm{C:Prop}(h:false=true):C:=nomatch h
theorem k_tf{C:Prop}(h:true=false):C:=nomatch h
theorem k_nn{a:Type _}{x:a}{C:Prop}(h:none=some x):C:=nomatch h
theorem k_sn{a:Type _}{x:a}{C:Prop}(h:some x=none):C:=nomatch h
theorem L1{a:Type _}{x:a}{l:List a}{C:Prop}(h:[]=x::l):C:=nomatch h
theorem k_cn{a:Type _}{x:a}{l:List a}{C:Prop}(h:x::l=[]):C:=nomatch h
theorem L2{C:Prop}(h:0=n+1):C:=nomatch h
theorem Hj{C:Prop}(h:n+1=0):C:=nomatch h
theorem k_mn{a:Type _}{x:a}{C:Prop}(h:x∈([]:List a)):C:=nomatch h
theorem Uc{C:Prop}(h:n<0):C:=absurd h (Zh n)
theorem m8{b:Nat}(h:a=b):a<=b:=XW h
theorem so{b:Nat}(h:a=b):b<=a:=XW h.symm
theorem a_1{y:Nat}(h:a<=b)(e:x+b<=y+a:=by simp +arith only):x<=y:=Nat.le_of_add_le_add_right (Vw e (Xm h y))
theorem a_2{y:Nat}(h:a<=b)(i:c<=d)(e:x+(b+d)<=y+(a+c):=by simp +arith only):x<=y:=a_1 (VZ h i) e
theorem mM{y:Nat}(h:a<=b)(i:c<=d)(j:p<=q)(e:x+(b+d+q)<=y+(a+c+p):=by simp +arith only):x<=y:=a_1 (VZ (VZ h i) j) e
theorem D4{y:Nat}(h:a<=b)(i:c<=d)(j:p<=q)(k:r<=s)(e:x+(b+d+q+s)<=y+(a+c+p+r):=by simp +arith only):x<=y:=a_1 (VZ (VZ (VZ h i) j) k) e
theorem Ud(h:a<=b)(e:b+1<=a:=by simp +arith only):False:=Nat.not_succ_le_self b (Vw e h)
theorem Ue(h:a<=b)(i:c<=d)(e:b+d+1<=a+c:=by simp +arith only):False:=Ud (VZ h i) e
theorem Ug{y:Nat}(h:a<=b)(i:c<=d)(j:p<=q)(k:r<=s)(l:t<=u)(e:x+(b+d+q+s+u)<=y+(a+c+p+r+t):=by simp +arith only):x<=y:=a_1 (VZ (VZ (VZ (VZ h i) j) k) l) e
theorem Uh(a b:Nat):a<=a-b+b:=Nat.le_add_of_sub_le (VM _)
theorem RP(b:Bool){C:Prop}(f:b=false->C)(t:b=true->C):C:=by cases b;rwa[f rfl];rwa[t rfl]
theorem Co{a:Type _}(o:Option a){C:Prop}(n:o=none->C)(s:∀x,o=some x->C):C:=by cases o;rwa[n rfl];rwa[s _ rfl]
theorem xZ{y:Int}(h:a<=b)(e:x+b<=y+a:=by simp +arith only):x<=y:=Int.le_of_add_le_add_right (Int.le_trans e (Int.add_le_add_left h y))
section
variable{α β γ δ:Type}{a:Addr}{p X YY:Addr->Prop}{b:Bool}{h h' F h₁:Heap}{ts:List Expr}{i:List UInt8}{ss l:List α}{n:Nat}{o:Option α}{P:Prop}{t:Sem α}{s s':eN}{c:ea}{E:a8}{k:α->Sem γ}{Q:a9 α}
inductive Dat where|none|bool(b:Bool)|int(i:Int)|str(s:List Nat)|bytes(b:List UInt8)|tuple(xs:List Dat)|list(xs:List Dat)|dict(ks:List (List Nat))(vs:List Dat)|obj(c:Str)(ns:List Str)(vs:List Dat)|fn(f:Str)
variable{x:Dat}{d xs:List Dat}
inductive V where|d(x:Dat)|cell(n:Nat)
variable{v:V}
inductive aX where|list(xs:List Dat)|dict(ks:List (List Nat))(vs:List Dat)|inst(c:Str)(ns:List Str)(vs:List Dat)|dead
noncomputable abbrev ae:=List aX
variable{σ σ':ae}
set_option genInjectivity true in inductive Res(α:Type)where|ok(a:α)(σ:ae)|exc(c:Str)(σ:ae)|stuck
variable{f:γ->Res β}
abbrev M(α:Type):=ae->Res α
noncomputable def ret(a:α):M α:=λσ=>.ok a σ
noncomputable def stq:M α:=λY=>.stuck
noncomputable def D5(c:Str):M α:=λσ=>.exc c σ
noncomputable def aa(m:M α)(f:α->M β):M β:=λσ=>match m σ with|.ok a σ'=>f a σ'|.exc c σ'=>.exc c σ'|.stuck=>.stuck
noncomputable def S(x:String):Str:=m6 x
noncomputable def T(x:String):List Nat:=(m6 x).cps.toList
noncomputable def SL:Nat:=2^24
noncomputable def short(i:Int):Bool:=nf i.natAbs (2^64)
noncomputable def look(k:Str):List Str->List α->Option α
|n::ns,v::vs=>match k==n with|true=>some v|false=>look k ns vs
|_,_=>none
noncomputable def put(k:Str)(x:α):List Str->List α->List Str×List α
|n::ns,v::vs=>match k==n with|true=>(n::ns,x::vs)|false=>let r:=put k x ns vs;(n::r.1,v::r.2)
|_,_=>([k],[x])
noncomputable def bS(k:List Nat):List (List Nat)->List Dat->Option Dat
|n::ns,v::vs=>match decide (k=n)with|true=>some v|false=>bS k ns vs
|_,_=>none
noncomputable def putK(k:List Nat)(x:Dat):List (List Nat)->List Dat->List (List Nat)×List Dat
|n::ns,v::vs=>match decide (k=n)with|true=>(n::ns,x::vs)|false=>let r:=putK k x ns vs;(n::r.1,v::r.2)
|_,_=>([k],[x])
noncomputable def Hk:aX->Option Dat|.list xs=>some (.list xs)|.dict ks vs=>some (.dict ks vs)|.inst c ns vs=>some (.obj c ns vs)|.dead=>none
noncomputable def opt(o:Option α)(f:α->Res β):Res β:=match o with|some a=>f a|none=>.stuck
def frz:V->M Dat|.d x=>ret x|.cell n=>λσ=>opt ((σ[n]?).bind Hk) λd=>.ok d (σ.set n .dead)
noncomputable def frzs:List V->M (List Dat)|[]=>ret []|v::vs=>aa (frz v) λd=>aa (frzs vs) λds=>ret (d::ds)
noncomputable def aM(o:aX):M V:=λσ=>.ok (.cell σ.length) (σ++[o])
noncomputable def oJ:V->Option Int|.d (.int a)=>some a|_=>none
noncomputable def ny:V->Option (List Nat)|.d (.str a)=>some a|_=>none
noncomputable def Ci:V->Option (List UInt8)|.d (.bytes a)=>some a|_=>none
noncomputable def Hl:V->Option (List Dat)|.d (.tuple a)=>some a|_=>none
noncomputable def Hm:V->Option (List Dat)|.d (.list a)=>some a|_=>none
noncomputable def OD:V->Option Dat|.d a=>some a|_=>none
noncomputable def RQ:V->Option Bool|.d (.bool a)=>some a|_=>none
noncomputable def UQ:V->Option (List (List Nat)×List Dat)|.d (.dict ks vs)=>some (ks,vs)|_=>none
noncomputable def UR:V->Option (Str×List Str×List Dat)|.d (.obj c ns vs)=>some (c,ns,vs)|_=>none
noncomputable def gP(a b:Option α):Option α:=match a with|some x=>some x|none=>b
noncomputable def ir(b:Bool)(o:Option α):Option α:=match b with|true=>o|false=>none
noncomputable def sL(σ:ae):V->Option (Nat×Str×List Str×List Dat)
|.cell n=>match σ[n]? with|some (.inst c ns vs)=>some (n,c,ns,vs)|_=>none
|_=>none
noncomputable def gL(σ:ae):V->Option (Nat×List Dat)
|.cell n=>match σ[n]? with|some (.list xs)=>some (n,xs)|_=>none
|_=>none
noncomputable def ji(σ:ae):V->Option (Nat×List (List Nat)×List Dat)
|.cell n=>match σ[n]? with|some (.dict ks vs)=>some (n,ks,vs)|_=>none
|_=>none
def listOf(σ:ae)(v:V):Option (List Dat):=gP (Hm v) ((gL σ v).map (·.2))
def m9(σ:ae)(v:V):Option (List Dat):=gP (Hl v) (listOf σ v)
def dictOf(σ:ae)(v:V):Option (List (List Nat)×List Dat):=gP (UQ v) ((ji σ v).map (·.2))
def qo(σ:ae)(v:V):Option (Str×List Str×List Dat):=gP (UR v) ((sL σ v).map (·.2))
noncomputable def two:List α->Option (α×α)|[a,b]=>some (a,b)|_=>none
noncomputable def three:List α->Option (α×α×α)|[a,b,c]=>some (a,b,c)|_=>none
noncomputable def kI:List α->Option α|[x]=>some x|_=>none
noncomputable def gp:List α->Bool|[]=>true|_=>false
noncomputable def ya(f:V->Option α):List Dat->Option (List α)|[]=>some []|x::r=>(f (.d x)).bind λa=>(ya f r).map (a:: ·)
noncomputable def jj(f:Dat->Dat->Option Bool):List Dat->List Dat->Option Bool
|[],[]=>some true
|a::as,b::bs=>match f a b,jj f as bs with|some x,some y=>some (x&&y)|_,_=>none
|_::_,[]=>some false
|[],_::_=>some false
def sM(x y:Dat):Option Bool:=gP ((oJ (.d x)).bind λa=>(oJ (.d y)).map λb=>decide (a=b)) (gP ((ny (.d x)).bind λa=>(ny (.d y)).map λb=>decide (a=b)) ((Ci (.d x)).bind λa=>(Ci (.d y)).map λb=>decide (a=b)))
noncomputable def gM:Nat->Dat->Dat->Option Bool|0,x,y=>sM x y|n+1,x,y=>gP ((Hl (.d x)).bind λa=>(Hl (.d y)).bind λb=>jj (gM n) a b) (gP ((Hm (.d x)).bind λa=>(Hm (.d y)).bind λb=>jj (gM n) a b) (sM x y))
def oK:Dat->Dat->Option Bool:=gM 6
def nz:List Dat->Option (List (List Nat)):=ya ny
def US(x:Dat)(ys:List Dat):Option Bool:=(ny (.d x)).bind λk=>(nz ys).map λss=>decide (k∈ss)
def lift:Option α->M α|some a=>ret a|none=>stq
noncomputable def reads(f:ae->Option α):M α:=λσ=>match f σ with|some a=>.ok a σ|none=>.stuck
def binI(op:w5)(a b:Int):Option Int:=match op with
|.Add=>some (a+b)
|.Sub=>some (a-b)
|.Mult=>match short a||short b with|true=>some (a*b)|false=>none
|.FloorDiv=>match decide (b=0)||! nf b.natAbs (2^100)with|true=>none|false=>some (a.fdiv b)
|.Mod=>match decide (b=0)with|true=>none|false=>some (a.fmod b)
|.Pow=>match short a&&decide (0<=b)&&decide (b<=1000000)with|true=>some (a^b.toNat)|false=>none
|.LShift=>match short a&&decide (0<=b)&&decide (b<=1000000)with|true=>some (a*2^b.toNat)|false=>none
|.RShift=>match decide (0<=b)with|true=>some (a.fdiv (2^b.toNat))|false=>none
|.BitAnd=>some (ad9 a b)
|.BitOr=>some (aj9 a b)
|_=>none
def within(n:Nat)(x:α):Option α:=match er n SL with|true=>some x|false=>none
noncomputable def alt(a b:Res α):Res α:=match a with|.stuck=>b|r=>r
noncomputable def gd(b:Bool)(m:Res α):Res α:=match b with|true=>m|false=>.stuck
noncomputable def D6:w5->Bool|.Add=>true|_=>false
noncomputable def Hn:w5->Bool|.Mult=>true|_=>false
noncomputable def few(k:Int):Bool:=decide (0<=k)&&decide (k<=1000000)
def RT(op:w5)(v w:V)(σ:ae):Res Dat:=opt (oJ v) λa=>opt (oJ w) λb=>lift ((binI op a b).map .int) σ
def RU(op:w5)(v w:V)(σ:ae):Res Dat:=gd (D6 op) (opt (ny v) λa=>opt (ny w) λb=>lift (within (a.length+b.length) (.str (a++b))) σ)
def RW(op:w5)(v w:V)(σ:ae):Res Dat:=gd (D6 op) (opt (Ci v) λa=>opt (Ci w) λb=>lift (within (a.length+b.length) (.bytes (a++b))) σ)
def RX(op:w5)(v w:V)(σ:ae):Res Dat:=gd (D6 op) (opt (listOf σ v) λa=>opt (listOf σ w) λb=>lift (within (a.length+b.length) (.list (a++b))) σ)
def RY(op:w5)(v w:V)(σ:ae):Res Dat:=gd (Hn op) (opt (ny v) λa=>opt (oJ w) λk=>gd (few k) (lift (within (a.length*k.toNat) (.str (ew k.toNat a).flatten)) σ))
def RZ(op:w5)(v w:V)(σ:ae):Res Dat:=gd (Hn op) (opt (Hm v) λa=>opt (oJ w) λk=>gd (few k) (lift (within (a.length*k.toNat) (.list (ew k.toNat a).flatten)) σ))
def af(op:w5)(v w:V):M Dat:=λσ=>alt (RT op v w σ) (alt (RU op v w σ) (alt (RW op v w σ) (alt (RX op v w σ) (alt (RY op v w σ) (RZ op v w σ)))))
def truth:V->Option Bool|.d (.bool b)=>some b|.d .none=>some false|.d (.bytes b)=>within b.length (decide (0<b.length))|_=>none
def kU(σ:ae):V->Option Dat|.d x=>some x|v=>(listOf σ v).map .list
noncomputable def Ph:Dat->Option Nat|.str [c]=>some c|_=>none
def Ui(σ:ae)(x:Dat)(v:V):Option Bool:=gP ((ny v).bind λs=>(Ph x).map λc=>s.contains c) (gP ((dictOf σ v).bind λd=>(ny (.d x)).map λk=>(bS k d.1 d.2).isSome) ((m9 σ v).bind λxs=>US x xs))
noncomputable def Hp:V->Bool|.d .none=>true|_=>false
noncomputable def L4:V->Bool|.d (.obj _ _ _)=>true|_=>false
def Hq(p:Int->Int->Bool)(v w:V):Option Bool:=(oJ v).bind λa=>(oJ w).map λb=>p a b
def Uj(op:CmpOp)(v w:V)(σ:ae):Option Bool:=match op with|.Eq=>(kU σ v).bind λa=>(kU σ w).bind λb=>oK a b|.NotEq=>gP (ir (L4 v) ((ny w).map λY=>true)) ((kU σ v).bind λa=>(kU σ w).bind λb=>(oK a b).map (!·))|.Lt=>Hq (λa b=>decide (a<b)) v w|.LtE=>Hq (λa b=>decide (a<=b)) v w|.Gt=>Hq (λa b=>decide (b<a)) v w|.GtE=>Hq (λa b=>decide (b<=a)) v w|.Is=>ir (Hp w) (gP (ir (Hp v) (some true)) ((oJ v).map λY=>false))|.IsNot=>none|.In=>(OD v).bind λx=>Ui σ x w|.NotIn=>(OD v).bind λx=>(Ui σ x w).map (!·)
def cmp(op:CmpOp)(v w:V):M Bool:=reads (Uj op v w)
noncomputable def iQ(v:V):List CmpOp->List (M V)->M Bool
|[op],[m]=>aa m λw=>cmp op v w
|op::ops,m::ms=>aa m λw=>aa (cmp op v w) λr=>match r with|true=>iQ w ops ms|false=>ret false
|_,_=>stq
noncomputable def D7(k:Int)(n:Nat):Option Nat:=match nf k.natAbs (2^62)with|true=>seqIndex? k n|false=>none
def Uk(v i:V)(σ:ae):Res Dat:=opt (ny v) λz=>opt (oJ i) λk=>lift ((D7 k z.length).bind λj=>(z[j]?).map λc=>.str [c]) σ
def subB(v i:V)(σ:ae):Res Dat:=opt (Ci v) λb=>opt (oJ i) λk=>gd (decide (0<=k)&&decide (k<b.length)&&er b.length SL) (.ok (.int (b.getD k.toNat 0).toNat) σ)
def Ul(v i:V)(σ:ae):Res Dat:=opt (dictOf σ v) λr=>opt (ny i) λk=>lift (bS k r.1 r.2) σ
def subQ(v i:V)(σ:ae):Res Dat:=opt (m9 σ v) λxs=>opt (oJ i) λk=>lift ((D7 k xs.length).bind λj=>xs[j]?) σ
def ay(v i:V):M Dat:=λσ=>alt (Uk v i σ) (alt (subB v i σ) (alt (Ul v i σ) (subQ v i σ)))
def bound(v:V):Option (Option Nat):=match Hp v with|true=>some none|false=>(oJ v).bind λk=>ir (decide (0<=k)&&decide (k<2^62)) (some (some k.toNat))
noncomputable def cut(lo hi:Option Nat)(xs:List α):List α:=(match hi with|some h=>xs.take h|none=>xs).drop (lo.getD 0)
noncomputable def R0(l h:Option Nat):Option Nat:=match h with
|none=>match l with|some (j+1)=>some j|_=>none
|some _=>none
def bq(v lo hi:V):M Dat:=λσ=>opt (bound lo) λl=>opt (bound hi) λh=>alt (opt (ny v) λs=>lift (within s.length (.str (cut l h s))) σ) (alt (opt (Ci v) λb=>lift (within b.length (.bytes (cut l h b))) σ) (alt (opt (Hm v) λxs=>lift (within xs.length (.list (cut l h xs))) σ) (opt (Hl v) λxs=>opt (R0 l h) λj=>gd (er (j+1) xs.length) (lift (within xs.length (.tuple (xs.drop (j+1)))) σ))))
def D8:List (Str×List Str):=[(`MapRow,[`name,`kind,`key_width,`value_width,`most]),(`Object,[`maps,`octets,`symbols,`relocations]),(`LineReader,[`lines,`at])]
def attrOk(c a:Str):Bool:=match D8.lookup c with|some l=>l.contains a|none=>false
def bp(v:V)(a:Str):M V:=λσ=>opt (qo σ v) λr=>gd (attrOk r.1 a) (lift ((look a r.2.1 r.2.2).map .d) σ)
def dn(v:V)(a:Str)(x:Dat):M Unit:=λσ=>opt (sL σ v) λr=>gd (attrOk r.2.1 a&&er r.2.2.1.length 100) (.ok () (σ.set r.1 (.inst r.2.1 (put a x r.2.2.1 r.2.2.2).1 (put a x r.2.2.1 r.2.2.2).2)))
def dq(v i:V)(x:Dat):M Unit:=λσ=>alt (opt (ji σ v) λr=>opt (ny i) λk=>gd (er r.2.1.length SL) (.ok () (σ.set r.1 (.dict (putK k x r.2.1 r.2.2).1 (putK k x r.2.1 r.2.2).2)))) (opt (gL σ v) λr=>opt (oJ i) λk=>gd (decide (0<=k)&&nf k.toNat r.2.length&&decide (k<2^62)) (.ok () (σ.set r.1 (.list (r.2.set k.toNat x)))))
noncomputable def yb(k n:Nat)(f:n=k->Option β):Option β:=dite (n=k) f λY=>none
noncomputable def sl(k n:Nat)(f:n=k->α)(d:α):α:=dite (n=k) f λY=>d
def vK(e:Expr):Option Str:=yb 23 e.ctorIdx λh=>ai9 e h λx Y=>some x
def wY(e:Expr):Option (List Expr):=yb 25 e.ctorIdx λh=>J1 e h λts Y Y=>some ts
def yc(e:Expr):Option (Expr×List Expr×List Keyword):=yb 16 e.ctorIdx λh=>ad8 e h λf as ks Y=>some (f,as,ks)
def OE(c:Const):Option Str:=yb 5 c.ctorIdx λh=>aj1 c h some
def R1(e:Expr):Option Str:=yb 19 e.ctorIdx λh=>ag5 e h λc Y Y=>OE c
def OF(s:Stmt):Option (List Expr×Expr):=yb 5 s.ctorIdx λh=>v6 s h λts e Y=>some (ts,e)
noncomputable def Cp:Option α->Bool|none=>true|_=>false
def optM(o:Option β)(f:β->M α):M α:=match o with|some a=>f a|none=>stq
def ng(b:Bool)(m:M α):M α:=match b with|true=>m|false=>stq
def raiseOf(exc cause:Option Expr):Option (Str×List Expr):=ir (Cp cause) (exc.bind λe=>(yc e).bind λr=>ir (gp r.2.2) ((vK r.1).map λx=>(x,r.2.1)))
def Hr(b:List Stmt):Option (Str×Expr):=(kI b).bind λs=>(OF s).bind λr=>(kI r.1).bind λt=>(vK t).map λx=>(x,r.2)
def L5(b:List Stmt):Option (Str×Str):=(Hr b).bind λr=>(R1 r.2).map λv=>(r.1,v)
def Um:ag2->Option (Str×List Stmt)|.ExceptHandler t n b _=>ir (Cp n) (t.bind λe=>(vK e).map λx=>(x,b))
inductive oL where|lappend|lextend|lpop|sjoin|bjoin|ssplit|dget|user(q:Str)
noncomputable def pick(m:Str):List (Str×oL)->Option oL|[]=>none|(k,r)::rest=>match m==k with|true=>some r|false=>pick m rest
noncomputable def splitOn(c:Nat):List Nat->List (List Nat)|[]=>[[]]|x::xs=>match mn x c with|true=>[]::splitOn c xs|false=>match splitOn c xs with|p::ps=>(x::p)::ps|[]=>[[x]]
noncomputable def aS(sep:List α):List (List α)->List α|[]=>[]|[x]=>x|x::y::r=>x++sep++aS sep (y::r)
def L6:List Dat->Option (List (List UInt8)):=ya Ci
def yd:List Dat->Option (List Int):=ya oJ
def wZ:List Dat->Option (List Bool):=ya RQ
noncomputable def ye:List Int->Option (List UInt8)|[]=>some []|k::r=>match decide (0<=k)&&decide (k<256)with|true=>(ye r).map (k.toNat.toUInt8:: ·)|false=>none
noncomputable def sp(i:Int):List Nat:=(m6 (toString i)).cps.toList
noncomputable def decVal:List Nat->Option Nat:=λs=>s.foldl (λa c=>match a with|some n=>(match er 48 c&&er c 57 with|true=>some (10*n+(c-48))|false=>none)|none=>none) (some 0)
noncomputable def hexDigit(c:Nat):Option Nat:=match er 48 c&&er c 57 with|true=>some (c-48)|false=>match er 97 c&&er c 102 with|true=>some (c-87)|false=>none
def itemsOf(σ:ae)(v:V):Option (List Dat):=gP ((Ci v).map λb=>b.map λc=>.int c.toNat) (gP ((ny v).map λs=>s.map λc=>.str [c]) (m9 σ v))
def pairD(x:Dat):Option (List Nat×Dat):=(Hl (.d x)).bind λys=>(two ys).bind λp=>(ny (.d p.1)).map λk=>(k,p.2)
noncomputable def pairs:List Dat->List (List Nat)->List Dat->Option (List (List Nat)×List Dat)|[],ks,vs=>some (ks,vs)|x::r,ks,vs=>(pairD x).bind λp=>pairs r (putK p.1 p.2 ks vs).1 (putK p.1 p.2 ks vs).2
def Hs(v:V)(σ:ae):Option Dat:=gP ((ny v).bind λs=>within s.length (.int s.length)) (gP ((Ci v).bind λs=>within s.length (.int s.length)) ((m9 σ v).bind λs=>within s.length (.int s.length)))
def Cq(v:V):Option Dat:=gP ((oJ v).map .int) (gP ((RQ v).map λb=>.int (bif b then 1 else 0)) ((ny v).bind λs=>ir (nf 0 s.length&&er s.length 10) ((decVal s).map λn:Nat=>Dat.int n)))
def Cr(v w:V):Option Dat:=(oJ w).bind λi=>ir (decide (i=16)) (((ny v).bind two).bind λp=>(hexDigit p.1).bind λx=>(hexDigit p.2).map λy=>.int (16*x+y:Nat))
def Hu(v:V):Option Dat:=gP ((ny v).map .str) ((oJ v).bind λi=>ir (short i) (some (.str (sp i))))
def yf(v:V)(σ:ae):Option Dat:=gP ((Ci v).map .bytes) (gP ((oJ v).bind λk=>ir (decide (0<=k)&&decide (k<=1000)) (some (.bytes (ew k.toNat 0)))) ((listOf σ v).bind λxs=>(yd xs).bind λks=>(ye ks).bind λbs=>within bs.length (.bytes bs)))
def Ct(v:V)(σ:ae):Option Dat:=(listOf σ v).bind λxs=>(pairs xs [] []).bind λr=>within xs.length (.dict r.1 r.2)
noncomputable def Tg:V->Option Str|.d (.fn f)=>some f|_=>none
def D9(v w:V):Option Dat:=(Tg w).bind λf=>ir (f==`str) (gP ((ny v).map λY=>.bool true) (ir (L4 v) (some (.bool false))))
def sq:List Str:=[`len,`abs,`int,`str,`sum,`all,`list,`tuple,`bytes,`dict,`isinstance]
def Hv(f:Str)(v:V)(σ:ae):Option Dat:=gP (ir (f==`len) (Hs v σ)) (gP (ir (f==`int) (Cq v)) (gP (ir (f==`str) (Hu v)) (gP (ir (f==`tuple) ((listOf σ v).bind λxs=>within xs.length (.tuple xs))) (gP (ir (f==`list) ((m9 σ v).bind λxs=>within xs.length (.list xs))) (gP (ir (f==`bytes) (yf v σ)) (gP (ir (f==`sum) ((listOf σ v).bind λxs=>(yd xs).map λks=>.int ks.sum)) (gP (ir (f==`all) ((listOf σ v).bind λxs=>(wZ xs).map λks=>.bool (ks.all id))) (gP (ir (f==`dict) (Ct v σ)) (ir (f==`abs) ((oJ v).map λi=>.int i.natAbs))))))))))
def Un(f:Str)(v w:V):Option Dat:=gP (ir (f==`int) (Cr v w)) (ir (f==`isinstance) (D9 v w))
def bi(f:Str)(args:List V):M Dat:=reads λσ=>gP ((kI args).bind λv=>Hv f v σ) ((two args).bind λr=>Un f r.1 r.2)
def d5(m:oL)(o:V)(args:List V)(user:Str->List V->M V):M V:=match m with|.user q=>user q (o::args)|.lappend=>λσ=>opt (kI args) λx=>aa (frz x) (λd σ=>opt (gL σ o) λr=>gd (er r.2.length SL) (.ok (.d .none) (σ.set r.1 (.list (r.2++[d]))))) σ|.lextend=>λσ=>opt (kI args) λx=>opt (listOf σ x) λys=>opt (gL σ o) λr=>gd (er (r.2.length+ys.length) SL) (.ok (.d .none) (σ.set r.1 (.list (r.2++ys))))|.lpop=>λσ=>gd (gp args) (opt (gL σ o) λr=>gd (er r.2.length SL) (opt r.2.getLast? λd=>.ok (.d d) (σ.set r.1 (.list r.2.dropLast))))|.sjoin=>λσ=>opt (kI args) λx=>opt (ny o) λsep=>opt ((listOf σ x).bind nz) λss=>lift (within ((aS sep ss).length+sep.length) (V.d (.str (aS sep ss)))) σ|.bjoin=>λσ=>opt (kI args) λx=>opt (Ci o) λz=>gd z.isEmpty (opt ((listOf σ x).bind L6) λss=>lift (within ss.flatten.length (V.d (.bytes ss.flatten))) σ)|.ssplit=>λσ=>opt (kI args) λx=>opt (ny o) λs=>opt ((OD x).bind Ph) λc=>lift (within (s.length+2) (V.d (.list ((splitOn c s).map .str)))) σ|.dget=>λσ=>opt (kI args) λx=>opt (dictOf σ o) λr=>opt (ny x) λk=>.ok (.d ((bS k r.1 r.2).getD .none)) σ
noncomputable abbrev Ls:=List (Str×Option V)
noncomputable def getL(x:Str):Ls->Option V|[]=>none|(k,v)::r=>match x==k with|true=>v|false=>getL x r
noncomputable def gK(x:Str)(v:V):Ls->Ls|[]=>[]|(k,w)::r=>match x==k with|true=>(k,some v)::r|false=>(k,w)::gK x v r
noncomputable def f9(x:Str):Ls->Bool|[]=>false|(k,_)::r=>match x==k with|true=>true|false=>f9 x r
structure jS where
 consts:List (Str×Dat)
 fns:List Str
 excs:List Str
 meths:Str->Str->Option Str
 user:Str->List V->M V
 N:Nat
noncomputable def Hw:Const->Option Dat|.none=>some .none|.bool b=>some (.bool b)|.int i=>some (.int i)|.str s=>some (.str s.cps.toList)|.bytes b=>some (.bytes b)|_=>none
section
variable(P:jS)
def sN(x:Str):Option Dat:=match P.consts.lookup x with|some d=>some d|none=>match P.fns.contains x||sq.contains x with|true=>some (.fn x)|false=>none
def Ea(sc:e6)(x:Str)(ls:Ls):M V:=match x==`__debug__ with
|true=>stq
|false=>match sc.names.lookup x with
|some .local=>lift (getL x ls)
|some .cell=>lift (getL x ls)
|some .free=>match x==`__classdict__ with|true=>stq|false=>lift (getL x ls)
|some .globalImplicit=>lift ((sN P x).map .d)
|_=>stq
def dO(m:Str)(v:V)(σ:ae):Option oL:=gP ((ny v).bind λY=>pick m [(`join,.sjoin),(`split,.ssplit)]) (gP ((Ci v).bind λY=>pick m [(`join,.bjoin)]) (gP ((gL σ v).bind λY=>pick m [(`append,.lappend),(`extend,.lextend),(`pop,.lpop)]) (gP ((dictOf σ v).bind λY=>pick m [(`get,.dget)]) ((qo σ v).bind λr=>ir (!r.2.1.contains m) ((P.meths r.1 m).map .user)))))
def oM(x:Str)(args:List V):M V:=match P.fns.contains x with|true=>P.user x args|false=>aa (bi x args) λd=>ret (.d d)
noncomputable def ao:List (M α)->M (List α)|[]=>ret []|m::ms=>aa m λa=>aa (ao ms) λas=>ret (a::as)
noncomputable def zR(op:BoolOp):List (M V)->M V|[]=>stq|[m]=>m|m::ms=>aa m λv=>aa (lift (truth v)) λt=>match op,t with|.And,false=>ret v|.Or,true=>ret v|_,_=>zR op ms
noncomputable def Eb(op:BoolOp):List (M Bool)->M Bool|[]=>ret (match op with|.And=>true|.Or=>false)|m::ms=>aa m λt=>match op,t with|.And,false=>ret false|.Or,true=>ret true|_,_=>Eb op ms
noncomputable def aV(sc:e6)(x:Str):Bool:=sc.names.lookup x==some .local||sc.names.lookup x==some .cell
noncomputable def jT(sc:e6)(x:Str):Bool:=sc.names.lookup x==some .local
noncomputable def qp(p:Str->Bool):List Expr->List Dat->Ls->M Ls|[],[],ls=>ret ls|t::ts,d::ds,ls=>optM (vK t) λx=>ng (f9 x ls&&p x) (qp p ts ds (gK x (.d d) ls))|_,_,_=>stq
def gN(p:Str->Bool)(t:Expr)(d:Dat)(ls:Ls):M Ls:=match vK t with|some x=>ng (f9 x ls&&p x) (ret (gK x (.d d) ls))|none=>optM (wY t) λts=>optM (Hl (.d d)) λds=>qp p ts ds ls
noncomputable def ai(sc scope:e6):e6:={scope with names:=scope.names.map λ(n,k)=>if k==.free&&sc.kind==.function&&sc.names.lookup n==some .cell then(n,.cell)else(n,k)}
noncomputable def kW(sc scope:e6):Bool:=scope.kind==.function&&scope.names.all λx=>match x.2 with|.local=>scope.names.lookup x.1==some .local|.free=>scope.names.lookup x.1==some .free&&(sc.names.lookup x.1==some .cell||sc.names.lookup x.1==some .free)|.globalImplicit=>scope.names.lookup x.1==some .globalImplicit|_=>false
noncomputable def ik(scope:e6)(ls:Ls):Ls:=((scope.names.filter λx=>x.2==.local).map λx=>(x.1,none))++ls
inductive Src where|items(xs:List Dat)|pairs(xs:List Dat)|cell(n:Nat)
def isTup(t:Expr):Bool:=(wY t).isSome
def L7(t:Expr):Src->Bool|.pairs _=>isTup t|_=>true
noncomputable def jU(s:Src)(f:List Dat->M α):M α:=match s with
|.items xs=>f xs
|.pairs xs=>f xs
|.cell n=>λσ=>match σ[n]? with
|some (.list xs)=>match f xs (σ.set n .dead)with|.ok a σ'=>.ok a (σ'.set n (.list xs))|.exc c σ'=>.exc c (σ'.set n (.list xs))|.stuck=>.stuck
|_=>.stuck
def bf(v:V):M Src:=λσ=>match v with|.cell n=>.ok (.cell n) σ|.d x=>opt (itemsOf σ (.d x)) λxs=>.ok (.items xs) σ
section
variable(evf:e6->Expr->Ls->M V)(tsf:e6->Expr->Ls->M Bool)(itf:e6->Expr->Ls->M Src)
noncomputable def compIfs(sc:e6):List Expr->Ls->M Bool|[],_=>ret true|e::es,ls=>aa (tsf sc e ls) λt=>match t with|true=>compIfs sc es ls|false=>ret false
noncomputable def aD(t:Expr)(ifs:List Expr)(sc:e6)(inner:Ls->List Dat->M (Ls×List Dat)):List Dat->Ls->List Dat->M (Ls×List Dat)|[],ls,acc=>ret (ls,acc)|x::xs,ls,acc=>aa (gN (jT sc) t x ls) λls'=>aa (compIfs tsf sc ifs ls') λok=>match ok with|true=>aa (inner ls' acc) λr=>aD t ifs sc inner xs r.1 r.2|false=>aD t ifs sc inner xs ls' acc
def compElt(sc:e6)(elt:Expr)(ls:Ls)(acc:List Dat):M (Ls×List Dat):=aa (evf sc elt ls) λv=>aa (frz v) λd=>match er acc.length SL with|true=>ret (ls,acc++[d])|false=>stq
def jk(sc:e6)(elt:Expr)(gens:List qt)(scope:e6)(ls:Ls):M (List Dat):=match kW sc scope with
|false=>stq
|true=>match gens with
|[⟨t,it,ifs,0⟩]=>aa (itf sc it ls) λsrc=>match L7 t src with|true=>aa (jU src λxs=>aD tsf t ifs (ai sc scope) (compElt evf (ai sc scope) elt) xs (ik scope ls) []) λr=>ret r.2|false=>stq
|[⟨t,it,ifs,0⟩,⟨t',it',ifs',0⟩]=>aa (itf sc it ls) λsrc=>match L7 t src with|true=>aa (jU src λxs=>aD tsf t ifs (ai sc scope) (λls' acc=>aa (itf (ai sc scope) it' ls') λsrc'=>match src' with|.items ys=>aD tsf t' ifs' (ai sc scope) (compElt evf (ai sc scope) elt) ys ls' acc|_=>stq) xs (ik scope ls) []) λr=>ret r.2|false=>stq
|_=>stq
end
noncomputable def d7(x:Int):Nat->Int->List Dat|0,_=>[]|n+1,c=>.int x::d7 (x+c) n c
def kX(a b c:Int):List Dat:=d7 a ((b-a+c-1).fdiv c).toNat c
noncomputable def zS:List Dat->List Dat->List Dat|x::xs,y::ys=>.tuple [x,y]::zS xs ys|_,_=>[]
noncomputable def kY:Nat->List Dat->List Dat|_,[]=>[]|i,x::xs=>.tuple [.int i,x]::kY (i+1) xs
def Cu(v:V):Option Src:=(oJ v).bind λb=>ir (decide (-10000000<=b)&&decide (b<=10000000)) (some (.items (kX 0 b 1)))
def Cv(u v w:V):Option Src:=(oJ u).bind λa=>(oJ v).bind λb=>(oJ w).bind λc=>ir (decide (a=0)&&decide (0<c)&&decide (c<=1000)&&decide (0<=b)&&decide (b<=10000000)) (some (.items (kX a b c)))
def Hx(v:V):Option (List Dat):=gP (Hl v) (Hm v)
def zip2(v w:V):Option Src:=(Hx v).bind λxs=>(Hx w).map λys=>.pairs (zS xs ys)
def OG(v:V):Option Src:=gP ((Hx v).map λxs=>.pairs (kY 0 xs)) ((Ci v).map λb=>.pairs (kY 0 (b.map λc=>.int c.toNat)))
def bI(f:Str)(args:List V):M Src:=lift (gP (ir (f==`range) (gP ((kI args).bind Cu) ((three args).bind λr=>Cv r.1 r.2.1 r.2.2))) (gP (ir (f==`zip) ((two args).bind λr=>zip2 r.1 r.2)) (ir (f==`enumerate) ((kI args).bind OG))))
def isIt(sc:e6)(f:Str):Bool:=(f==`range||f==`zip||f==`enumerate)&&sc.names.lookup f==some .globalImplicit
def Hy(e:Expr):Option (Expr×Str×Pos):=yb 20 e.ctorIdx λh=>wy e h λo m p=>some (o,m,p)
def L8(e:Expr):Option (Option Expr×Option Expr):=yb 26 e.ctorIdx λh=>KO e h λlo hi st Y=>ir (Cp st) (some (lo,hi))
def Uo(sc:e6)(f:Expr)(ks:List Keyword):Option Str:=(vK f).bind λx=>ir (gp ks&&isIt sc x) (some x)
noncomputable def kZ(e:Expr):Bool:=!Nat.beq e.ctorIdx 22
def bF(es:List Expr):Bool:=es.all kZ&&nf es.length 30
def k6(e:Expr):Bool:=(((yc e).bind λr=>ir (gp r.2.1&&gp r.2.2) (vK r.1)).all (·!=S "super"))
def oN(o:Expr)(ap pos:Pos)(args:List Expr):Bool:=k6 o&&ap.endLine==pos.line&&bF args
inductive Md where|val|cell|test|iter
noncomputable def Out:Md->Type|.val=>V|.cell=>V|.test=>Bool|.iter=>Src
def Hz(a b:V):M V:=λσ=>opt (listOf σ a) λxs=>opt (listOf σ b) λys=>opt (within (xs.length+ys.length) (xs++ys)) λzs=>aM (.list zs) σ
noncomputable def ev : Nat → (md : Md) → e6 → Expr → Ls → M (Out md)
  | 0, _, _, _, _ => stq
  | n + 1, .val, sc, e, ls => match e with
    | .Constant c _ _ => lift ((Hw c).map .d)
    | .Name x _ => Ea P sc x ls
    | .BinOp l op r _ => aa (ev n .val sc l ls) fun a => aa (ev n .val sc r ls) fun b => aa (af op a b) fun d => ret (.d d)
    | .UnaryOp .USub x _ => aa (ev n .val sc x ls) fun a => optM (oJ a) fun i => ret (.d (.int (-i)))
    | .UnaryOp .Not x _ => aa (ev n .val sc x ls) fun a => aa (lift (truth a)) fun t => ret (.d (.bool (!t)))
    | .BoolOp op es _ => zR op (es.map fun e => ev n .val sc e ls)
    | .Compare l ops cs _ => ng (!lastMarks ops cs) (aa (ev n .val sc l ls) fun a => aa (iQ a ops (cs.map fun e => ev n .val sc e ls)) fun t => ret (.d (.bool t)))
    | .IfExp t b o _ => aa (ev n .test sc t ls) fun c => match c with
      | true => ev n .val sc b ls
      | false => ev n .val sc o ls
    | .Tuple es _ _ => ng (bF es) (aa (ao (es.map fun e => ev n .val sc e ls)) fun vs => aa (frzs vs) fun ds => ret (.d (.tuple ds)))
    | .List es _ => ng (bF es) (aa (ao (es.map fun e => ev n .val sc e ls)) fun vs => aa (frzs vs) fun ds => ret (.d (.list ds)))
    | .ListComp elt gens scope _ => aa (jk (ev n .val) (ev n .test) (ev n .iter) sc elt gens scope ls) fun ds => ret (.d (.list ds))
    | .Call f args ks pos => ng (gp ks) (match Hy f with
      | some r => ng (oN r.1 r.2.2 pos args) (aa (ev n .val sc r.1 ls) fun ov => aa (reads (dO P r.2.1 ov)) fun mt => aa (ao (args.map fun e => ev n .val sc e ls)) fun as => d5 mt ov as P.user)
      | none => ng (bF args) (aa (ev n .val sc f ls) fun fv => optM (Tg fv) fun x => aa (ao (args.map fun e => ev n .val sc e ls)) fun as => oM P x as))
    | .Attribute o a _ => ng (k6 o) (aa (ev n .val sc o ls) fun ov => bp ov a)
    | .Subscript o i _ => match L8 i with
      | some r => aa (ev n .val sc o ls) fun ov =>
        aa (match r.1 with | some e => ev n .val sc e ls | none => ret (V.d .none)) fun l =>
        aa (match r.2 with | some e => ev n .val sc e ls | none => ret (V.d .none)) fun h => aa (bq ov l h) fun d => ret (.d d)
      | none => aa (ev n .val sc o ls) fun ov => aa (ev n .val sc i ls) fun iv => aa (ay ov iv) fun d => ret (.d d)
    | _ => stq
  | n + 1, .cell, sc, e, ls => match e with
    | .List es _ => ng (bF es) (aa (ao (es.map fun e => ev n .val sc e ls)) fun vs => aa (frzs vs) fun ds => aM (.list ds))
    | .Dict [] [] _ => aM (.dict [] [])
    | .ListComp elt gens scope _ => aa (jk (ev n .val) (ev n .test) (ev n .iter) sc elt gens scope ls) fun ds => aM (.list ds)
    | .BinOp l .Add r _ => aa (ev n .val sc l ls) fun a => aa (ev n .val sc r ls) fun b => Hz a b
    | e => ev n .val sc e ls
  | n + 1, .test, sc, e, ls => match e with
    | .UnaryOp .Not x _ => aa (ev n .test sc x ls) fun t => ret (!t)
    | .BoolOp op es _ => Eb op (es.map fun e => ev n .test sc e ls)
    | .IfExp t b o _ => aa (ev n .test sc t ls) fun c => match c with
      | true => ev n .test sc b ls
      | false => ev n .test sc o ls
    | .Compare l ops cs _ => ng (!lastMarks ops cs) (aa (ev n .val sc l ls) fun a => iQ a ops (cs.map fun e => ev n .val sc e ls))
    | e => aa (ev n .val sc e ls) fun v => lift (truth v)
  | n + 1, .iter, sc, e, ls => match (yc e).bind fun r => (Uo sc r.1 r.2.2).map fun x => (x, r.2.1) with
    | some r => ng (bF r.2) (aa (ao (r.2.map fun e => ev n .val sc e ls)) fun as => bI r.1 as)
    | none => aa (ev n .val sc e ls) bf
inductive LR where|next(ls:Ls)|ret(v:V)
noncomputable def forL(body:Dat->Ls->M LR):List Dat->Ls->M LR|[],ls=>ret (.next ls)|x::xs,ls=>aa (body x ls) λr=>match r with|.next ls'=>forL body xs ls'|.ret v=>ret (.ret v)
noncomputable def jV(test:Ls->M Bool)(body:Ls->M LR):Nat->Ls->M LR
|0,_=>stq
|n+1,ls=>aa (test ls) λt=>match t with
|true=>aa (body ls) λr=>match r with|.next ls'=>jV test body n ls'|.ret v=>ret (.ret v)
|false=>ret (.next ls)
def vL(mv:List Str)(x:Str)(n:Nat)(sc:e6)(e:Expr)(ls:Ls):M V:=match mv.contains x with|true=>ev P n .cell sc e ls|false=>ev P n .val sc e ls
noncomputable def Fh(mv:List Str)(n:Nat)(sc:e6)(ls:Ls):List Expr->List Expr->M (List (Str×V))|[],[]=>ret []|.Name x _::ts,e::es=>aa (vL P mv x n sc e ls) λv=>aa (Fh mv n sc ls ts es) λr=>ret ((x,v)::r)|_,_=>stq
noncomputable def tgtNames(ts:List Expr):List Str:=ts.filterMap λ|.Name x _=>some x|_=>none
noncomputable def gg(p:Str->Bool):List (Str×V)->Ls->M Ls|[],ls=>ret ls|(x,v)::r,ls=>match f9 x ls&&p x with|true=>gg p r (gK x v ls)|false=>stq
noncomputable def clause(sc:e6)(c:Str):List ag2->Option (List Stmt)|[]=>none|h::r=>(Um h).bind λq=>ir (P.excs.contains q.1&&sc.names.lookup q.1==some .globalImplicit) (match q.1==c with|true=>some q.2|false=>clause sc c r)
section
variable(kp:Bool)(mv:List Str)(sc:e6)
noncomputable def jW(f:Stmt->Ls->(Ls->M α)->(V->M α)->(Ls->M α)->M α):List Stmt->Ls->(Ls->M α)->(V->M α)->(Ls->M α)->M α|[],ls,kn,_,_=>kn ls|s::ss,ls,kn,kr,kc=>f s ls (λls'=>jW f ss ls' kn kr kc) kr kc
def Pi(n:Nat)(t e:Expr)(ls:Ls)(kn:Ls->M α):M α:=match t with
|.Name x _=>aa (vL P mv x n sc e ls) λv=>ng (f9 x ls&&aV sc x) (kn (gK x v ls))
|.Tuple ts k p=>match wY e with|some es=>ng (bF es&&! es.all (ai4 8)&&decide (tgtNames ts).Nodup) (aa (Fh P mv n sc ls ts es) λr=>aa (gg (aV sc) r ls) kn)|none=>aa (ev P n .val sc e ls) λv=>optM (OD v) λx=>aa (gN (aV sc) (.Tuple ts k p) x ls) kn
|.Attribute o a _=>aa (ev P n .val sc e ls) λv=>aa (ev P n .val sc o ls) λov=>aa (frz v) λd=>aa (dn ov a d) λY=>kn ls
|.Subscript o i _=>aa (ev P n .val sc e ls) λv=>aa (ev P n .val sc o ls) λov=>aa (ev P n .val sc i ls) λiv=>aa (frz v) λd=>aa (dq ov iv d) λY=>kn ls
|_=>stq
noncomputable def rH(kn:Ls->M α)(kr:V->M α)(r:LR):M α:=match r with|.next ls'=>kn ls'|.ret v=>kr v
def Pj(t:Expr):Src->Option (List Dat)|.cell _=>none|.items xs=>some xs|.pairs xs=>ir (isTup t) (some xs)
noncomputable def exec:Nat->{α:Type}->Stmt->Ls->(Ls->M α)->(V->M α)->(Ls->M α)->M α
|0,_,_,_,_,_,_=>stq
|n+1,_,st,ls,kn,kr,kc=>match st with
|.Expr e _=>optM (yc e) λY=>aa (ev P n .val sc e ls) λY=>kn ls
|.Pass _=>kn ls
|.Continue _=>kc ls
|.Return e _=>optM e λe=>match kp with|true=>aa (ev P n .cell sc e ls) kr|false=>aa (ev P n .val sc e ls) kr
|.Assign ts e _=>optM (kI ts) λt=>Pi P mv sc n t e ls kn
|.If t b o _=>aa (ev P n .test sc t ls) λc=>match c with|true=>jW (exec n) b ls kn kr kc|false=>jW (exec n) o ls kn kr kc
|.For t it body oe _=>ng (gp oe) (aa (ev P n .iter sc it ls) λsrc=>optM (Pj t src) λxs=>aa (forL (λx ls=>aa (gN (aV sc) t x ls) λls'=>jW (exec n) body ls' (λl=>ret (.next l)) (λv=>ret (.ret v)) λl=>ret (.next l)) xs ls) (rH kn kr))
|.While t body oe _=>ng (gp oe) (aa (jV (λls=>ev P n .test sc t ls) (λls=>jW (exec n) body ls (λl=>ret (.next l)) (λv=>ret (.ret v)) λl=>ret (.next l)) P.N ls) (rH kn kr))
|.Raise exc cause _=>optM (raiseOf exc cause) λr=>ng (P.excs.contains r.1&&sc.names.lookup r.1==some .globalImplicit&&bF r.2&&(r.2.length==1||r.2.length==2)) (aa (ao (r.2.map λe=>ev P n .val sc e ls)) λY=>D5 r.1)
|.Try b hs oe fin _=>ng (gp oe&&gp fin&&!gp hs) (optM (Hr b) λr=>λσ=>match vL P mv r.1 n sc r.2 ls σ with|.ok v σ'=>gd (f9 r.1 ls&&aV sc r.1) (kn (gK r.1 v ls) σ')|.exc c σ'=>opt (clause P sc c hs) λb=>opt (L5 b) λq=>gd (f9 q.1 ls&&aV sc q.1) (kn (gK q.1 (.d (.str q.2.cps.toList)) ls) σ')|.stuck=>.stuck)
|_=>stq
def execs(n:Nat):List Stmt->Ls->(Ls->M α)->(V->M α)->(Ls->M α)->M α:=jW (exec P kp mv sc n)
end
end
structure Fn where
 params:List Str
 body:List Stmt
 sc:e6
 mv:List Str
 keep:Bool:=false
noncomputable def Ec(sc:e6):Ls:=(sc.names.filter λx=>x.2==.local||x.2==.cell).map λx=>(x.1,none)
noncomputable def sO:List Str->List V->Ls->Option Ls
|[],[],ls=>some ls
|x::xs,v::vs,ls=>match f9 x ls with|true=>sO xs vs (gK x v ls)|false=>none
|_,_,_=>none
def back (keep:Bool) (len:Nat) (r:Res V):Res V:=match r with
  |.ok (.d x) σ=>.ok (.d x) (σ.take len)
  |.ok (.cell n) σ=>match nf n len with
    |true=>.stuck
    |false=>(match keep with
      |true=>(match σ[n]? with |some o=>.ok (.cell len) (σ.take len++[o]) |none=>.stuck)
      |false=>(match frz (.cell n) σ with |.ok x σ'=>.ok (.d x) (σ'.take len) |_=>.stuck))
  |.exc c σ=>.exc c (σ.take len)
  |.stuck=>.stuck
noncomputable def Pk:Nat:=24
def nh(P:jS)(f:Fn)(args:List V):M V:=λσ=>match sO f.params args (Ec f.sc)with|some ls=>back f.keep σ.length (execs P f.keep f.mv f.sc Pk f.body ls (λY=>ret (V.d .none)) (λv=>ret v) (λY=>stq) σ)|none=>.stuck
noncomputable def top:List Stmt:=PySem.Challenge.pw_np0319_01.main.body
noncomputable def zT(n:Str):List Stmt->Option (List Str×List Stmt×e6)|[]=>none|s::r=>sl 0 s.ctorIdx (λh=>ak8 s h λm a b Y Y Y sc Y Y Y=>match m==n with|true=>some (a.args.map (·.arg),b,sc)|false=>zT n r) (zT n r)
noncomputable def clsIn(n:Str):List Stmt->List Stmt|[]=>[]|s::r=>sl 2 s.ctorIdx (λh=>am1 s h λm Y Y b Y Y Y Y Y Y Y=>match m==n with|true=>b|false=>clsIn n r) (clsIn n r)
noncomputable def cy(x:Option (List Str×List Stmt×e6))(mv:List Str)(keep:Bool):Fn:=match x with|some (ps,b,sc)=>⟨ps,b,sc,mv,keep⟩|none=>⟨[],[],⟨.function,[],false,false,[]⟩,[],false⟩
def table:List (Str×List Str×Bool):=[(`little,[],false),(`is_name,[],false),(`check_sum,[],false),(`hex_of,[],false),(`object_lines,[`lines],true),(`write_object,[],false),(`read_map,[],false),(`read_slot,[],false),(`read_symbol,[],false),(`read_relocation,[],false),(`read_object,[`maps,`symbols,`relocations],false),(`filled_map,[],false),(`filled_call,[],false),(`filled,[`rows],false),(`joined_maps,[`found,`by_name],false),(`join,[`symbols,`relocations,`seen],false),(`needed,[`found,`waiting],false),(`strip,[`symbols,`relocations],false),(`_law_pen,[],true),(`_law_draw,[],false),(`_law_pick,[],false),(`_law_names,[`found],false),(`_law_items,[`items],false),(`_law_little,[],false),(`_law_octets,[],false),(`_law_width,[],false),(`_law_laid,[`symbols,`relocations,`rows],false),(`_law_told,[],false),(`_law_used,[],false),(`_law_reached,[],false),(`_law_filled,[],false),(`_law_line,[],false),(`_law_text,[`lines],false),(`_law_asked,[],false),(`_law_object,[],false),(`_law_bent,[],false),(`_law_text_right,[],false),(`_law_twice_right,[],false),(`law,[`functions],false)]
def classes:List (Str×List Str):=[(`MapRow,[`__init__,`told]),(`Object,[`__init__,`told,`count,`map_number,`symbol,`functions,`slot]),(`LineReader,[`__init__,`words,`is_next,`take,`refuse,`number,`name])]
def oO:List Str:=[`TextError,`ProgramError,`MapError]
def jF:List (Str×Dat):=[(`HEAD,.str (T "ringgate object 1")),(`SLOT_WIDTH,.int 8),(`WIDE_CODE,.int 24),(`CALL_CODE,.int 133),(`MAP_SOURCE,.int 1),(`MOST_NAME,.int 15),(`FIGURES,.str (T "0123456789abcdef")),(`NAME_SIGNS,.str (T "abcdefghijklmnopqrstuvwxyz0123456789_"))]
noncomputable def iu(c m:Str):Str:=⟨c.cps++#[46]++m.cps⟩
def jp(c m:Str):Option Str:=match classes.lookup c with
|some ms=>match ms.contains m with|true=>some (iu c m)|false=>none
|none=>none
def fnAt(x:Str):Option Fn:=match table.lookup x with|some (mv,keep)=>some (cy (zT x top) mv keep)|none=>classes.findSome? λ(c,ms)=>(ms.find? λm=>iu c m==x).map λm=>cy (zT m (clsIn c top)) [] false
def Pm(P:jS)(c:Str)(args:List V):M V:=λσ=>match fnAt (iu c `__init__)with
|some f=>match nh P f (.cell σ.length::args) (σ++[.inst c [] []])with|.ok (.d .none) σ'=>.ok (.cell σ.length) σ'|.ok _ _=>.stuck|.exc x σ'=>.exc x (σ'.take σ.length)|.stuck=>.stuck
|none=>.stuck
def oP:List Str:=table.map (·.1)++classes.map (·.1)
def sP(P:jS)(x:Str)(args:List V):M V:=match(classes.map (·.1)).contains x with|true=>Pm P x args|false=>match fnAt x with|some f=>nh P f args|none=>stq
@[irreducible]def NN:Nat:=100000
theorem hN:100000<=NN:=by unfold NN;rwa[VM _]
noncomputable def Cj:Nat->jS|0=>⟨jF,oP,oO,jp,λY Y=>stq,NN⟩|k+1=>⟨jF,oP,oO,jp,sP (Cj k),NN⟩
section
open Builtin Builtin.ObjectAttr
noncomputable def cg(s:List Nat):Str:=⟨s.toArray⟩
noncomputable abbrev cM(vs:List ea)(n:Nat):Obj:={cls:=.type "list",data:=.seq vs.toArray n}
def vR(v:ea):Option Addr:=yb 10 v.ctorIdx λh=>ai6 v h some
def vS(v:ea):Option Str:=yb 6 v.ctorIdx λh=>ai5 v h λq Y=>some q
def vI(v:ea):Option Int:=yb 4 v.ctorIdx λh=>ai7 v h λq Y=>some q
def dF(d:Data):Option as0:=yb 7 d.ctorIdx λh=>aj0 d h some
def dC(d:Data):Option ClassData:=yb 8 d.ctorIdx λh=>aj8 d h some
def dV(d:Data):Option (Array ea):=yb 9 d.ctorIdx λh=>ah3 d h some
def tI(d:Dat):Option Int:=yb 2 d.ctorIdx λh=>Dat.int.elim d h some
def tS(d:Dat):Option (List Nat):=yb 3 d.ctorIdx λh=>Dat.str.elim d h some
def dP:List (Str×Addr):=[(`MapRow,107),(`Object,166),(`LineReader,256)]
def fx:List (Str×Addr):=[(`TextError,52),(`ProgramError,64),(`MapError,76)]
def fy:List (Str×Addr):=[(`little,83),(`is_name,175),(`check_sum,182),(`hex_of,187),(`object_lines,192),(`write_object,199),(`read_map,265),(`read_slot,270),(`read_symbol,275),(`read_relocation,282),(`read_object,287),(`filled_map,294),(`filled_call,301),(`filled,306),(`joined_maps,313),(`join,318),(`needed,323),(`strip,328),(`_law_pen,335),(`_law_draw,342),(`_law_pick,349),(`_law_names,356),(`_law_items,363),(`_law_little,368),(`_law_octets,375),(`_law_width,382),(`_law_laid,389),(`_law_told,394),(`_law_used,399),(`_law_reached,404),(`_law_filled,409),(`_law_line,414),(`_law_text,419),(`_law_asked,426),(`_law_object,431),(`_law_bent,438),(`_law_text_right,443),(`_law_twice_right,448),(`law,453)]
def c5:List (Str×Str×Addr):=[(`MapRow,`__init__,97),(`MapRow,`told,104),(`Object,`__init__,125),(`Object,`told,130),(`Object,`count,137),(`Object,`map_number,144),(`Object,`symbol,151),(`Object,`functions,156),(`Object,`slot,163),(`LineReader,`__init__,213),(`LineReader,`words,220),(`LineReader,`is_next,227),(`LineReader,`take,234),(`LineReader,`refuse,241),(`LineReader,`number,246),(`LineReader,`name,253)]
def jq:List (Str×ea):=[(`len,.builtin "len"),(`abs,.builtin "abs"),(`sum,.builtin "sum"),(`all,.builtin "all"),(`isinstance,.builtin "isinstance"),(`int,.type "int"),(`str,.type "str"),(`list,.type "list"),(`tuple,.type "tuple"),(`bytes,.type "bytes"),(`dict,.type "dict")]
def kA:List (Str×ea):=jq++fy.map (λx=>(x.1,.ref x.2))++dP.map (λx=>(x.1,.ref x.2))++c5.map λx=>(iu x.1 x.2.1,.ref x.2.2)
def iR:Fn:=cy (zT `__init__ (RG.Internal.clsIn `GateError top)) [] false
noncomputable def Ed(p:Arguments):Option (List Str):=match p with|⟨[],as,none,[],_,none,_⟩=>some (as.map (·.arg))|_=>none
def jx(K:Frag)(a:Addr):Option as0:=(K.lookup a).bind λo=>dF o.data
def Cw(K:Frag)(v:ea):Option Str:=(vR v).bind λc=>(K.lookup c).bind λo=>(dV o.data).bind λvs=>(vs[1]?).bind vS
def Rp(K:Frag)(fd:as0):=(fd.body,fd.scope,fd.closure,fd.globals,fd.builtins,Ed fd.params,fd.defaults,Cw K fd.code==some fd.qualname)
noncomputable def Rq(f:Fn):=(ar9 f.body,f.sc,([]:List (Str×Addr)),ef,hW,some f.params,q0,true)
def OH(d:Dat)(v:ea):Bool:=((tI d).bind λi=>(vI v).bind λj=>ir (i==j) (some ())).isSome||((tS d).bind λx=>(vS v).bind λq=>ir (cg x==q) (some ())).isSome
def constOk(K:Frag)(x:Str×Dat):Bool:=((nsIn K ef x.1).bind λo=>o.bind λv=>ir (OH x.2 v) (some ())).isSome
def attrsOf(c:Str):List Str:=(D8.lookup c).getD []
def HB(K:Frag)(a:Addr):Bool:=((K.lookup a).bind λo=>(dC o.data).bind λcd=>ir (decide (o.cls=.type "type")&&!cd.hasDel) (some ())).isSome
noncomputable def HC:List String:=["range","zip","enumerate","Exception"]
def sr(f:Str->Addr->β):List β:=dP.map λx=>f x.1 x.2
def R2(f:Addr->β):List β:=c5.map λx=>f x.2.2
def R3(K:Frag)(C:Addr):=((HB K C,ak4 K (.ref C) "__call__",λS=>peek K S (nc (.ref C) (.type "type")),λS=>peek K S (mroOf (.ref C)),λS=>peek K S (al2 (.ref C))),(λS rest=>peek K S (u6 "Exception.__new__" ⟨.ref C::rest,[]⟩),λS=>peek K S (isType (.ref C)),λS=>peek K S (gb (.ref C) (.type "Exception")),λS=>peek K S (gb (.ref C) (.type "BaseException")),λS=>peek K S (gb (.ref C) (.type "type"))),(λS=>peek K S (ak0 "BaseException.__new__" (.ref C)),λS=>peek K S (gb (.ref C) (.type "AttributeError")),λS=>peek K S (gb (.ref C) (.type "NameError")),λS=>peek K S (gb (.ref C) (.ref C))),(λS=>peek K S (qu (.ref C) "__init__"),λS self=>peek K S (ai2 (.ref 29) self),kt K (.ref C) "__setattr__",(aj6 K C).map (·.mro)),(ah9 K C,am3 K C (.type "object"),kt K (.ref C) `what,kt K (.ref C) `at,λS=>peek K S (nc (.ref C) (.type "tuple"))))
noncomputable def R4(C:Addr):=((true,some (some (e5 "type.__call__")),λY:l4=>some true,λY:l4=>some [e0 C,.ref 39,.type "Exception",.type "BaseException",.type "object"],λY:l4=>some (some "Exception.__new__")),(λ(_:l4)(_:List ea)=>some (),λY:l4=>some true,λY:l4=>some true,λY:l4=>some true,λY:l4=>some false),(λY:l4=>some (),λY:l4=>some false,λY:l4=>some false,λY:l4=>some true),(λY:l4=>some (some (e0 29)),λ(_:l4)(self:ea)=>some (e0 29,[self]),some (some (e5 "object.__setattr__")),some [e0 C,.ref 39,.type "Exception",.type "BaseException",.type "object"]),(true,some true,some (none:Option ea),some (none:Option ea),λY:l4=>some false))
def Cx(K:Frag):=((fy.map λx=>nsIn K ef x.1,dP.map λx=>nsIn K ef x.1,fx.map λx=>nsIn K ef x.1,jq.map λx=>nsIn K ef x.1,HC.map λx=>nsIn K ef (S x)),(fx.map λx=>fx.map λy=>subIn K (.ref x.2) (.ref y.2),(fy++dP++fx).map λx=>al5 K (.ref x.2),R2 λa=>al5 K (.ref a),(K.lookup ef).isSome,c5.map λx=>(dP.lookup x.1).map λC=>kt K (.ref C) x.2.1,R2 λa=>ah8 K (.ref a)),(fy.map λx=>(jx K x.2).map (Rp K),fy.map λx=>ah8 K (.ref x.2),R2 λa=>(jx K a).map (Rp K),jF.map (constOk K)),((jx K 29).map λfd=>(fd.body,fd.scope,fd.closure,fd.globals,fd.builtins,Cw K fd.code==some fd.qualname),(jx K 29).map λfd=>λ(S:l4)(e a:ea)=>peek K S (L0 fd ⟨[e,a],[]⟩),(jx K 29).map λfd=>λ(S:l4)(e a b:ea)=>peek K S (L0 fd ⟨[e,a,b],[]⟩)),(sr λY C=>kt K (.ref C) "__getattribute__",sr λY C=>kt K (.ref C) "__getattr__",sr λY C=>kt K (.ref C) "__setattr__",sr λY C=>kt K (.ref C) "__eq__",sr λY C=>kt K (.ref C) "__ne__",sr λY C=>plainOver K C,sr λY C=>ah9 K C),(sr λc C=>(attrsOf c).map λa=>kt K (.ref C) a,sr λY C=>kt K (.ref C) "__class__",ak4 K (.builtin "object.__class__") "__get__",takesIn K (.builtin "object.__class__"),sr λY C=>am3 K C (.type "object"),sr λY C=>kin_notT K C "str",sr λY C=>makesIn K C),fx.map λx=>R3 K x.2)
def Fi:=((fy.map λx=>some (some (e0 x.2)),dP.map λx=>some (some (e0 x.2)),fx.map λx=>some (some (e0 x.2)),jq.map λY=>some (none:Option ea),HC.map λY=>some (none:Option ea)),(fx.map λx=>fx.map λy=>some (y.1==x.1),(fy++dP++fx).map λY=>true,R2 λY=>true,true,c5.map λx=>(dP.lookup x.1).map λY=>some (some (e0 x.2.2)),R2 λY=>some (Value.type "function")),(fy.map λx=>(fnAt x.1).map Rq,fy.map λY=>some (Value.type "function"),c5.map λx=>(fnAt (iu x.1 x.2.1)).map Rq,jF.map λY=>true),(some (ar9 iR.body,iR.sc,([]:List (Str×Addr)),ef,hW,true),some λ(_:l4)(e a:ea)=>some [(`self,e),(`what,a),(`at,.none)],some λ(_:l4)(e a b:ea)=>some [(`self,e),(`what,a),(`at,b)]),(sr λY Y=>some (some (e5 "object.__getattribute__")),sr λY Y=>some (none:Option ea),sr λY Y=>some (some (e5 "object.__setattr__")),sr λY Y=>some (some (e5 "object.__eq__")),sr λY Y=>some (some (e5 "object.__ne__")),sr λY Y=>true,sr λY Y=>true),(sr λc Y=>(attrsOf c).map λY=>some (none:Option ea),sr λY Y=>some (some (e5 "object.__class__")),some (some (e5 "getset_descriptor.__get__")),some true,sr λY Y=>some true,sr λY Y=>true,sr λY Y=>true),fx.map λx=>R4 x.2)
section
set_option maxRecDepth 1000000
noncomputable def Sv(P:ak3):BT:=((ql P).objs.toList.foldl (λ(x:BT×Nat)o=>(x.1.ins x.2 o,x.2+1)) (.nil,0)).1
def OT(P:ak3)(os:ap9):SharedT:=⟨Sv P,(ql P).objs.size,(ql P).life,#[],aj3,ak6,os⟩
noncomputable def UU:List Addr:=[2,3,15,22,23,25,26,28,29,30,32,33,35,36,37,38,39,40,43,50,51,52,55,62,63,64,67,74,75,76,79,82,83,91,93,94,96,97,98,100,101,103,104,105,106,107,108,109,119,121,122,124,125,126,129,130,131,133,134,136,137,138,140,141,143,144,145,147,148,150,151,152,155,156,157,159,160,162,163,164,165,166,167,168,171,174,175,176,178,179,181,182,183,186,187,188,191,192,193,195,196,198,199,207,209,210,212,213,214,216,217,219,220,221,223,224,226,227,228,230,231,233,234,235,237,238,240,241,242,245,246,247,249,250,252,253,254,255,256,257,258,261,264,265,266,269,270,271,274,275,276,278,279,281,282,283,286,287,288,290,291,293,294,295,297,298,300,301,302,305,306,307,309,310,312,313,314,317,318,319,322,323,324,327,328,329,331,332,334,335,336,338,339,341,342,343,345,346,348,349,350,352,353,355,356,357,359,360,362,363,364,367,368,369,371,372,374,375,376,378,379,381,382,383,385,386,388,389,390,393,394,395,398,399,400,403,404,405,408,409,410,413,414,415,418,419,420,422,423,425,426,427,430,431,432,434,435,437,438,439,442,443,444,447,448,449,452,453]
noncomputable abbrev pw:ap8:=PySem.Challenge.pw_np0319_01
def vw:ap8:=view pw [56]
def tD:List Str:=[`TextError,`ProgramError,`MapError,`MapRow,`Object,`LineReader,`little,`is_name,`check_sum,`hex_of,`object_lines,`write_object,`read_map,`read_slot,`read_symbol,`read_relocation,`read_object,`filled_map,`filled_call,`filled,`joined_maps,`join,`needed,`strip,`_law_pen,`_law_draw,`_law_pick,`_law_names,`_law_items,`_law_little,`_law_octets,`_law_width,`_law_laid,`_law_told,`_law_used,`_law_reached,`_law_filled,`_law_line,`_law_text,`_law_asked,`_law_object,`_law_bent,`_law_text_right,`_law_twice_right,`HEAD,`SLOT_WIDTH,`WIDE_CODE,`CALL_CODE,`MAP_SOURCE,`MOST_NAME,`FIGURES,`NAME_SIGNS,`GateError,`__name__]
def xt(s:eN):Bool:=xlAt vw [] s&&recOk (RowW.records PySem.Challenge.rw_np0319_01.row.toRowW) s
def fragT(s:SharedT):Frag:=UU.filterMap λa=>((if a<s.n then some ((s.tree.get a).getD default) else none).bind alive).map λo=>(a,o)
def Jz(h₀:Heap)(s:SharedT):=(staticsOk (nw pw.main.body) h₀ s.abs.heap&&am4 pw s.abs.heap&&gensDone s.abs&&laidKept h₀ s.abs.heap,al6 vw tD (nw pw.main.body) xt true s.abs,Cx (fragT s))
abbrev Sw(w:World)(os:ap9):=PySem.W.Fast.tw10110043849684766642 ae8 pw w 11 (some (.ref 6)) 0 6532 (OT w.params os) (topStub pw)
theorem F9:∀(w:World)(os:ap9),(Sw w os).map (λr=>Jz (ql w.params) r.2.1)=some (true,openGood vw tD,Fi):=λw os=>∅
theorem said_and{a b:Bool}(h:a=true)(k:b=true):(a&&b)=true:=by subst h k;rfl
theorem said:OpenLaw.wellSaid PySem.Challenge.rw_np0319_01=true:=by
 rw[PySem.W.Fast.te9446332074065402090];delta PySem.W.Fast.tw9446332074065402090
 repeat' with_reducible (refine said_and ?_ ?_)
 delta PySem.W.Fast.tw17960256430627541270
 repeat' with_reducible (refine said_and ?_ ?_)
 delta PySem.W.Fast.tw2436336058641802641
 repeat' with_reducible (refine said_and ?_ ?_)
 delta PySem.W.Fast.tw12908688711261696721
 repeat' with_reducible (refine said_and ?_ ?_)
 all_goals decide +kernel
end
structure qr(h:Heap)(mb:Str->Option ea):Prop where
 ns:h.Ns hW mb
 bi:∀x∈jq,mb x.1=some x.2
 its:∀T:String,T="range"\/T="zip"\/T="enumerate"\/T="Exception"->mb (S T)=some (.type T)
 lim:h.NoLimit
@[irreducible]def pG:ap8:=PySem.Challenge.rw_np0319_01.row.prog
theorem R5:pG=PySem.Challenge.rw_np0319_01.row.prog:=by unfold pG;rfl
def GoodG(w:World)(K:Frag)(h:Heap)(mb:Str->Option ea):Prop:=K.In h->Cx K=Fi->qr h mb->∀{s:eN}{P:ak3}{ns:List Int}{vs:List ea}{a:Addr}{n k:Nat}{f:Fn}{σ':ae}{R:a9 Result},s.heap=h->h.get? a=some (cM vs n)->WellAll P h vs (ofPys (ns.map .int))->fnAt `law=some f->k<=40->nh (Cj k) f [.d (.list (ns.map .int))] []=.ok (.d (.bool true)) σ'->(∀s',(∀b o,h.get? b=some o->s'.heap.get? b=some o)->s'.os=s.os->s'.gens=s.gens->R (.ok (.ret (.bool true))) s')->p7 (n4 PySem.Challenge.rw_np0319_01.row.prog w) callerA (.call (.ref 453) ⟨[.ref a],[]⟩) R s
def tG:World×Frag×Heap×(Str->Option ea):= @Classical.epsilon _ ⟨aWorld 0,[],default,λY=>none⟩ λt=> ¬GoodG t.1 t.2.1 t.2.2.1 t.2.2.2
@[irreducible]def wG:World:=tG.1
@[irreducible]def kG:Frag:=tG.2.1
@[irreducible]def bG:Heap:=tG.2.2.1
@[irreducible]def mG:Str->Option ea:=tG.2.2.2
def cG(c:Str):Option Addr:=dP.lookup c
def eG(c:Str):Option Addr:=fx.lookup c
def fG(c:Str):Option ea:=kA.lookup c
noncomputable abbrev MG:Model:=n4 pG wG
theorem HD(g:GoodG wG kG bG mG)(w:World)(K:Frag)(h:Heap)(a:Str->Option ea):GoodG w K h a:=by unfold wG kG bG mG at g;rwa[XB λn=>Classical.epsilon_spec_aux _ (λt:World×Frag×Heap×(Str->Option ea)=> ¬GoodG t.1 t.2.1 t.2.2.1 t.2.2.2) ⟨(w,K,h,a),n⟩ g]
end
open Classical in noncomputable def only(h:Heap)(p:Addr->Prop):Heap:=⟨h.objs.mapIdx λi o=>if p i then o else{cls:=.none,data:=.freed},h.life⟩
theorem fz(d:p a)(e:h.get? a=some g):(only h p).get? a=some g:=by erw[hJ (λc b=>Yz.mpr ⟨?_,b⟩) (Yz.mp e)];delta only;simp![aa0,c,nx,WG d]
theorem da(e:(only h p).get? a=some g):p a/\h.get? a=some g:=by
 erw[hJ (λb f=>?_) (Yz.mp e)];replace b:=Vn (am aa0) b;clear e;cases d:h.objs[a]? with
 |none=>replace b:=(d)▸b;rwa[k_nn b]
 |some x=>
  rw[d]at b;simp![nx,Option.some.injEq]at b;by_cases c:p a; ·rw[WG c]at b;subst b;rwa[⟨c,Yz.mpr ⟨d,f⟩⟩]
  ·rw[WO c]at b;subst b;rwa[k_tf f]
theorem fe(b: ¬p a):(only h p).get? a=none:=by cases e:(only h p).get? a with|none=>rfl|some o=>rwa[absurd (da e).1 b]
theorem rk{K:Type} [DecidableEq K]{c:KeyKind prog w K}{f:K->Option ea}(g:h.MapOf c a f)(k:∀b o,h.get? b=some o->h'.get? b=some o):h'.MapOf c a f:=fi g λo i e d r=>m_32 o i e (k _ _ d) r
theorem gq{K:Type} [DecidableEq K]{c:KeyKind prog w K}{f:List (K×ea)}(g:h.DictOf c a f)(k:∀b o,h.get? b=some o->h'.get? b=some o):h'.DictOf c a f:=fi g λo i e d r=>m_32 o i e (k _ _ d) r
noncomputable abbrev oQ(C dx:Addr):Obj:={cls:=.ref C,dict:=some dx,data:=.plain}
noncomputable abbrev fY(es:List Ht)(n:Nat):Obj:={cls:=.type "dict",data:=.dict es.toArray n}
noncomputable abbrev dA(vs:List ea)(n:Nat):Obj:={cls:=.type "tuple",data:=.seq vs.toArray n}
mutual inductive DR(F:Heap):Dat->Value->Prop where|none:DR F .none .none|bool{b:_}:DR F (.bool b) (.bool b)|int{i t:_}:DR F (.int i) (.int i t)|str{s t:_}:DR F (.str s) (.str (cg s) t)|bytes{b t:_}:DR F (.bytes b) (.bytes b.toArray t)|tuple{xs a vs n:_}:F.get? a=some (dA vs n)->c9 F xs vs->DR F (.tuple xs) (.ref a)|list{xs a vs n:_}:F.get? a=some (cM vs n)->c9 F xs vs->DR F (.list xs) (.ref a)|dict{ks xs a f:_}{val:List Nat->Value}:F.MapOf (PySem.strKind pG wG) a f->(a==sysModules)=false->(∀k d,bS k ks xs=some d->f (cg k)=some (val k))->(∀k,bS k ks xs=none->f (cg k)=none)->(∀k d,bS k ks xs=some d->DR F d (val k))->DR F (.dict ks xs) (.ref a)|obj{c ns xs x C dx es n:_}:cG c=some C->F.get? x=some (oQ C dx)->F.get? dx=some (fY es n)->rI F ns xs es->DR F (.obj c ns xs) (.ref x)|fn{f v:_}:fG f=some v->DR F (.fn f) v inductive c9(F:Heap):List Dat->List Value->Prop where|nil:c9 F [] []|cons{x xs v vs:_}:DR F x v->c9 F xs vs->c9 F (x::xs) (v::vs)inductive rI(F:Heap):List Str->List Dat->List DictEntry->Prop where|nil:rI F [] [] []|cons{k ks x xs t v es:_}:DR F x v->rI F ks xs es->rI F (k::ks) (x::xs) (⟨PyData.keyHash wG.params k,.str k t,v⟩::es)end
section
theorem DR.mono(k:F.StaysIn F'){v:ea}(h:DR F g v):DR F' g v:=DR.rec (motive_1:=λg v Y=>DR F' g v) (motive_2:=λg v Y=>c9 F' g v) (motive_3:=λn g v Y=>rI F' n g v) .none .bool .int .str .bytes (λh Y a=>.tuple (k _ _ h) a) (λh Y a=>.list (k _ _ h) a) (λh b f e Y a=>.dict (rk h k) b f e a) (λc h d Y a=>.obj c (k _ _ h) (k _ _ d) a) .fn .nil (λY Y=>.cons) .nil (λY Y=>.cons) h
theorem c9.mono(k:F.StaysIn F')(h:c9 F d e):c9 F' d e:=by induction d generalizing e with|nil=>cases h;rwa[.nil]|cons _ _ c=>cases h with|cons a b=>rwa[.cons (a.mono k) (c b)]
theorem rI.mono(k:F.StaysIn F')(h:rI F e d g):rI F' e d g:=by induction d generalizing e g with|nil=>cases h;rwa[.nil]|cons _ _ c=>cases h with|cons a b=>rwa[.cons (a.mono k) (c b)]
inductive w0(F:Heap):List (List Nat)->List Dat->List (Str×ea)->Prop where|nil:w0 F [] [] []|cons{k ks x xs v kvs:_}:DR F x v->w0 F ks xs kvs->w0 F (k::ks) (x::xs) ((cg k,v)::kvs)
theorem w0.mono(k:F.StaysIn F'){a b c}(h:w0 F a b c):w0 F' a b c:=by induction h with|nil=>rwa[.nil]|cons h _ d=>rwa[.cons (h.mono k) d]
theorem Cy:cg e=cg g↔e=g:=⟨λh=>by delta cg at h;simpa using h,λh=>by rw[h]⟩
theorem w0.look{ks xs kvs}(h:w0 F ks xs kvs):(∀d,bS g ks xs=some d->∃v,aj4 kvs (cg g)=some v/\DR F d v)/\(bS g ks xs=none->aj4 kvs (cg g)=none):=by induction h with|nil=>rwa[⟨λd e=>k_nn e,λY=>rfl⟩]| @cons k0 ks x xs v kvs h hs ih=>dsimp![bS];unfold aj4 at ih⊢;dsimp![fo];cases q:decide (g=k0)with|true=>rw[VF q,Vz (Eq.refl (cg k0))];rwa[⟨λd e=>m_12 v rfl (Vp e▸h),λe=>k_sn e⟩]|false=>rw[VO λz=>WX q (Cy.mp z).symm];rwa[ih]
theorem w0.map{ks xs kvs}(a:w0 F ks xs kvs):∃val:List Nat->ea,(∀k d,bS k ks xs=some d->aj4 kvs (cg k)=some (val k))/\(∀k,bS k ks xs=none->aj4 kvs (cg k)=none)/\∀k d,bS k ks xs=some d->DR F d (val k):=by
 erw[ia (λk=>(aj4 kvs (cg k)).getD .none) (λk d e=>?_) (λk e=>a.look.2 e) λk d e=>?_]; ·obtain⟨v,b,_⟩:=a.look.1 d e;simp![b,Y0]
 ·obtain⟨v,b,c⟩:=a.look.1 d e;simp![b,Y0];rwa[c]
theorem c9.length{xs vs}(h:c9 F xs vs):vs.length=xs.length:=by induction xs generalizing vs with|nil=>cases h;rfl|cons x xs a=>cases h with|cons _ b=>simp[a b]
theorem c9.get{xs vs}(h:c9 F xs vs){i:Nat}(e:xs[i]?=some x):∃v,vs[i]?=some v/\DR F x v:=by induction xs generalizing vs i with|nil=>rwa[k_nn e]|cons y xs a=>cases h with|cons h c=>cases i with|zero=>injection e with b;rwa[b▸(m_12 _ rfl h)]|succ i=>rwa[a c e]
theorem c9.append{xs vs ys ws}(h:c9 F xs vs)(b:c9 F ys ws):c9 F (xs++ys) (vs++ws):=by induction xs generalizing vs with|nil=>cases h;rwa[b]|cons x xs a=>cases h with|cons h c=>rwa[.cons h (a c)]
theorem c9.snoc{xs vs x v}(h:c9 F xs vs)(a:DR F x v):c9 F (xs++[x]) (vs++[v]):=h.append (.cons a .nil)
theorem c9.drop{xs vs}(h:c9 F xs vs):∀n,c9 F (xs.drop n) (vs.drop n):=by induction xs generalizing vs with|nil=>cases h;intro n;simp;rwa[.nil]|cons x xs a=>cases h with|cons h b=>intro n;cases n with|zero=>rwa[.cons h b]|succ n=>rwa[a b n]
theorem c9.take{xs vs}(h:c9 F xs vs):∀n,c9 F (xs.take n) (vs.take n):=by induction xs generalizing vs with|nil=>cases h;intro n;simp;rwa[.nil]|cons x xs a=>cases h with|cons h b=>intro n;cases n with|zero=>rwa[.nil]|succ n=>rwa[.cons h (a b n)]
theorem c9.set{xs vs x v}(h:c9 F xs vs)(c:DR F x v):∀n,c9 F (xs.set n x) (vs.set n v):=by induction xs generalizing vs with|nil=>cases h;intro n;rwa[.nil]|cons y xs a=>cases h with|cons h b=>intro n;cases n with|zero=>rwa[.cons c b]|succ n=>rwa[.cons h (a b n)]
theorem c9.flatRep{xs vs}(h:c9 F xs vs)n:c9 F (ew n xs).flatten (ew n vs).flatten:=by induction n with|zero=>rwa[.nil]|succ n a=>rwa[h.append a]
end
structure St where
 F:Heap
 ρ:List (Addr×Addr)
variable{W W':St}{R:St->ae->β->a9 α}{R':St->ae->δ->a9 γ}
def live(σ:ae)(ρ:List (Addr×Addr))(a:Addr):Prop:=∃(n:Nat)(o:aX)(p:Addr×Addr),σ[n]?=some o/\o≠.dead/\ρ[n]?=some p/\(a=p.1\/a=p.2)
inductive CR(F h:Heap):Addr×Addr->aX->Prop where|list{p xs vs n:_}:p.2=p.1->h.get? p.1=some (cM vs n)->c9 F xs vs->CR F h p (.list xs)|dict{p ks xs kvs:_}:p.2=p.1->h.DictOf (qn pG wG) p.1 kvs->(p.1==xd)=false->w0 F ks xs kvs->CR F h p (.dict ks xs)|inst{p c C ns xs es n:_}:cG c=some C->h.get? p.1=some (oQ C p.2)->h.get? p.2=some (fY es n)->rI F ns xs es->CR F h p (.inst c ns xs)
structure Inv(W:St)(σ:ae)(h:Heap):Prop where
 known:kG.In W.F
 based:bG.StaysIn W.F
 stays:W.F.StaysIn h
 len:W.ρ.length=σ.length
 cell:∀(n:Nat)(o:aX)(p:Addr×Addr),σ[n]?=some o->W.ρ[n]?=some p->o≠.dead->CR W.F h p o
 off:∀a,live σ W.ρ a->W.F.get? a=none
 apart:∀(i j:Nat)(p q:Addr×Addr)(x y:aX),i≠j->σ[i]?=some x->σ[j]?=some y->x≠.dead->y≠.dead->W.ρ[i]?=some p->W.ρ[j]?=some q->p.1≠q.1/\p.1≠q.2/\p.2≠q.1/\p.2≠q.2
noncomputable def VR(W:St):V->ea->Prop|.d x,v=>DR W.F x v|.cell n,v=>∃p,W.ρ[n]?=some p/\v=.ref p.1
def Kept(o:Obj)(x:Option Obj):Prop:=x=some o\/∃es n sl,o.data=.dict es n/\x=some {o with slots:=sl}
theorem Kept.refl(o:Obj):Kept o (some o):=.inl rfl
theorem Kept.trans(h:Kept g j)(k:∀f,j=some f->Kept f y):Kept g y:=by
 injections j _ g y;rcases h with rfl|⟨i,n,sl,hd,rfl⟩; ·rwa[k _ rfl]
 ·rwa[ag0 (k _ rfl) (λh=>.inr (m_32 i n sl hd h)) λa=>fi a λc e b d h=>.inr (m_32 i n b hd h)]
theorem Kept.some(h:Kept e g):∃sl,g=some {e with slots:=sl}:=by
 injections e g;rcases h with rfl|⟨_,_,sl,_,rfl⟩; ·rwa[⟨e.slots,rfl⟩]
 ·rwa[⟨sl,rfl⟩]
structure Step(W:St)(σ:ae)(h:Heap)(W':St)(σ':ae)(h':Heap)(X:Addr->Prop):Prop where
 F:W.F.StaysIn W'.F
 ρ:∃r,W'.ρ=W.ρ++r
 newF:∀a o,W'.F.get? a=some o->W.F.get? a=some o\/live σ W.ρ a\/h.get? a=none
 liv:∀a,live σ' W'.ρ a->live σ W.ρ a\/h.get? a=none
 keep:∀b o,h.get? b=some o-> ¬live σ W.ρ b-> ¬X b->Kept o (h'.get? b)
 alive:∀b o,h.get? b=some o->∃o',h'.get? b=some o'
noncomputable abbrev eC:Addr->Prop:=λY=>False
theorem StaysIn.refl(h:Heap):h.StaysIn h:=λY Y e=>e
theorem Step.refl(W:St)(a:ae)(h:Heap)(X:Addr->Prop):Step W a h W a h X:=⟨λY Y e=>e,⟨[],by simp⟩,λY Y e=>.inl e,λY e=>.inl e,λY o e Y Y=>e▸Kept.refl o,λY o e=>⟨o,e⟩⟩
theorem Step.dead(a:Step W σ h W' σ' h' X)(e:h'.get? g=none):h.get? g=none:=by cases q:h.get? g with|none=>rfl|some o=>obtain⟨c,b⟩:=a.alive g o q;replace b:=Vn (am e) b;rwa[k_nn b]
theorem Step.trans(a:Step w y h₁ g z j X)(b:Step g z j m A B X):Step w y h₁ m A B X where
 F:=λx o e=>b.F x o (a.F x o e)
 ρ:=let⟨r,t⟩:=a.ρ;let⟨q,u⟩:=b.ρ;⟨r++q,by simp![u,t,VA]⟩
 newF:=λx o e=>by
  rwa[Pg (b.newF x o e) (λh=>a.newF x o h) (λh=>.inr (a.liv x h)) λh=>.inr (.inr (a.dead h))]
 liv:=λx e=>by
  rcases b.liv x e with h|h; ·rwa[a.liv x h]
  ·rwa[.inr (a.dead h)]
 keep:=λx o e n s=>by
  erw[(a.keep x o e n s).trans λc p=>b.keep x c p (λl=>?_) s];rcases a.liv x l with h|h; ·rwa[n h]
  ·replace h:=Vn (am e) h;rwa[k_sn h]
 alive:=λx o e=>let⟨c,p⟩:=a.alive x o e;b.alive x c p
theorem Step.mono(a:Step W σ h W' σ' h' X)(k:∀x,X x->YY x):Step W σ h W' σ' h' YY:=⟨a.F,a.ρ,a.newF,a.liv,λb o e n c=>a.keep b o e n λq=>c (k b q),a.alive⟩
theorem Inv.lt(I:Inv W σ h)(l:live σ W.ρ a):∃o,h.get? a=some o:=by erw[x_34 l λn o p f k j c=>?_];have:=I.cell n o p f j k;clear l;clear f;clear k;cases this with|list e b _=>rcases c with rfl|rfl;rwa[⟨_,b⟩];rwa[⟨_,e▸b⟩]|dict e b _ _=>erw[fi b λo Y Y d Y=>?_];rcases c with rfl|rfl;rwa[⟨o,d⟩];rwa[⟨o,e▸d⟩]|inst _ i g _=>rcases c with rfl|rfl;rwa[⟨_,i⟩];rwa[⟨_,g⟩]
theorem VR.step(S:Step W σ h W' σ' h' X):∀{v:V}{c:ea},VR W v c->VR W' v c|.d _,_,e=>DR.mono S.F e|.cell n,_,⟨p,e,q⟩=>by obtain⟨r,a⟩:=S.ρ;erw[m_12 p ?_ q];rw[a,VS ((V2.mp e).1)];rwa[e]
theorem bP(l:live (σ.set n .dead) W.ρ a):live σ W.ρ a:=by
 erw[x_34 l λm o p b f d c=>?_];by_cases e:n=m
 ·subst e;replace b:=Vn (am WS) b;simp![Zq]at b;split at b; ·obtain rfl:=Vp b;rwa[absurd rfl f]
  ·rwa[k_nn b]
 ·rw[WJ e]at b;rwa[gO m o p b f d c]
noncomputable def grown(W:St)(h h':Heap):St:=⟨only h' λa=>(∃o,W.F.get? a=some o)\/h.get? a=none,W.ρ⟩
theorem Inv.grow(I:Inv W σ h)(k:∀b o,h.get? b=some o->h'.get? b=some o):W.F.StaysIn (grown W h h').F/\Inv (grown W h h') σ h':=by
 have d:W.F.StaysIn (grown W h h').F:=λa o e=>fz (.inl ⟨o,e⟩) (k a o (I.stays a o e));erw[⟨d,λa o e=>d a o (I.known a o e),λa o e=>d a o (I.based a o e),λa o e=>(da e).2,I.len,λn o p g u i=>?_,λa l=>fe ?_,I.apart⟩]; ·have:=I.cell n o p g u i;clear g;clear i;cases this with|list e f s=>rwa[.list e (k _ _ f) (s.mono d)]|dict e f j t=>rwa[.dict e (gq f k) j (t.mono d)]|inst c r m s=>rwa[.inst c (k _ _ r) (k _ _ m) (s.mono d)]
 ·rintro(⟨o,e⟩|q); ·replace e:=Vn (am (I.off a l)) e;rwa[k_nn e]
  ·obtain⟨o,e⟩:=I.lt l;replace q:=(e)▸q;rwa[k_sn q]
theorem Step.grow(I:Inv W σ h)(k:∀b o,h.get? b=some o->h'.get? b=some o)(X:Addr->Prop):Step W σ h (grown W h h') σ h' X where
 F:=(I.grow k).1
 ρ:=⟨[],by simp[grown]⟩
 newF:=λa o e=>by
  rcases da e with⟨⟨g,c⟩|q,d⟩; ·have:=k a g (I.stays a g c);replace this:=Vn (am d) this;injection this with f;rwa[f▸(.inl c)]
  ·rwa[.inr (.inr q)]
 liv:=λa e=>.inl e
 keep:=λb o e Y Y=>k b o e▸Kept.refl o
 alive:=λb o e=>⟨o,k b o e⟩
theorem bb(h:Heap):h.get? h.objs.size=none:=Xg (VM _)
theorem zU(k:∀b o,h.get? b=some o->h'.get? b=some o):h.get? h'.objs.size=none:=by cases q:h.get? h'.objs.size with|none=>rfl|some o=>rwa[absurd (Wm (k _ _ q)) (Xs _)]
theorem gQ(b:h.get? a=none)(e:h'.get? a=some g):(grown W h h').F.get? a=some g:=fz (.inr b) e
structure Rest(s s':eN):Prop where
 gens:s'.gens=s.gens
 drawn:s'.drawn=s.drawn
 os:s'.os=s.os
theorem Rest.refl(s:eN):Rest s s:=⟨rfl,rfl,rfl⟩
theorem Rest.trans(x:Rest e g)(y:Rest g j):Rest e j:=⟨y.gens.trans x.gens,y.drawn.trans x.drawn,y.os.trans x.os⟩
def ExcAt(W:St)(h₀:Heap)(L:Nat)(x:ea)(c:Str)(h:Heap):Prop:=∃e oe vs,x=.ref e/\h₀.get? e=none/\W.F.get? e=none/\h.get? e=some oe/\(∃C,eG c=some C/\oe.cls=.ref C)/\oe.data=.fields vs/\(vs[1]?=some .none\/∃T oT ts fl,vs[1]?=some (.ref T)/\h₀.get? T=none/\W.F.get? T=none/\T≠e/\h.get? T=some oT/\oT.data=.fields ts/\ts[3]?=some fl)
theorem ExcAt.le{h₀:Heap}(k:∀a,h₁.get? a=none->h₀.get? a=none)(H:ExcAt W h₁ L q u h):ExcAt W h₀ L q u h:=by
 erw[ba λd=>RI H λe o t m s n f l i j=>d (LQ e o t m (k _ s) n f l i (ba λd=>?_))];rcases j with h|⟨T,g,c,p,a,b,r⟩; ·rwa[d (.inl h)]
 ·rwa[d (.inr (LV T g c p a (k _ b) r))]
def Ref(A:kx)(L:Nat)(X:Addr->Prop)(W:St)(σ:ae)(s:eN)(t:Sem α)(m:Res β)(R:St->ae->β->a9 α):Prop:=m≠.stuck->∀(Q:a9 α)(E:a8),(∀a b σ' W' s',m=.ok b σ'->Inv W' σ' s'.heap->Step W σ s.heap W' σ' s'.heap X->Rest s s'->R W' σ' b a s'->Q a s')->(∀x c σ' W' s',m=.exc c σ'->Inv W' σ' s'.heap->Step W σ s.heap W' σ' s'.heap X->Rest s s'->ExcAt W' s.heap L x c s'.heap->E x s')->ed MG A t Q E s
section
theorem Ref.ret{a:α}{b:β}(I:Inv W σ s.heap)(r:R W σ b a s):Ref A L X W σ s (pure a) (ret b σ) R:=λY Y Y q Y=>Vs (q a b σ W s rfl I (Step.refl ..) (Rest.refl s) r)
theorem Ref.mono{c:St->ae->β->a9 α}(h:Ref A L X W σ s t m R)(k:∀W' σ' b a s',m=.ok b σ'->Inv W' σ' s'.heap->Step W σ s.heap W' σ' s'.heap X->Rest s s'->R W' σ' b a s'->c W' σ' b a s'):Ref A L X W σ s t m c:=λg Q E q e=>h g Q E (λa b σ' W' s' d i st r f=>q a b σ' W' s' d i st r (k W' σ' b a s' d i st r f)) e
theorem Ref.after(st:Step W σ s.heap W' σ' s'.heap X)(n:Rest s s')(h:Ref A L X W' σ' s' t m R)(o:m≠.stuck)(q:∀a b d g f,m=.ok b d->Inv g d f.heap->Step W σ s.heap g d f.heap X->Rest s f->R g d b a f->Q a f)(e:∀x c d g f,m=.exc c d->Inv g d f.heap->Step W σ s.heap g d f.heap X->Rest s f->ExcAt g s.heap L x c f.heap->E x f):ed MG A t Q E s':=h o Q E (λa b d g f l i j r k=>q a b d g f l i (st.trans j) (n.trans r) k) λx c d g f l i j r k=>e x c d g f l i (st.trans j) (n.trans r) (k.le λY=>st.dead)
theorem dr{f:α->M β}(h:aa m f σ≠.stuck):m σ≠.stuck:=λe=>h (by delta aa;rw[e])
theorem bX{f:α->M β}(h:m σ=.ok e σ'):aa m f σ=f e σ':=by delta aa;rw[h]
theorem cU{f:α->M β}(h:m σ=.exc e σ'):aa m f σ=.exc e σ':=by delta aa;rw[h]
theorem bl{f:β->M δ}(h:Ref A L X W σ s t (m σ) R)(j:∀a b σ' W' s',m σ=.ok b σ'->Inv W' σ' s'.heap->Step W σ s.heap W' σ' s'.heap X->Rest s s'->R W' σ' b a s'->Ref A L X W' σ' s' (k a) (f b σ') R'):Ref A L X W σ s (t>>=k) (aa m f σ) R':=λl Q E q e=>by erw[Vm (h (dr l) _ _ (λa b σ' W' s' d i st r g=>?_) λx c σ' W' s' d i st r g=>e x c σ' W' s' (cU d) i st r g)];rw[bX d]at q e l;rwa[(j a b σ' W' s' d i st r g).after st r l q e]
theorem Ref.of{c:Type}{d:Sem c}{g:α->c}{R:St->ae->β->a9 c}(k:∀(Q:a9 c)(E:a8),ed MG A t (λa=>Q (g a)) E s->ed MG A d Q E s)(h:Ref A L X W σ s t m λW' σ' b a s'=>R W' σ' b (g a) s'):Ref A L X W σ s d m R:=λl Q E q e=>k Q E (h l _ _ (λa b σ' W' s' j i st r f=>q (g a) b σ' W' s' j i st r f) e)
theorem b3{a:List ea}(h:Ref A L X W σ s t m R):Ref A L X W σ s (PySem.holding a t) m R:=Ref.of (g:=id) (λY Y x=>VX x) h
theorem b4{p:Pos}{t:Unit->Sem α}(h:Ref A L X W σ s (t ()) m R):Ref A L X W σ s (z3 p>>=t) m R:=Ref.of (g:=id) (λY Y x=>Vm (We x)) h
theorem Ref.operate{c:List ea}{R:St->ae->β->a8}(h:Ref A L X W σ s e m R):Ref A L X W σ s (PySem.operate c e) m R:=Ref.of (g:=id) (λY Y x b p a=>by simp![Sem.wp_operate];rwa[x b p a]) h
theorem b6{a:α}{R:St->ae->β->a9 γ}(h:Ref A L X W σ s (k a) m R):Ref A L X W σ s (pure a>>=k) m R:=Ref.of (g:=id) (λY Y x=>Vm (Vs x)) h
theorem Ref.look{a:α}{m:Res β}{R:St->ae->β->a9 γ}(l:∀(Q:a9 α)(E:a8),Q a s->ed MG A t Q E s)(h:Ref A L X W σ s (k a) m R):Ref A L X W σ s (t>>=k) m R:=Ref.of (g:=id) (λY Y x=>Vm (l _ _ x)) h
theorem Ref.eq(d:e=t)(c:g=m)(h:Ref A L X W σ s t m R):Ref A L X W σ s e g R:=d▸c▸h
theorem b7:Ref A L X W σ s t .stuck R:=λa=>absurd rfl a
theorem b8(I:Inv W σ s.heap)(h:∀(Q:a9 α)(E:a8),(∀a tk,R W σ e a {s with toks:=tk}->Q a {s with toks:=tk})->ed MG A t Q E s):Ref A L X W σ s t (.ok e σ) R:=λY Q E q Y=>h Q E λa tk r=>q a e σ W {s with toks:=tk} rfl I (Step.refl ..) ⟨rfl,rfl,rfl⟩ r
theorem cI(I:Inv W σ s.heap)(h:∀(Q:a9 α)(E:a8),(∀a h' tk,(∀e o,s.heap.get? e=some o->h'.get? e=some o)->R (grown W s.heap h') σ e a {s with heap:=h',toks:=tk}->Q a {s with heap:=h',toks:=tk})->ed MG A t Q E s):Ref A L X W σ s t (.ok e σ) R:=λY Q E q Y=>h Q E λa h' tk k r=>q a e σ (grown W s.heap h') {s with heap:=h',toks:=tk} rfl (I.grow k).2 (Step.grow I k X) ⟨rfl,rfl,rfl⟩ r
end
theorem nn(h:(none:Option α)=some e):P:=k_nn h
theorem ff(h:false=true):P:=gm h
theorem ob{f:α->Option β}(h:o.bind f=some e)(k:∀a,o=some a->f a=some e->P):P:=by cases o with|none=>rwa[nn h]|some a=>rwa[k a rfl h]
theorem om{f:α->β}(h:o.map f=some e)(k:∀a,o=some a->f a=e->P):P:=by cases o with|none=>rwa[nn h]|some a=>rwa[k a rfl (Vp h)]
section
variable{P:ea->Prop}
theorem db(h:Ref A L X W σ s t m R)(b:Ref A L X W σ s t e R):Ref A L X W σ s t (alt m e) R:=by cases m with|stuck=>rwa[b]|ok a σ=>rwa[h]|exc c σ=>rwa[h]
theorem dy(h:∀a,e=some a->Ref A L X W σ s t (f a) R):Ref A L X W σ s t (opt e f) R:=by cases e with|none=>rwa[b7]|some a=>rwa[h a rfl]
theorem Ref.optM{f:γ->M β}(h:∀a,e=some a->Ref A L X W σ s t (f a σ) R):Ref A L X W σ s t (RG.Internal.optM e f σ) R:=by cases e with|none=>rwa[b7]|some a=>rwa[h a rfl]
theorem Ref.lift(h:∀a,e=some a->Ref A L X W σ s t (.ok a σ) R):Ref A L X W σ s t (RG.Internal.lift e σ) R:=by cases e with|none=>rwa[b7]|some a=>rwa[h a rfl]
theorem Ref.reads{f:ae->Option β}(h:∀a,f σ=some a->Ref A L X W σ s t (.ok a σ) R):Ref A L X W σ s t (RG.Internal.reads f σ) R:=by delta RG.Internal.reads;cases q:f σ with|none=>rwa[b7]|some a=>rwa[h a q]
theorem Ref.grd(h:b=true->Ref A L X W σ s t m R):Ref A L X W σ s t (gd b m) R:=by cases b with|false=>rwa[b7]|true=>rwa[h rfl]
theorem Cz{P:Prop}(h:RG.Internal.alt m e≠.stuck)(a:m≠.stuck->P)(b:e≠.stuck->P):P:=by
 rcases m with _|_|_; ·rwa[a λz=>nomatch z]
 ·rwa[a λz=>nomatch z]
 ·rwa[b h]
theorem yg{P:Prop}(h:RG.Internal.opt e f≠.stuck)(k:∀a,e=some a->f a≠.stuck->P):P:=by
 rcases e with _|a; ·rwa[absurd rfl h]
 ·rwa[k a rfl h]
theorem d8{P:Prop}(h:ir b o=some e)(k:b=true->o=some e->P):P:=by
 rcases b with _|_; ·rwa[nn h]
 ·rwa[k rfl h]
theorem d1(k:P .none):∀c,DR F .none c->P c:=by intro c h;cases h;rwa[k]
theorem d4(k:P (.bool b)):∀c,DR F (.bool b) c->P c:=by intro c h;cases h;rwa[k]
theorem DR.eI(k:∀t,P (.int e t)):∀c,DR F (.int e) c->P c:=by intro c h;cases h;rwa[k _]
theorem DR.eS(k:∀t,P (.str (cg e) t)):∀c,DR F (.str e) c->P c:=by intro c h;cases h;rwa[k _]
theorem DR.eB{x:List UInt8}(k:∀t,P (.bytes x.toArray t)):∀c,DR F (.bytes x) c->P c:=by intro c h;cases h;rwa[k _]
theorem DR.eT(k:∀a vs n,F.get? a=some (dA vs n)->c9 F xs vs->P (.ref a)):∀c,DR F (.tuple xs) c->P c:=by intro c h;cases h with|tuple h b=>rwa[k _ _ _ h b]
theorem DR.eL(k:∀a vs n,F.get? a=some (cM vs n)->c9 F xs vs->P (.ref a)):∀c,DR F (.list xs) c->P c:=by intro c h;cases h with|list h b=>rwa[k _ _ _ h b]
theorem DR.eF(h:DR F (.fn e) c):fG e=some c:=by cases h with|fn h=>rwa[h]
theorem OI(e:oJ v=some g)(k:∀t,P (.int g t)):∀c,VR W v c->P c:=by
 intro c h;rcases v with x|n; ·rcases x with _|_|_|_|_|_|_|_|_|_<;>first|rwa[nn e]|(injection e with a;subst a;rwa[DR.eI k _ h])
 ·rwa[nn e]
theorem R6(e:ny v=some g)(k:∀t,P (.str (cg g) t)):∀c,VR W v c->P c:=by
 intro c h;rcases v with x|n; ·rcases x with _|_|_|_|_|_|_|_|_|_<;>first|rwa[nn e]|(injection e with a;subst a;rwa[DR.eS k _ h])
 ·rwa[nn e]
theorem R7(e:Ci v=some i)(k:∀t,P (.bytes i.toArray t)):∀c,VR W v c->P c:=by
 intro c h;rcases v with x|n; ·rcases x with _|_|_|_|_|_|_|_|_|_<;>first|rwa[nn e]|(injection e with a;subst a;rwa[DR.eB k _ h])
 ·rwa[nn e]
theorem Ee(h:VR W v c)(e:OD v=some x):DR W.F x c:=by
 rcases v with y|n; ·injection e with a;subst a;rwa[h]
 ·rwa[nn e]
theorem OJ(e:Hl v=some xs)(k:∀a vs n,W.F.get? a=some (dA vs n)->c9 W.F xs vs->P (.ref a)):∀c,VR W v c->P c:=by
 intro c h;rcases v with x|n; ·rcases x with _|_|_|_|_|_|_|_|_|_<;>first|rwa[nn e]|(injection e with b;subst b;rwa[DR.eT k _ h])
 ·rwa[nn e]
theorem OK(e:Hm v=some xs)(k:∀a vs n,W.F.get? a=some (cM vs n)->c9 W.F xs vs->P (.ref a)):∀c,VR W v c->P c:=by
 intro c h;rcases v with x|n; ·rcases x with _|_|_|_|_|_|_|_|_|_<;>first|rwa[nn e]|(injection e with b;subst b;rwa[DR.eL k _ h])
 ·rwa[nn e]
theorem cN(h:VR W v c)(e:oJ v=some g):∃t,c=.int g t:=OI (P:=λc=>∃t,c=.int g t) e (λt=>⟨t,rfl⟩) c h
theorem bW(h:VR W v c)(e:ny v=some g):∃t,c=.str (cg g) t:=R6 (P:=λc=>∃t,c=.str (cg g) t) e (λt=>⟨t,rfl⟩) c h
theorem fC(h:VR W v c)(e:Ci v=some i):∃t,c=.bytes i.toArray t:=R7 (P:=λc=>∃t,c=.bytes i.toArray t) e (λt=>⟨t,rfl⟩) c h
theorem k7(h:VR W v c)(e:Hl v=some xs):∃a vs n,c=.ref a/\W.F.get? a=some (dA vs n)/\c9 W.F xs vs:=OJ (P:=λc=>∃a vs n,c=.ref a/\W.F.get? a=some (dA vs n)/\c9 W.F xs vs) e (λa vs n h b=>m_33 a vs n rfl h b) c h
theorem nA(h:VR W v c)(e:Hm v=some xs):∃a vs n,c=.ref a/\W.F.get? a=some (cM vs n)/\c9 W.F xs vs:=OK (P:=λc=>∃a vs n,c=.ref a/\W.F.get? a=some (cM vs n)/\c9 W.F xs vs) e (λa vs n h b=>m_33 a vs n rfl h b) c h
theorem c9.co(h:c9 F (x::xs) vs):∃v ws,vs=v::ws/\DR F x v/\c9 F xs ws:=by injections F x xs vs;cases h with|cons h a=>rwa[rF _ _ rfl h a]
theorem c9.ni(h:c9 F [] vs):vs=[]:=by cases h;rfl
theorem CA(I:Inv W σ s.heap)(e:σ[n]?=some g)(hd:g≠.dead)(k:∀p,W.ρ[n]?=some p->CR W.F s.heap p g->P (.ref p.1)):∀c,VR W (.cell n) c->P c:=by intro c h;rwa[x_12 h λp b a=>a▸(k p b (I.cell _ _ p e b hd))]
theorem CR.eL{Q:Prop}(r:CR F h g (.list xs))(k:∀vs n,g.2=g.1->h.get? g.1=some (cM vs n)->c9 F xs vs->Q):Q:=by cases r with|list e h a=>rwa[k _ _ e h a]
theorem bO{P:Prop}(h:gP e g=some r)(a:e=some r->P)(b:g=some r->P):P:=by
 rcases e with _|x; ·rwa[b h]
 ·rwa[a h]
theorem l8{P:Prop}(e:gL σ v=some r)(k:v=.cell r.1->σ[r.1]?=some (.list r.2)->P):P:=by
 rcases v with x|n; ·rwa[nn e]
 ·have e:(match σ[n]? with|some (.list a)=>some (n,a)|_=>none)=some r:=e;erw[Co σ[n]? (λq=>?_) λo q=>?_]; ·rw[q]at e;rwa[nn e]
  ·rw[q]at e;rcases o with a|_|_|_<;>first|rwa[nn e]|skip
   have e:=Vp e;subst e;rwa[k rfl q]
theorem Ef{P:Prop}(e:ji σ v=some r)(k:v=.cell r.1->σ[r.1]?=some (.dict r.2.1 r.2.2)->P):P:=by
 rcases v with x|n; ·rwa[nn e]
 ·have e:(match σ[n]? with|some (.dict b a)=>some (n,b,a)|_=>none)=some r:=e;erw[Co σ[n]? (λq=>?_) λo q=>?_]; ·rw[q]at e;rwa[nn e]
  ·rw[q]at e;rcases o with _|⟨b,a⟩|_|_<;>first|rwa[nn e]|skip
   have e:=Vp e;subst e;rwa[k rfl q]
theorem Eg{P:Prop}(e:sL σ v=some r)(k:v=.cell r.1->σ[r.1]?=some (.inst r.2.1 r.2.2.1 r.2.2.2)->P):P:=by
 rcases v with x|n; ·rwa[nn e]
 ·have e:(match σ[n]? with|some (.inst c a b)=>some (n,c,a,b)|_=>none)=some r:=e;erw[Co σ[n]? (λq=>?_) λo q=>?_]; ·rw[q]at e;rwa[nn e]
  ·rw[q]at e;rcases o with _|_|⟨c,a,b⟩|_<;>first|rwa[nn e]|skip
   have e:=Vp e;subst e;rwa[k rfl q]
theorem Pn(h:VR W v c)(e:UQ v=some r):DR W.F (.dict r.1 r.2) c:=by
 rcases v with x|n; ·rcases x with _|_|_|_|_|_|_|_|_|_<;>first|rwa[nn e]|(rwa[(Vp e)▸h])
 ·rwa[nn e]
theorem Pp(h:VR W v c)(e:UR v=some r):DR W.F (.obj r.1 r.2.1 r.2.2) c:=by
 rcases v with x|n; ·rcases x with _|_|_|_|_|_|_|_|_|_<;>first|rwa[nn e]|(rwa[(Vp e)▸h])
 ·rwa[nn e]
theorem qs{f:V->Option α}{P:Prop}(e:ya f (x::xs)=some ss)(k:∀z r,f (.d x)=some z->ya f xs=some r->ss=z::r->P):P:=ob e λz b e=>om e λr a c=>k z r b a c.symm
theorem R8(e:RQ v=some g)(k:P (.bool g)):∀c,VR W v c->P c:=by
 intro c h;rcases v with x|n; ·rcases x with _|_|_|_|_|_|_|_|_|_<;>first|rwa[nn e]|(injection e with a;subst a;rwa[d4 k _ h])
 ·rwa[nn e]
theorem HE(h:VR W v c)(e:RQ v=some g):c=.bool g:=R8 (P:=λc=>c=.bool g) e rfl c h
end
theorem iw{f:n=e->Option β}{C:Prop}(h:yb e n f=some g)(c:∀q,f q=some g->C):C:=if q:n=e then c q (by rw[yb,dif_pos q]at h;rwa[h])else nn (by rw[yb,dif_neg q]at h;rwa[h])
theorem nB{P:Expr->Prop}(h:vK e=some g)(k:∀p,P (.Name g p)):P e:=iw h λq=>ai9 (motive_1:=λe=>∀q,ai9 e q (λg Y=>some g)=some g->P e) e q (λy p Y h=>Vp h▸k p) q
theorem yh{P:Expr->Prop}(h:wY e=some ts)(k:∀j p,P (.Tuple ts j p)):P e:=iw h λq=>J1 (motive_1:=λe=>∀q,J1 e q (λx Y Y=>some x)=some ts->P e) e q (λy j p Y h=>Vp h▸k j p) q
theorem CB{P:Expr->Prop}(h:yc e=some r)(k:∀p,P (.Call r.1 r.2.1 r.2.2 p)):P e:=iw h λq=>ad8 (motive_1:=λe=>∀q,ad8 e q (λf a b Y=>some (f,a,b))=some r->P e) e q (λf a b p Y h=>by rw[<-Vp h]at k;rwa[k p]) q
theorem Pq{P:Expr->Prop}(h:R1 e=some g)(k:∀j p,P (.Constant (.str g) j p)):P e:=iw h λq=>ag5 (motive_1:=λe=>∀q,ag5 e q (λc Y Y=>OE c)=some g->P e) e q (λc j p Y h=>iw h λq=>aj1 (motive:=λc=>∀q,aj1 c q some=some g->P (.Constant c j p)) c q (λs Y h=>Vp h▸k j p) q) q
theorem L9{P:Stmt->Prop}(h:OF g=some r)(k:∀p,P (.Assign r.1 r.2 p)):P g:=iw h λq=>v6 (motive_2:=λg=>∀q,v6 g q (λa e Y=>some (a,e))=some r->P g) g q (λa e p Y h=>by rw[<-Vp h]at k;rwa[k p]) q
theorem Pr{P:Expr->Prop}(h:Hy e=some r)(k:P (.Attribute r.1 r.2.1 r.2.2)):P e:=iw h λq=>wy (motive_1:=λe=>∀q,wy e q (λo m p=>some (o,m,p))=some r->P e) e q (λo m p Y h=>by rw[<-Vp h]at k;rwa[k]) q
theorem Pt{P:Expr->Prop}(h:L8 e=some r)(k:∀p,P (.Slice r.1 r.2 none p)):P e:=iw h λq=>KO (motive_1:=λe=>∀q,KO e q (λb c st Y=>ir (Cp st) (some (b,c)))=some r->P e) e q (λb c st p Y h=>d8 h λa d=>by rw[<-Vp d]at k;clear h;cases st with|none=>rwa[k p]|some _=>rwa[ff a]) q
theorem CC(e:kI l=some g):l=[g]:=by rcases l with _|⟨v,_|⟨u,r⟩⟩<;>first|rwa[nn e]|rwa[VT (λg=>[g]) (Vp e)]
theorem oR(e:gp l=true):l=[]:=by rcases l with _|⟨v,r⟩<;>first|rfl|rwa[ff e]
theorem HF(e:Cp o=true):o=none:=by rcases o with _|v<;>first|rfl|rwa[ff e]
theorem HG{P:List Stmt->Prop}(h:Hr g=some r)(k:∀p a,P [.Assign [.Name r.1 p] r.2 a]):P g:=ob h λs d h=>ob h λq c h=>ob h λt f h=>om h λx e h=>by rw[<-h]at k;simp +autoUnfold [CC d];rwa[L9 c (P:=λs=>P [s]) λa=>(CC f)▸nB e (P:=λt=>P [.Assign [t] q.2 a]) λp=>k p a]
theorem HH(h:ng b m σ=res)(a:res≠.stuck):b=true/\m σ=res:=by
 rcases b with _|_; ·rwa[absurd h.symm a]
 ·rwa[⟨rfl,h⟩]
theorem R9(h:gd b m=res)(a:res≠.stuck):b=true/\m=res:=by
 rcases b with _|_; ·rwa[absurd h.symm a]
 ·rwa[⟨rfl,h⟩]
theorem HI{f:β->M α}(h:optM e f σ=res)(b:res≠.stuck):∃a,e=some a/\f a σ=res:=by
 rcases e with _|a; ·rwa[absurd h.symm b]
 ·rwa[m_12 a rfl h]
theorem OL{f:β->Res α}(h:opt e f=res)(b:res≠.stuck):∃a,e=some a/\f a=res:=by
 rcases e with _|a; ·rwa[absurd h.symm b]
 ·rwa[m_12 a rfl h]
section
variable{o:aX}{p:Addr×Addr}
theorem Inv.K(I:Inv W σ h):kG.In h:=λa o e=>I.stays a o (I.known a o e)
theorem cF(d:σ[n]?=some o)(b:o≠.dead)(e:W.ρ[n]?=some p)(c:a=p.1\/a=p.2):live σ W.ρ a:=gO n o p d b e c
theorem zV(f:σ[n]?=some o)(h:o≠.dead)(l:live (σ.set n o') W.ρ a):live σ W.ρ a:=by
 erw[x_34 l λm x q b g d c=>?_];by_cases e:n=m; ·subst e;rwa[gO n o q f h d c]
 ·rw[WJ e]at b;rwa[gO m x q b g d c]
theorem Inv.mutate(I:Inv W σ h)(f:σ[n]?=some o)(t:o≠.dead)(z:W.ρ[n]?=some p)(k:∀b x,b≠p.1->b≠p.2->h.get? b=some x->h'.get? b=some x)(Z:∀b,b=p.1\/b=p.2->∃o',h'.get? b=some o')(c:W.F.StaysIn (grown W h h').F->CR (grown W h h').F h' p o'):Inv (grown W h h') (σ.set n o') h'/\Step W σ h (grown W h h') (σ.set n o') h' X:=by
 injections X n o p o' _ h h' σ W;have C:∀a x,W.F.get? a=some x->a≠p.1/\a≠p.2:=λa x e=>by
  constructor<;>rintro rfl; ·replace e:=Vn (am (I.off _ (cF f t z (.inl rfl)))) e;rwa[k_nn e]
  ·replace e:=(I.off _ (cF f t z (.inr rfl)))▸e;rwa[k_nn e]
 have g:W.F.StaysIn (grown W h h').F:=λa x e=>fz (.inl ⟨x,e⟩) (k a x (C a x e).1 (C a x e).2 (I.stays a x e));erw[⟨⟨λa x e=>g a x (I.known a x e),λa x e=>g a x (I.based a x e),λa x e=>(da e).2,by simp![WN];rwa[I.len],λm x q d w D=>?_,λa l=>fe ?_,λi j q r x y F d w D P S N=>?_⟩,⟨g,⟨[],by simp[grown]⟩,λa x e=>?_,λa l=>.inl (zV f t l),λb x e M Y=>?_,λb x e=>?_⟩⟩]
 ·by_cases A:n=m
  ·subst A;replace d:=Vn (am (List.getElem?_set_self (V2.mp f).1)) d;injection d with H;erw[H▸?_];have:q=p:=by have:=w.symm.trans z;rwa[Vp this]
   rwa[(this)▸c g]
  ·replace d:=(WJ A)▸d;have s:=I.apart m n q p x o (hg A) d f D t w z;have:=I.cell m x q d w D;cases this with|list e G hd=>rwa[.list e (k _ _ s.1 s.2.1 G) (hd.mono g)]|dict e G E V=>rwa[fi G λod es O Q r=>.dict e (m_32 od es O (k _ _ s.1 s.2.1 Q) r) E (V.mono g)]|inst c' J K hd=>rwa[.inst c' (k _ _ s.1 s.2.1 J) (k _ _ s.2.2.1 s.2.2.2 K) (hd.mono g)]
 ·have L:=zV f t l;rintro(⟨x,e⟩|q); ·replace e:=Vn (am (I.off a L)) e;rwa[k_nn e]
  ·obtain⟨y,e⟩:=I.lt L;replace q:=Vn (am e) q;rwa[k_sn q]
 ·have back:∀(m:Nat)(x:aX),(σ.set n o')[m]?=some x->x≠.dead->∃y,σ[m]?=some y/\y≠.dead:=λm x e R=>by
   by_cases A:n=m; ·rwa[A▸(m_12 o f t)]
   ·rw[WJ A]at e;rwa[m_12 x e R]
  rwa[x_12 (back i x d D) λT E V=>x_12 (back j y w P) λU u v=>I.apart i j q r T U F E u V v S N]
 ·rcases da e with⟨⟨B,d⟩|q,w⟩; ·have:=g a B d;replace this:=Vn (am e) this;injection this with H;subst H;rwa[.inl d]
  ·rwa[.inr (.inr q)]
 ·have u:b≠p.1:=λq=>M (cF f t z (.inl q));have v:b≠p.2:=λq=>M (cF f t z (.inr q));rwa[k b x u v e▸Kept.refl x]
 ·by_cases u:b=p.1; ·rwa[Z b (.inl u)]
  ·by_cases v:b=p.2; ·rwa[Z b (.inr v)]
   ·rwa[⟨x,k b x u v e⟩]
noncomputable def frozen(W:St)(h:Heap)(p:Addr×Addr):St:=⟨only h λa=>(∃o,W.F.get? a=some o)\/a=p.1\/a=p.2,W.ρ⟩
theorem Inv.freeze(I:Inv W σ h)(E:σ[n]?=some o)(D:o≠.dead)(F:W.ρ[n]?=some p):W.F.StaysIn (frozen W h p).F/\(∀a x,a=p.1\/a=p.2->h.get? a=some x->(frozen W h p).F.get? a=some x)/\Inv (frozen W h p) (σ.set n .dead) h/\Step W σ h (frozen W h p) (σ.set n .dead) h X:=by
 injections X h n σ W o p;have g:W.F.StaysIn (frozen W h p).F:=λa x e=>fz (.inl ⟨x,e⟩) (I.stays a x e);have f:∀m(x:aX),(σ.set n .dead)[m]?=some x->x≠.dead->n≠m/\σ[m]?=some x:=λm x e K=>by
  by_cases t:n=m
  ·subst t;replace e:=Vn (am WS) e;simp![Zq]at e;split at e; ·injection e with A;subst A;rwa[absurd rfl K]
   ·rwa[k_nn e]
  ·rw[WJ t]at e;rwa[⟨t,e⟩]
 erw[kS g (λa x H e=>fz (.inr H) e) ⟨λa x e=>g a x (I.known a x e),λa x e=>g a x (I.based a x e),λa x e=>(da e).2,by simp![WN];rwa[I.len],λm x q c d k=>?_,λa l=>fe ?_,λi j q r x y w c d k u L J=>?_⟩ ⟨g,⟨[],by simp[frozen]⟩,λa x e=>?_,λa l=>.inl (bP l),λb x e M Y=>e▸Kept.refl x,λb x e=>⟨x,e⟩⟩]; ·have:=I.cell m x q (f m x c k).2 d k;cases this with|list e z hd=>rwa[.list e z (hd.mono g)]|dict e z G N=>rwa[.dict e z G (N.mono g)]|inst O B C hd=>rwa[.inst O B C (hd.mono g)]
 ·rintro(⟨x,e⟩|q); ·replace e:=Vn (am (I.off a (bP l))) e;rwa[k_nn e]
  ·erw[x_34 l λm x r c d k u=>?_];obtain⟨t,c⟩:=f m x c d;have v:=I.apart m n r p x o (hg t) c E d D k F;clear l;rcases u with rfl|rfl<;>rcases q with q|q; ·rwa[v.1 q]
   ·rwa[v.2.1 q]
   ·rwa[v.2.2.1 q]
   ·rwa[v.2.2.2 q]
 ·obtain⟨_,c⟩:=f i x c k;obtain⟨_,d⟩:=f j y d u;rwa[I.apart i j q r x y w c d k u L J]
 ·rcases da e with⟨⟨s,c⟩|q,d⟩; ·have:=g a s c;replace this:=Vn (am e) this;injection this with A;subst A;rwa[.inl c]
  ·rwa[.inr (.inl (cF E D F q))]
noncomputable def made(W:St)(h h':Heap)(p:Addr×Addr):St:=⟨only h' λa=>(∃o,W.F.get? a=some o)\/h.get? a=none/\a≠p.1/\a≠p.2,W.ρ++[p]⟩
theorem Inv.make (I:Inv W σ h) (k:∀b x,h.get? b=some x->h'.get? b=some x) (n:h.get? p.1=none) (f:h.get? p.2=none) (Q:o≠.dead)
    (c:W.F.StaysIn (made W h h' p).F->CR (made W h h' p).F h' p o):Inv (made W h h' p) (σ++[o]) h'/\Step W σ h (made W h h' p) (σ++[o]) h' X:=by
  injections X h h' σ W o p;have B:W.F.StaysIn (made W h h' p).F:=λa x e=>fz (.inl ⟨x,e⟩) (k a x (I.stays a x e))
  have v:∀m (x:aX) (q:Addr×Addr),(σ++[o])[m]?=some x->(W.ρ++[p])[m]?=some q->(σ[m]?=some x/\W.ρ[m]?=some q)\/(m=σ.length/\x=o/\q=p):=λm x q e C=>by
    by_cases F:m < σ.length
    · replace e:=Vn (am (VS F)) e
      rw [VS (by exact (I.len)▸F)] at C
      exact .inl ⟨e,C⟩
    · rw [VU (by exact a_1 (WP F))] at e
      rw [VU (by refine (I.len)▸?_;exact a_1 (WP F))] at C
      have:m - σ.length=0:=by
        cases hd:m - σ.length with
        |zero=>rfl
        |succ i=>rw [hd] at e;trivial
      rw [this] at e
      rw [I.len,this] at C
      simp at e C
      exact .inr (m_03 (by grind) e.symm C.symm)
  have K:∀{m:Nat} {x:aX} {q:Addr×Addr},σ[m]?=some x->x≠.dead->W.ρ[m]?=some q->(∀a,h.get? a=none->q.1≠a)/\(∀a,h.get? a=none->q.2≠a):=λg s u=>
    have d:∀{b:Addr},live σ W.ρ b->∀a,h.get? a=none->b≠a:=λl a L z=>by
      obtain ⟨y,e⟩:=I.lt l
      rw [z,L] at e
      exact k_nn e
    ⟨d (cF g s u (.inl rfl)),d (cF g s u (.inr rfl))⟩
  refine ⟨⟨λa x e=>B a x (I.known a x e),λa x e=>B a x (I.based a x e),λa x e=>(da e).2,by simp [made,I.len],λm x q g s u=>?_,λa l=>fe ?_,λi j q r x y E g s u w O N=>?_⟩,⟨B,⟨[p],rfl⟩,λa x e=>?_,λa l=>?_,λb x e R Y=>k b x e▸Kept.refl x,λb x e=>⟨x,k b x e⟩⟩⟩
  · rcases v m x q g s with ⟨A,S⟩|⟨_,rfl,rfl⟩
    · have:=I.cell m x q A S u
      cases this with
      |list e T hd=>exact .list e (k _ _ T) (hd.mono B)
      |dict e T G H=>exact .dict e (gq T k) G (H.mono B)
      |inst c' U V hd=>exact .inst c' (k _ _ U) (k _ _ V) (hd.mono B)
    · exact c B
  · obtain ⟨m,x,q,g,s,u,w⟩:=l
    rcases v m x q g u with ⟨A,S⟩|⟨_,rfl,rfl⟩
    · have t:=K A s S
      rintro (⟨y,e⟩|r)
      · replace e:=(I.off a (gO m x q A s S w))▸e;exact k_nn e
      · rcases w with rfl|rfl
        · exact t.1 _ r.1 rfl
        · exact t.2 _ r.1 rfl
    · rintro (⟨y,e⟩|r)
      · have:=I.stays _ _ e
        rcases w with rfl|rfl
        · replace this:=(n)▸this;exact k_nn this
        · replace this:=Vn (am (f)) this;exact k_nn this
      · rcases w with rfl|rfl
        · exact r.2.1 rfl
        · exact r.2.2 rfl
  · refine ba λJ=>?_
    clear c;rcases v i x q g O with ⟨A,S⟩|⟨Z,rfl,rfl⟩<;>rcases v j y r s N with ⟨G,H⟩|⟨M,rfl,rfl⟩
    · refine J ?_
      exact I.apart i j q r x y E A G u w S H
    · refine J ?_
      have t:=K A u S
      exact ⟨t.1 _ n,t.1 _ f,t.2 _ n,t.2 _ f⟩
    · refine J ?_
      have t:=K G w H
      exact ⟨(t.1 _ n).symm,(t.2 _ n).symm,(t.1 _ f).symm,(t.2 _ f).symm⟩
    · exact absurd (Z.trans M.symm) E
  · rcases da e with ⟨⟨D,g⟩|q,s⟩
    · have:=B a D g
      replace this:=Vn (am (e)) this;injection this with P;refine P▸?_
      exact .inl g
    · exact .inr (.inr q.1)
  · obtain ⟨m,x,q,g,s,u,w⟩:=l
    rcases v m x q g u with ⟨A,S⟩|⟨_,rfl,rfl⟩
    · exact .inl (gO m x q A s S w)
    · rcases w with rfl|rfl
      · exact .inr n
      · exact .inr f
end
section
theorem eh(st:Step W σ s.heap W' σ' s.heap X)(h:Ref A L X W' σ' s t m R):Ref A L X W σ s t m R:=λa Q E q e=>h.after st (Rest.refl s) a q e
theorem Pu(e:opt g f=.ok j σ')(k:∀a,g=some a->f a=.ok j σ'->P):P:=by
 rcases g with _|a; ·rwa[nomatch e]
 ·rwa[k a rfl e]
theorem yi(I:Inv W σ s.heap)(hv:VR W v c)(e:frz v σ=.ok D σ'):∃W',Inv W' σ' s.heap/\Step W σ s.heap W' σ' s.heap X/\DR W'.F D c:=by
 injections v _ X s c σ σ' W D;rcases v with x|n; ·injection e with g b;rw[<-g,<-b];rwa[ia W I (Step.refl ..) hv]
 ·erw[Pu e λC a J=>ob a λo q a=>?_];injection J with g b;rw[<-g,<-b];erw[ba λf=>x_12 hv λp u l=>?_];clear hv;subst l;have m:o≠.dead:=λz=>by rw[z]at a;rwa[nn a]
  erw[rG (I.freeze (X:=X) q m u) λY i B h=>f (ia _ B h ?_)];have t:=I.cell _ _ p q u m;rcases o with N|⟨P,d⟩|⟨c,O,d⟩|_; ·rwa[(Vp a)▸t.eL λd n Y j F=>.list (i _ _ (.inl rfl) j) (F.mono h.F)]
  ·erw[(am (Vp a))▸(ba λf=>?_)];cases t with|dict e j w G=>rwa[f (gJ G.map λL E M K=>ba λf=>fi j.mapOf λo H y A r=>f (.dict (m_32 o H y (i _ _ (.inl rfl) A) r) w E M λk D e=>(K k D e).mono h.F))]
  ·rw[<-Vp a];cases t with|inst c g b hd=>rwa[.obj c (i _ _ (.inl rfl) g) (i _ _ (.inr rfl) b) (hd.mono h.F)]
  ·rwa[absurd rfl m]
theorem qv:frz v σ≠.exc g σ':=by
 intro e;rcases v with x|n; ·rwa[nomatch e]
 ·have e:opt ((σ[n]?).bind Hk) (λd=>Res.ok d (σ.set n .dead))=.exc g σ':=e;cases q:(σ[n]?).bind Hk with|none=>rw[q]at e;rwa[nomatch e]|some d=>rw[q]at e;rwa[nomatch e]
theorem Ref.frz{f:Dat->M β}(I:Inv W σ s.heap)(hv:VR W v c)(h:∀d σ' W',Inv W' σ' s.heap->Step W σ s.heap W' σ' s.heap X->DR W'.F d c->Ref A L X W' σ' s t (f d σ') R):Ref A L X W σ s t (aa (frz v) f σ) R:=by delta aa;cases e:RG.Internal.frz v σ with|ok d σ'=>rwa[ba λg=>gJ (yi (X:=X) I hv e) λW' b a i=>g (eh a (h d σ' W' b a i))]|exc c σ'=>rwa[absurd e qv]|stuck=>rwa[b7]
theorem Ref.newList   (I:Inv W σ s.heap) (hd:c9 W.F xs vs)
    (h:∀(Q:a8) (E:a8),(∀tk,Q (.ref s.heap.objs.size) {s with heap:=s.heap.push (cM vs 0),toks:=tk })->ed MG A g Q E s) :
    Ref A L X W σ s g (aM (.list xs) σ) λW' Y v c Y=>VR W' v c:=λY Q E q Y=>h Q E λtk=>by
  obtain ⟨f,a⟩:=I.make (h':=s.heap.push (cM vs 0)) (p:=(s.heap.objs.size,s.heap.objs.size)) (o:=.list xs) (X:=X) (λb x e=>Vr _ e) (bb _) (bb _) (λh=>by cases h)
    λd=>.list rfl (VH _ rfl) (hd.mono d)
  refine q _ (.cell σ.length) _ _ {s with heap:=s.heap.push (cM vs 0),toks:=tk } rfl f a ⟨rfl,rfl,rfl⟩ (m_12 ((s.heap.objs.size,s.heap.objs.size)) ?_ rfl)
  show (W.ρ++[_])[σ.length]?=_
  rw [<-I.len];simp
end
end
section
variable{α β:Type}{a l z:Addr}{X:Addr->Prop}{A:kx}{b:Array UInt8}{items:Array ea}{x d:Dat}{F h h' F0 h₀:Heap}{ss ks:List (List Nat)}{r:List (List Nat)×List Dat}{kvs:List (Str×ea)}{xs ys:List Dat}{es:List Ht}{k:List Nat}{p:List Nat×Dat}{val:List Nat->ea}{ns:List Str}{ws:List ea}{mt:oL}{i n j:Nat}{o:Obj}{s:eN}{W:St}{R:St->ae->β->a9 α}{σ:ae}{y:Str}{user:Str->List V->M V}{f:Str->Option ea}{meths:Str->Str->Option Str}{u:Tok}{v:V}{c e:ea}{P Q E:a8}{q:α×α×α}
noncomputable abbrev RD:St->ae->Dat->a8:=λW Y d v Y=>DR W.F d v
abbrev RV:St->ae->V->a8:=λW Y d v Y=>VR W d v
theorem k8{i:Int}(h:short i=true):i.natAbs<2^64:=Vu h
theorem Sa:SL=16777216:=by rfl
theorem oS:SL=af0:=by rfl
section
theorem dd(I:Inv W σ s.heap)(h:∀(Q:a8)(E:a8),(∀u tk,Q (.int g u) {s with toks:=tk})->ed MG A t Q E s):Ref A L X W σ s t (.ok (.int g) σ) RD:=b8 I λQ E q=>h Q E λu tk=>q _ tk .int
theorem oU(I:Inv W σ s.heap)(h:∀(Q:a8)(E:a8),(∀u tk,Q (.str (cg g) u) {s with toks:=tk})->ed MG A t Q E s):Ref A L X W σ s t (.ok (.str g) σ) RD:=b8 I λQ E q=>h Q E λu tk=>q _ tk .str
theorem l9{x:List UInt8}(I:Inv W σ s.heap)(h:∀(Q:a8)(E:a8),(∀u tk,Q (.bytes x.toArray u) {s with toks:=tk})->ed MG A t Q E s):Ref A L X W σ s t (.ok (.bytes x) σ) RD:=b8 I λQ E q=>h Q E λu tk=>q _ tk .bytes
theorem HJ(I:Inv W σ s.heap):Ref A L X W σ s (al9 op (.int g t) (.int m u)) (lift ((binI op g m).map .int) σ) RD:=by
 injections X A W σ u L op _ s g t m;delta binI;obtain⟨⟩:=op<;>dsimp only<;>try rwa[b7]
 ·rwa[dd I λQ E q=>PyProof.Rows.add_int (q _ _)]
 ·rwa[dd I λQ E q=>PyProof.Rows.sub_int (q _ _)]
 ·cases h:short g||short m with
  |false=>rwa[b7]
  |true=>
   erw[dd I λQ E q=>PyProof.Rows.mul_int (q _ _) ?_];rcases ab7.mp h with h|h; ·rwa[.of_left (intBits_le (k8 h))]
   ·rwa[.of_right (intBits_le (k8 h))]
 ·cases h:decide (m=0)with|true=>rwa[b7]|false=>rwa[dd I λQ E q=>PyProof.Rows.mod_int' (WX h) (q _ _)]
 ·cases h:short g&&decide (0<=m)&&decide (m<=1000000)with|false=>rwa[b7]|true=>simp![Vq,Vx]at h;rwa[dd I λQ E q=>PyProof.Rows.pow_int_small h.1.2 h.2 (k8 h.1.1) (q _ _)]
 ·cases h:short g&&decide (0<=m)&&decide (m<=1000000)with|false=>rwa[b7]|true=>simp![Vq,Vx]at h;rwa[dd I λQ E q=>PyProof.Rows.lshift_int_small h.1.2 h.2 (k8 h.1.1) (q _ _)]
 ·cases h:decide (0<=m)with|false=>rwa[b7]|true=>rwa[dd I λQ E q=>PyProof.Rows.rshift_int (VF h) (q _ _)]
 ·rwa[dd I λQ E q=>PyProof.Rows.or_int (q _ _)]
 ·rwa[dd I λQ E q=>PyProof.Rows.and_int (q _ _)]
 ·cases h:decide (m=0)||! nf m.natAbs (2^100)with
  |true=>rwa[b7]
  |false=>
   rw[Yg]at h;have c:m.natAbs<2^100:=by have:=h.2;rw[Bool.not_eq_false']at this;rwa[Vu this]
   have d:=WX h.1;erw[dd I λQ E q=>PyProof.Rows.floordiv_int d (q _ _) (.inl (ZL ?_))];have:m.natAbs.log2<100:=(af6 (by omega)).mpr c;rwa[a_1 this]
theorem jG(a:o.isFreed=false)(I:Inv W σ s.heap)(hd:∀c,W.F.StaysIn c->c.get? s.heap.objs.size=some o->DR c d (.ref s.heap.objs.size))(h:∀(Q:a8)(E:a8),(∀tk,Q (.ref s.heap.objs.size) {s with heap:=s.heap.push o,toks:=tk})->ed MG A t Q E s):Ref A L X W σ s t (.ok d σ) RD:=cI I λQ E q=>h Q E λtk=>q _ _ tk (λb f e=>Vr _ e) (hd _ (I.grow λb f e=>Vr _ e).1 (gQ (bb _) (VH _ a)))
theorem zW{P:ea->Prop}(I:Inv W σ s.heap)(e:listOf σ v=some xs)(k:∀a vs n,s.heap.get? a=some (cM vs n)->c9 W.F xs vs->P (.ref a)):∀c,VR W v c->P c:=bO e (λe=>OK e λa vs n h d=>k a vs n (I.stays _ _ h) d) λe=>om e λr e b=>l8 e λev q c h=>by rw[ev]at h;rw[<-b]at k;rwa[CA I q (λz=>nomatch z) (λp Y r=>r.eL λvs n Y h d=>k p.1 vs n h d) c h]
theorem di(I:Inv W σ s.heap)(h:VR W v c)(e:listOf σ v=some xs):∃a vs n,c=.ref a/\s.heap.get? a=some (cM vs n)/\c9 W.F xs vs:=zW (P:=λc=>∃a vs n,c=.ref a/\s.heap.get? a=some (cM vs n)/\c9 W.F xs vs) I e (λa vs n h b=>m_33 a vs n rfl h b) c h
theorem Ma{P:ea->Prop}(I:Inv W σ s.heap)(e:m9 σ v=some xs)(k:∀a vs n,s.heap.get? a=some (cM vs n)\/s.heap.get? a=some (dA vs n)->c9 W.F xs vs->P (.ref a)):∀c,VR W v c->P c:=bO e (λe=>OJ e λa vs n h b=>k a vs n (.inr (I.stays _ _ h)) b) λe=>zW I e λa vs n h b=>k a vs n (.inl h) b
theorem k9(I:Inv W σ s.heap)(h:VR W v c)(e:m9 σ v=some xs):∃a vs n,c=.ref a/\(s.heap.get? a=some (cM vs n)\/s.heap.get? a=some (dA vs n))/\c9 W.F xs vs:=Ma (P:=λc=>∃a vs n,c=.ref a/\(s.heap.get? a=some (cM vs n)\/s.heap.get? a=some (dA vs n))/\c9 W.F xs vs) I e (λa vs n h b=>m_33 a vs n rfl h b) c h
theorem eD(h:within n g=some m):n<=16777216/\g=m:=by delta within at h;cases q:er n SL with|true=>rw[q]at h;rwa[⟨Vu q,Vp h⟩]|false=>rw[q]at h;rwa[nn h]
theorem ei(h:n<=16777216->Ref A L X W σ s t (.ok g σ) R):Ref A L X W σ s t (RG.Internal.lift (within n g) σ) R:=Ref.lift λa e=>(eD e).2▸h (eD e).1
theorem sQ(h:D6 op=true):op=.Add:=by obtain⟨⟩:=op<;>first|rfl|rwa[ff h]
theorem zX(h:Hn op=true):op=.Mult:=by obtain⟨⟩:=op<;>first|rfl|rwa[ff h]
theorem HK(h:few g=true):0<=g/\g<=1000000:=by delta few at h;simp![Vq]at h;simp![Vx,Vx]at h;rwa[h]
theorem sR{b:List ea}(e:s.heap.get? a=some (cM b n))(d:s.heap.get? g=some (cM ws m))(c:b.length+ws.length<=16777216)(h:Q (.ref s.heap.objs.size) {s with heap:=s.heap.push (cM (b++ws) 0)}):ed MG A (al9 .Add (.ref a) (.ref g)) Q E s:=by erw[concat_meets (m_12 _ e rfl) (m_12 _ d rfl) noFill_list_add seq_list_add PySem.F.slot_list_add PySem.F.entry_list_add (PySem.F.args_list_add_2 _ _) (list_addW a g b.toArray ws.toArray n m none none #[] #[] (c)) (m_03 e d ?_)];rw[Zo];rwa[h]
theorem foldl_append(n:Nat)(b:List ea):∀acc:Array ea,ag7 (λd c=>d++c) acc (ew n b.toArray)=acc++(ew n b).flatten.toArray:=by induction n with|zero=>intro acc;trivial|succ n a=>intro acc;simp![Yt,hM,a,Yt,Xj];simp
theorem Fj{f:List ea}{x:Int}(b:s.heap.get? a=some (cM f n))(e:0<=x)(d:x<2^63)(c:f.length*x.toNat<=16777216)(h:Q (.ref s.heap.objs.size) {s with heap:=s.heap.push (cM (ew x.toNat f).flatten 0)}):ed MG A (al9 .Mult (.ref a) (.int x u)) Q E s:=wpAny_binaryOp_repeat_ref (T:="list") (U:="int") (by rfl) ⟨_,b,rfl⟩ (λi=>ac7 i x u) noFill_list_mul F.fills_int_mul F.slot_int_rmul repeat_list F.slot_int_index.lookup (Xx F.slot_int_rmul (ac7 s x u) F.entry_int_rmul (F.args_int_rmul_2 _ _) (int___rmul___int_list x u a f.toArray n) (kS b rfl ⟨_,b,rfl⟩ (Xx F.slot_list_mul (m_12 _ b rfl) F.entry_list_mul (F.args_list_mul_2 _ _) (AutoListH.list___mul___list_int_3 a f.toArray n x u (by dsimp![Builtin.List.listFitsIndex];lia) (by simp;rwa[a_1 c]) (by simp[Builtin.List.listTooLong,af0];omega)) ⟨b,((by rw[foldl_append];clear b;clear c;cases f with|nil=>simp|cons v f=>simp:ag7 (λj g=>j++g) #[] (ew (if f.toArray.isEmpty=true then 0 else x.toNat) f.toArray)=(ew x.toNat f).flatten.toArray))▸h⟩)))
theorem nC(a b:List Nat):cg a++cg b=cg (a++b):=by show Str.append _ _=_;delta Str.append cg;simp
theorem jr(a:List Nat):(cg a).length=a.length:=by rfl
theorem Fk(n:Nat)(b:List Nat):∀acc:Array Nat,ag7 (λd c=>d++c) acc (ew n b.toArray)=acc++(ew n b).flatten.toArray:=by induction n with|zero=>intro acc;trivial|succ n a=>intro acc;simp![Yt,hM,a,Yt,Xj];simp
theorem HL(a:List Nat){k:Int}(h:0<=k):Txt.mul (cg a) k=cg (ew k.toNat a).flatten:=by
 by_cases b:k<1
 ·have:k=0:=ar1 (xZ b) (xZ h)
  erw[this▸?_];rfl
 ·erw[Vn (WO b) ?_];by_cases c:(k==1||(cg a).length==0)=true
  ·rw[WG c];rcases ab7.mp c with h|h
   ·have:k=1:=by simpa using h
    erw[(this)▸?_];simp[cg]
   ·rw[jr]at h;have:a=[]:=by simpa using h
    erw[this▸?_];simp[cg]
  ·rw[WO c];delta cg;simp![Fk];simp
theorem Pv{x:List Nat}{k:Int}(b:0<=k/\k<=1000000)(a:x.length*k.toNat<=16777216):MulOk (cg x) k:=by
 erw[m_03 ?_ (λf d c=>?_) λf d=>?_]; ·rw[Yg];rwa[⟨VO (by omega),VO (by omega)⟩]
 ·rw[jr]at c;have e:(x.length:Int)<=(2^63-1:Int)/k:=(Int.le_ediv_iff_mul_le (xZ (Zt.mp f))).mpr (Int.le_trans (by have:=YI.mpr a;simp![Int.natCast_mul,XJ b.1]at this;rwa[this]) #v[]);lia
 ·rwa[VO (ZO a)]
theorem Fl(I:Inv W σ s.heap)(hv:VR W v c)(p:VR W D e):Ref A L X W σ s (al9 op c e) (af op v D σ) RD:=by
 injections X A s W σ v c e D L op;erw[db ?_ (db ?_ (db ?_ (db ?_ (db ?_ ?_))))]; ·erw[dy λa d=>dy λb j=>?_];obtain⟨_,rfl⟩:=cN hv d;obtain⟨_,rfl⟩:=cN p j;rwa[HJ I]
 ·erw[Ref.grd λg=>sQ g▸dy λa d=>dy λb j=>ei λf=>?_];obtain⟨_,rfl⟩:=bW hv d;obtain⟨_,rfl⟩:=bW p j;erw[oU I λQ E q=>PyProof.Rows.add_str (λG H=>?_) (f)];rw[nC];rwa[q _ _]
 ·erw[Ref.grd λg=>sQ g▸dy λa d=>dy λb j=>ei λf=>?_];obtain⟨_,rfl⟩:=fC hv d;obtain⟨_,rfl⟩:=fC p j;erw[l9 I λQ E q=>KBy.add_bytes f λG H=>?_];rw[Zo];rwa[q _ _]
 ·erw[Ref.grd λg=>sQ g▸dy λa d=>dy λb j=>ei λf=>bw (di I hv d) λl u n t B x=>?_];subst t;obtain⟨C,K,m,rfl,z,y⟩:=di I p j;rwa[jG (o:=cM (u++K) 0) rfl I (λJ r e=>.list e ((x.mono r).append (y.mono r))) λQ E q=>sR B z (by rw[x.length,y.length];rwa[f]) (q _)]
 ·erw[Ref.grd λg=>zX g▸dy λa d=>dy λk w=>Ref.grd λi=>ei λf=>?_];have i:=HK i;obtain⟨_,rfl⟩:=bW hv d;obtain⟨_,rfl⟩:=cN p w;erw[oU I λQ E q=>SB.mul (Pv i f) λG H=>?_];rw[HL a i.1];rwa[q _ _]
 ·erw[Ref.grd λg=>zX g▸dy λa d=>dy λk w=>Ref.grd λi=>ei λf=>?_];have i:=HK i;obtain⟨l,u,n,rfl,h,F⟩:=nA hv d;obtain⟨_,rfl⟩:=cN p w;rwa[jG (o:=cM (ew k.toNat u).flatten 0) rfl I (λJ r e=>.list e ((F.mono r).flatRep _)) λQ E q=>Fj (I.stays _ _ h) i.1 (Int.lt_of_le_of_lt i.2 #v[]) (by rw[F.length];rwa[f]) (q _)]
end
section
open PySem.SeqAt
theorem c9.mem{xs vs}(h:c9 F xs vs)(e:vs[i]?=some g):∃x,xs[i]?=some x/\DR F x g:=by injections i xs vs _ F g;induction xs generalizing vs i with|nil=>cases h;rwa[k_nn e]|cons y xs a=>cases h with|cons h b=>cases i with|zero=>obtain rfl:=Vp e;rwa[m_12 _ rfl h]|succ i=>rwa[a b e]
theorem sS{f:Dat->Dat->Option Bool}:∀{xs ys:List Dat}{b:Bool},jj f xs ys=some b->∃e:Nat->Bool,(∀i x y,xs[i]?=some x->ys[i]?=some y->f x y=some (e i))/\b=((eg (min xs.length ys.length)).all e&&xs.length==ys.length):=by
 injections _ f;intro p;induction p with
 |nil=>intro g;cases g with|nil=>intro b h;rwa[m_12 (λY=>true) (λi x y e=>nn e) (Vp h).symm]|cons y ys=>intro b h;rwa[m_12 (λY=>true) (λi x y e=>nn e) (Vp h).symm]
 |cons x xs o=>
  intro j;cases j with
  |nil=>intro b h;rwa[m_12 (λY=>true) (λi x y Y e=>nn e) (Vp h).symm]
  |cons y ys=>
   intro b h;have h:(match f x y,jj f xs ys with|some x,some y=>some (x&&y)|_,_=>none)=some b:=h;cases d:f x y with
   |none=>rw[d]at h;rwa[nn h]
   |some a=>
    cases q:jj f xs ys with
    |none=>rw[d,q]at h;rwa[nn h]
    |some c=>
     rw[d,q]at h;erw[x_12 (o q) λe n m=>m_12 (λi=>match i with|0=>a|i+1=>e i) (λi u v l k=>?_) ?_]
     ·rcases i with _|i; ·simp![<-Vp l,<-Vp k];rwa[d]
      ·rwa[n i u v l k]
     ·simp![<-Vp h,m,ar,ar,Nat.add_min_add_right,Xo,a6,List.all_map,Bool.and_assoc];simp![show(xs.length+1==ys.length+1)=(xs.length==ys.length)by rw[WW,Wb,Wb];rwa[Nat.add_right_cancel_iff]];rfl
theorem Mb(h:some (dA vs n)=some (dA ws m)):ws=vs:=by cases h;rfl
theorem Mc(h:some (cM vs n)=some (cM ws m)):ws=vs:=by cases h;rfl
theorem w8(k:DR F x w)(g:DR F m w)(h:sM x m=some B):B=true:=by
 have f:VR ⟨F,[]⟩ (.d x) w:=k;have d:VR ⟨F,[]⟩ (.d m) w:=g;erw[bO h (λh=>?_) λh=>bO h (λh=>?_) λh=>?_]; ·erw[ob h λi c h=>om h λj a h=>h▸Vz ?_];obtain⟨t,rfl⟩:=cN f c;obtain⟨b,e⟩:=cN d a;injection e
 ·erw[ob h λi c h=>om h λj a h=>h▸Vz ?_];obtain⟨t,rfl⟩:=bW f c;obtain⟨b,e⟩:=bW d a;injection e with e _;rwa[Cy.mp e]
 ·erw[ob h λi c h=>om h λj a h=>h▸Vz ?_];obtain⟨t,rfl⟩:=fC f c;obtain⟨b,e⟩:=fC d a;injection e with e _;injection e
theorem HM:∀n{x y:Dat}{v:ea}{b:Bool},DR F x v->DR F y v->gM n x y=some b->b=true:=by
 injections _ F;intro P;induction P with
 |zero=>intro _ _ _ _ l o h;rwa[w8 l o h]
 |succ n I=>
  intro x y v b l o h;have A:VR ⟨F,[]⟩ (.d x) v:=l;have C:VR ⟨F,[]⟩ (.d y) v:=o;have c:∀{O N:List Dat}{M:List ea}{b:Bool},c9 F O M->c9 F N M->jj (gM n) O N=some b->b=true:=by intro O N M b B R K;erw[x_12 (sS K) λe D p=>Vn p ?_];have s:=B.length;have w:=R.length;simp![Vq];erw[⟨VK.mpr λi L=>?_,by simp![<-s,<-w,Y1]⟩];have L:=Wx.mp L;simp![<-s,<-w]at L;simp![Nat.min_self]at L;have i1:i<O.length:=s▸L;have i2:i<N.length:=w▸L;erw[x_12 (B.get (VG i1)) λv J d=>x_12 (R.get (VG i2)) λS z g=>?_];rw[J]at z;rwa[I d (Vp z▸g) (D i _ _ (VG i1) (VG i2))]
  erw[bO h (λh=>?_) λh=>bO h (λh=>?_) λh=>w8 l o h]; ·erw[ob h λi q h=>ob h λj u h=>ba λE=>bw (k7 A q) λa M m t r d=>?_];subst t;erw[bw (k7 C u) λH Q G e k g=>E ?_];injection e with e;rw[<-e,r]at k;rwa[c d (Mb k▸g) h]
  ·erw[ob h λi q h=>ob h λj u h=>bw (nA A q) λa M m f r d=>?_];subst f;erw[bw (nA C u) λH Q G e k g=>?_];injection e with e;rw[<-e,r]at k;rwa[c d (Mc k▸g) h]
theorem HN(a b:Array UInt8)(t u:Tok):RcAt A s (.bytes a t) (.bytes b u) (a.toList==b.toList):=λc w E Q h=>W.eq_bytes h
theorem Fm(a b:Array UInt8)(t u:Tok):EqAt A s (.bytes a t) (.bytes b u) (a.toList==b.toList):=λe w E Q h=>by
 erw[wpAny_ite_split (λc=>?_) λY=>?_]; ·have:=WA c;injection this with d;subst d;rw[Y1]at h;rwa[Vm (Xl (Vs h))]
 ·rwa[Vm (W.eq_bytes (W6 h))]
theorem Eh:(cg g==cg m)=decide (g=m):=by rw[WW,Wb,Vx];rwa[⟨λh=>by delta cg at h;simpa using h,λh=>by rw[h]⟩]
theorem HO(k:F.StaysIn s.heap):∀n{A:kx}{x y:Dat}{v u:ea}{b:Bool},DR F x v->DR F y u->gM n x y=some b->A.units+n<ah2->RcAt A s v u b/\RcNeAt A s v u !b/\EqAt A s v u b:=by
 injections _ F s;intro;have C:∀{A:kx}{x y:Dat}{v u:ea}{b:Bool},DR F x v->DR F y u->sM x y=some b->RcAt A s v u b/\RcNeAt A s v u !b/\EqAt A s v u b:=by
  intro A x y v u b B D h;have L:VR ⟨F,[]⟩ (.d x) v:=B;have N:VR ⟨F,[]⟩ (.d y) u:=D;erw[bO h (λh=>?_) λh=>bO h (λh=>?_) λh=>?_]
  ·erw[ob h λi o h=>om h λj w h=>?_];obtain⟨t,rfl⟩:=cN L o;obtain⟨t',rfl⟩:=cN N w;rwa[((by
    intro A i j t u b e;have:(i==j)=b:=by rw[<-e];by_cases h:i=j<;>rfl
    rwa[this▸(m_03 (RcAt.int_int _ _ _ _) (RcNeAt.int_int _ _ _ _) (EqAt.int_int _ _ _ _))]:∀{A:kx}(i j:Int)(t u:Tok){b:Bool},decide (i=j)=b->RcAt A s (.int i t) (.int j u) b/\RcNeAt A s (.int i t) (.int j u) !b/\EqAt A s (.int i t) (.int j u) b)) _ _ _ _ h]
  ·erw[ob h λi o h=>om h λj w h=>?_];obtain⟨t,rfl⟩:=bW L o;obtain⟨t',rfl⟩:=bW N w;rwa[((by intro A i j t u b e;rw[<-Eh]at e;subst e;rwa[m_03 (RcAt.str_str _ _ _ _) (RcNeAt.str_str _ _ _ _) (EqAt.str_str _ _ _ _)]:∀{A:kx}(i j:List Nat)(t u:Tok){b:Bool},decide (i=j)=b->RcAt A s (.str (cg i) t) (.str (cg j) u) b/\RcNeAt A s (.str (cg i) t) (.str (cg j) u) !b/\EqAt A s (.str (cg i) t) (.str (cg j) u) b)) _ _ _ _ h]
  ·erw[ob h λi o h=>om h λj w h=>?_];obtain⟨t,rfl⟩:=fC L o;obtain⟨t',rfl⟩:=fC N w;rwa[((by
    intro A i j t u b e;have:(i.toArray.toList==j.toArray.toList)=b:=by simp![<-e];by_cases h:i=j<;>simp[h]
    rwa[this▸(m_03 (HN _ _ _ _) (λY Y Y Y h=>W.ne_bytes h) (Fm _ _ _ _))]:∀{A:kx}(i j:List UInt8)(t u:Tok){b:Bool},decide (i=j)=b->RcAt A s (.bytes i.toArray t) (.bytes j.toArray u) b/\RcNeAt A s (.bytes i.toArray t) (.bytes j.toArray u) !b/\EqAt A s (.bytes i.toArray t) (.bytes j.toArray u) b)) _ _ _ _ h]
 intro n;induction n with
 |zero=>rwa[λB D h Y=>C B D h]
 |succ n ih=>
  intro A x y v u b B D S T;have L:VR ⟨F,[]⟩ (.d x) v:=B;have N:VR ⟨F,[]⟩ (.d y) u:=D;have d:A.units<ah2:=Wv (VW ..) T;have c:∀{xs ys:List Dat}{vs f:List ea}{e:Nat->Bool},c9 F xs vs->c9 F ys f->(∀i x y,xs[i]?=some x->ys[i]?=some y->gM n x y=some (e i))->∀j(M:j<vs.toArray.size)(h2:j<f.toArray.size),EqAt A.in1 s vs.toArray[j] f.toArray[j] (e j):=by intro xs ys vs f e Z d2 G j M h2;rwa[ba λR=>x_12 (Z.mem (VG M)) λx ex dx=>x_12 (d2.mem (VG h2)) λy X U=>R ((ih (A:=A.in1) dx U (G j x y ex X) (by simp![units_in1,WV,ad5 1];rwa[T])).2.2)]
  have J:∀{l m:Addr},v=.ref l->u=.ref m->RcAt A s (.ref l) (.ref m) b->EqAt A s (.ref l) (.ref m) b:=by
   intro l m z p r;by_cases K:l=m; ·rw[z]at B;rw[p,<-K]at D;simp![<-K,HM (n+1) B D S];rwa[EqAt.same _]
   ·rwa[EqAt.of_refs K r]
  erw[bO S (λh=>?_) λh=>bO h (λh=>?_) λh=>C B D h]
  ·erw[ob h λxs o h=>ob h λys w h=>ba λR=>?_];obtain⟨l,vs,n1,z,M,q⟩:=k7 L o;obtain⟨m,f,V,p,h2,E⟩:=k7 N w;have H:s.heap.IsTuple l vs.toArray:=⟨_,k _ _ M,rfl,_,rfl⟩;have I:s.heap.IsTuple m f.toArray:=⟨_,k _ _ h2,rfl,_,rfl⟩;erw[x_12 (sS h) λe G P=>?_];have a:b=((eg (min vs.toArray.size f.toArray.size)).all e&&vs.toArray.size==f.toArray.size):=by rw[P,VV,VV,q.length,E.length]
   have r:RcAt A s (.ref l) (.ref m) b:=a▸RcAt.tuples H I d (c q E G);have O:=J z p r;erw[R ?_];rw[z,p];rwa[m_03 r (a▸RcNeAt.tuples H I d (c q E G)) O]
  ·erw[ob h λxs o h=>ob h λys w h=>bw (nA L o) λl vs n1 z M q=>bw (nA N w) λm f V p h2 E=>?_];have H:s.heap.IsList l vs.toArray:=⟨_,k _ _ M,rfl,_,rfl⟩;have I:s.heap.IsList m f.toArray:=⟨_,k _ _ h2,rfl,_,rfl⟩;erw[x_12 (sS h) λe G P=>?_];by_cases Q:xs.length=ys.length
   ·have g:vs.toArray.size=f.toArray.size:=by rw[VV,VV,q.length,E.length,Q]
    have a:b=(eg vs.toArray.size).all e:=by rw[P,VV,q.length,Q,Nat.min_self,Y1,W0]
    have r:RcAt A s (.ref l) (.ref m) b:=a▸RcAt.lists H I g d (c q E G);have O:=J z p r;rw[z,p];rwa[m_03 r (a▸RcNeAt.lists H I g d (c q E G)) O]
   ·have g:(vs.toArray.size !=f.toArray.size)=true:=by rw[VV,VV,q.length,E.length,bne_iff_ne];rwa[Q]
    have a:b=false:=by rw[P,WE.mpr Q,aa6]
    subst a;have r:RcAt A s (.ref l) (.ref m) false:=RcAt.lists_lengths H I g d;have O:=J z p r;rw[z,p];rwa[m_03 r (RcNeAt.lists_lengths H I g d) O]
end
section
open PySem.SeqAt
noncomputable abbrev Px:St->ae->Bool->a8:=λY Y b r Y=>r=.bool b
section
theorem sT(I:Inv W σ s.heap)(h:∀(Q:a8)(E:a8),(∀tk,Q (.bool g) {s with toks:=tk})->ed MG A t Q E s):Ref A L X W σ s t (.ok g σ) Px:=b8 I λQ E q=>h Q E λtk=>q _ tk rfl
theorem dB(I:Inv W σ s.heap)(h:∀(Q:a8)(E:a8),Q (.bool g) s->ed MG A t Q E s):Ref A L X W σ s t (.ok g σ) Px:=sT I λQ E q=>h Q E (q s.toks)
theorem mc(I:Inv W σ s.heap)(h:VR W v c)(e:kU σ v=some x):DR s.heap x c:=by
 rcases v with y|n; ·rwa[(Vp e)▸DR.mono I.stays h]
 ·rwa[om e λi f e=>bw (di I h f) λa j n b d g=>b▸((e)▸.list d (g.mono I.stays))]
theorem Ei:∀{xs:List Dat}{vs:List ea}{ss:List (List Nat)},c9 F xs vs->nz xs=some ss->∀v∈vs,∃z t,z∈ss/\v=.str (cg z) t:=by
 intro m;induction m with
 |nil=>intro vs _ h _;rwa[λv hv=>by rw[h.ni]at hv;rwa[k_mn hv]]
 |cons x xs k=>
  intro vs ss h e;rwa[λv hv=>qs e λz r l d f=>by
   erw[fw h.co λw o i h n=>?_];rw[i]at hv;erw[(f)▸?_];rcases VD.mp hv with g|hv; ·rwa[V7 (bW (W:=⟨F,[]⟩) (v:=.d x) h l) λt j=>m_22 z t (Vv ..) (g.trans j)]
   ·rwa[d6 (k n d v hv) λc t a b=>m_22 c t (VB _ a) b]]
theorem HP:∀{xs:List Dat}{vs:List ea}{ss:List (List Nat)},c9 F xs vs->nz xs=some ss->∀z∈ss,∃v t,v∈vs/\v=.str (cg z) t:=by
 intro o;induction o with
 |nil=>intro _ _ _ e;rwa[λz c=>by rw[<-Vp e]at c;rwa[k_mn c]]
 |cons x xs m=>
  intro vs ss h e;rwa[λd c=>qs e λz r n f g=>by
   erw[ba λk=>fw h.co λw q j h p=>k ((j)▸?_)];rw[g]at c;rcases VD.mp c with i|c; ·rwa[V7 (bW (W:=⟨F,[]⟩) (v:=.d x) h n) λt l=>m_22 _ t (Vv ..) (i▸l)]
   ·rwa[d6 (m p f d c) λv t a b=>m_22 v t (VB _ a) b]]
def sU(k:List Nat):ea->Bool|.str y _=>y==cg k|_=>false
theorem yj{i:List ea}(h:c9 F xs i)(e:nz xs=some ss):i.toArray.any (sU k)=decide (k∈ss):=by
 rw[WW,Vx];rw[List.any_toArray,Xu];constructor; ·erw[λa=>x_12 a λv hv q=>d6 (Ei h e v hv) λz t g b=>?_];subst b;have:(cg z==cg k)=true:=q;rw[Eh,Vx]at this;rwa[this▸g]
 ·erw[λd=>ba λf=>d6 (HP h e k d) λv t hv c=>?_];subst c;rwa[f (m_12 _ hv (by simp[sU]))]
theorem oV{c:List ea}(h:c9 F xs c)(e:nz xs=some ss):∀y,y∈c.toArray->EqAt A s y (.str (cg k) t) (sU k y):=λy b=>d6 (Ei h e y (by simpa using b)) λz u Y a=>a▸(EqAt.str_str _ _ _ _)
def HQ(A:kx)(L:Nat)(X:Addr->Prop)(W:St)(σ:ae)(s:eN)(c e:ea)(b:Bool):Prop:=Ref A L X W σ s (Ho .In c e) (.ok b σ) Px/\Ref A L X W σ s (Ho .NotIn c e) (.ok (!b) σ) Px
theorem Py(I:Inv W σ s.heap)(c:s.heap.get? a=some (cM vs n)\/s.heap.get? a=some (dA vs n))(d:c9 W.F xs vs)(b:nz xs=some ss):HQ A L X W σ s (.str (cg k) t) (.ref a) (decide (k∈ss)):=by
 rcases c with c|c; ·rwa[⟨dB I λQ E q=>in_listAt (sU k) ⟨_,c,rfl,_,rfl⟩ (oV d b) (by rw[yj d b];rwa[q]),dB I λQ E q=>notIn_listAt (sU k) ⟨_,c,rfl,_,rfl⟩ (oV d b) (by rw[yj d b];rwa[q])⟩]
 ·rwa[⟨dB I λQ E q=>in_tupleAt (sU k) ⟨_,c,rfl,_,rfl⟩ (oV d b) (by rw[yj d b];rwa[q]),dB I λQ E q=>notIn_tupleAt (sU k) ⟨_,c,rfl,_,rfl⟩ (oV d b) (by rw[yj d b];rwa[q])⟩]
structure HR(F h:Heap)(a:Addr)(ks:List (List Nat))(xs:List Dat)(f:Str->Option ea)(val:List Nat->ea):Prop where
 map:h.MapOf (qn pG wG) a f
 sys:(a==xd)=false
 sm:∀k d,bS k ks xs=some d->f (cg k)=some (val k)
 no:∀k,bS k ks xs=none->f (cg k)=none
 vl:∀k d,bS k ks xs=some d->DR F d (val k)
def OM(F h:Heap)(r:List (List Nat)×List Dat)(c:ea):Prop:=∃a f val,c=.ref a/\HR F h a r.1 r.2 f val
theorem jH(I:Inv W σ s.heap)(h:VR W v c)(e:dictOf σ v=some r):OM W.F s.heap r c:=by injections σ v _ r s W c;rwa[bO e (λe=>by cases Pn h e with|dict a j b k d=>rwa[⟨_,_,_,rfl,rk a I.stays,j,b,k,d⟩]) λe=>om e λq e f=>Ef e λev m=>by rw[ev]at h;rw[<-f];erw[CA (P:=OM W.F s.heap q.2) I m (λz=>nomatch z) (λp Y g=>?_) c h];cases g with|dict _ a j i=>rwa[gJ i.map λl b k d=>⟨_,_,l,rfl,a.mapOf,j,b,k,d⟩]]
theorem HS(I:Inv W σ s.heap)(h:HR W.F s.heap a ks xs f val):HQ A L X W σ s (.str (cg k) t) (.ref a) (bS k ks xs).isSome:=by
 have b:(f (cg k)).isSome=(bS k ks xs).isSome:=by cases q:bS k ks xs with|none=>rw[h.no k q];rfl|some d=>rw[h.sm k d q];rfl
 rwa[⟨sT I λQ E q=>wpAny_in_of (Zu _ _ _ _) h.sys h.map (by rw[b];rwa[q _]),sT I λQ E q=>wpAny_notIn_of (Zu _ _ _ _) h.sys h.map (by rw[b];rwa[q _])⟩]
theorem Ej(h:Ph x=some g):ny (.d x)=some [g]:=by
 rcases x with _|_|_|s|_|_|_|_|_|_<;>first|rwa[nn h]|skip
 rcases s with _|⟨a,_|⟨b,r⟩⟩; ·rwa[nn h]
 ·rwa[VT (λg=>some [g]) (Vp h)]
 ·rwa[nn h]
theorem OO(I:Inv W σ s.heap)(o:DR W.F x c)(hv:VR W v e)(h:Ui σ x v=some G):HQ A L X W σ s c e G:=by
 have g:VR W (.d x) c:=o;erw[bO h (λh=>ob h λz C h=>om h λi D h=>?_) λh=>bO h (λh=>ob h λr y h=>om h λk j h=>?_) λh=>ob h λH b h=>ob h λk j h=>om h λJ B h=>?_]
 ·obtain⟨t,rfl⟩:=bW g (Ej D);obtain⟨u,rfl⟩:=bW hv C;have m:ah0 (cg z) ⟨#[i]⟩=G:=by simp![<-h];delta ah0;rw[StrLaws.found_one];delta cg;simp
  rwa[⟨dB I λQ E q=>SB.contains (show Q (.bool (ah0 (cg z) ⟨#[i]⟩)) s by rwa[(m)▸q]),dB I λQ E q=>SB.notContains (show Q (.bool !Txt.contains (cg z) ⟨#[i]⟩) s by rwa[(m)▸q])⟩]
 ·obtain⟨t,rfl⟩:=bW g j;rwa[fi (jH I hv y) λa f F d hd=>d▸(h▸HS I hd)]
 ·obtain⟨t,rfl⟩:=bW g j;rwa[bw (k9 I hv b) λa K n l p w=>l▸(h▸Py I p w B)]
theorem yk(h:VR W v c)(e:Hp v=true):c=.none:=by
 rcases v with x|n; ·rcases x with _|_|_|_|_|_|_|_|_|_<;>first|rwa[ff e]|rwa[d1 (P:=λc=>c=.none) rfl _ h]
 ·rwa[ff e]
theorem mf(J:∀c C,cG c=some C->∀(x O:Addr)(y:Str)(t:Tok),s.heap.get? x=some (oQ C O)->(∃es n,s.heap.get? O=some (fY es n))->∀(Q:a8)(E:a8),Q (.bool true) s->ed MG A (Ho .NotEq (.ref x) (.str y t)) Q E s)(I:Inv W σ s.heap)(G:A.units+10<ah2)(hv:VR W v c)(a:VR W N e):Ref A L X W σ s (Ho op c e) (cmp op v N σ) Px:=by
 injections X A s W σ v c e N L op;erw[Ref.reads λb h=>?_];have l:A.units+6<ah2:=Wv (Xm #v[] _) G;have f:∀{p:Int->Int->Bool}{op:CmpOp},Hq p v N=some b->(∀(i j:Int)(t M:Tok)(Q:a8)(E:a8),Q (.bool (p i j)) s->ed MG A (Ho op (.int i t) (.int j M)) Q E s)->Ref A L X W σ s (Ho op c e) (.ok b σ) Px:=λh k=>ob h λi g h=>om h λj D h=>by obtain⟨t,rfl⟩:=cN hv g;obtain⟨M,rfl⟩:=cN a D;rwa[(h)▸dB I λQ E q=>k i j t M Q E q]
 rcases op with _|_|_|_|_|_|_|_|_|_; ·rwa[ob h λx d h=>ob h λy u h=>dB I λQ E q=>(HO (StaysIn.refl _) 6 (mc I hv d) (mc I a u) h l).1 _ _ E Q q]
 ·erw[bO h (λh=>?_) λh=>ob h λx d h=>ob h λy u h=>om h λP B h=>?_]
  ·rcases v with x|n
   ·rcases x with _|_|_|_|_|_|_|_|⟨K,T,S⟩|_<;>first|rwa[nn h]|skip
    erw[om (o:=ny N) h λy r h=>?_];obtain⟨t,rfl⟩:=bW a r;erw[ba λz=>?_];cases hv with|obj F m hd R=>rwa[z (dB I λQ E q=>J _ _ F _ _ _ _ (I.stays _ _ m) (nv _ _ (I.stays _ _ hd)) Q E (h▸q))]
   ·rwa[nn h]
  ·rwa[h▸dB I λQ E q=>(HO (StaysIn.refl _) 6 (mc I hv d) (mc I a u) B l).2.1 _ _ E Q q]
 ·rwa[f h λY Y Y Y Y Y q=>PyProof.Rows.lt_int q]
 ·rwa[f h λY Y Y Y Y Y q=>PyProof.Rows.le_int q]
 ·rwa[f h λY Y Y Y Y Y q=>PyProof.Rows.gt_int q]
 ·rwa[f h λY Y Y Y Y Y q=>PyProof.Rows.ge_int q]
 ·erw[d8 h λH h=>?_];rw[yk a H];erw[bO h (λh=>d8 h λw h=>?_) λh=>om h λi g h=>?_]; ·rw[yk hv w,<-Vp h];rwa[dB I λQ E q=>is_none_gen q]
  ·obtain⟨t,rfl⟩:=cN hv g;rwa[(h)▸dB I λQ E q=>is_none_gen q]
 ·rwa[nn h]
 ·rwa[ob h λx d h=>(OO I (Ee hv d) a h).1]
 ·rwa[ob h λx d h=>om h λP u h=>h▸(OO I (Ee hv d) a u).2]
end
end
section
open PySem.SeqAt
section
theorem nE(I:Inv W σ s.heap)(hv:VR W v c):Ref A L X W σ s (truthy c) (lift (truth v) σ) λY Y b b' Y=>b'=b:=by
 rcases v with x|n
 ·rcases x with _|b|_|_|b|_|_|_|_|_<;>first|rwa[b7]|skip
  ·rwa[(d1 (P:=λc=>c=.none) rfl _ hv)▸b8 I λQ E q=>truthy_none (q _ s.toks rfl)]
  ·rwa[(d4 (P:=λc=>c=.bool b) rfl _ hv)▸b8 I λQ E q=>W6 (q _ s.toks rfl)]
  ·obtain⟨t,rfl⟩:=fC (v:=.d (.bytes b)) hv rfl;rwa[ei λY=>b8 I λQ E q=>KBw.truthy_K (ks:=KBw.bInts b.toArray) rfl (by rw[aq9];simp;lia) (by rw[aq9];have:=q (decide (0<b.length)) (s.toks+1+1) rfl;rwa[this])]
 ·rwa[b7]
theorem Me(I:Inv W σ s.heap)(hv:VR W v c):Ref A L X W σ s (unaryOp .Not c) (aa (lift (truth v)) (λt=>ret (V.d (.bool !t))) σ) RV:=λk Q E q e=>by
 erw[not_of (nE (A:=A) (L:=L) (X:=X) I hv (dr k) _ _ (λa b g h j f i st r d=>?_) λx c g h j f i st r d=>?_)]; ·rw[bX f]at q;rwa[d▸(q _ _ g h j rfl i st r .bool)]
 ·rwa[e x c g h j (cU f) i st r d]
theorem Mf(I:Inv W σ s.heap):Ref A L X W σ s (unaryOp .USub (.int g t)) (ret (V.d (.int (-g))) σ) RV:=b8 I λQ E q=>PyProof.Rows.neg_int (q _ _ .int)
theorem zY(h:D7 g n=some j): -2^63<=g/\g<2^63/\seqIndex? g n=some j:=by
 delta D7 at h;split at h; ·rename_i e;have:g.natAbs<2^62:=Vu e;rwa[m_03 (by omega) (by omega) h]
 ·rwa[k_nn h]
theorem seqIndex_at{k:Int}(h:seqIndex? k n=some j):0<=k/\k.toNat=j/\j<n\/k<0/\ -n<=k/\(k+n).toNat=j/\j<n:=by
 injections j _ n k;dsimp![seqIndex?]at h;by_cases a:k<0
 ·simp![a,Zq]at h;split at h; ·rename_i e;simp![Vq,Vx]at e;injection h with b;subst b;rwa[.inr (kS a (xZ e.1) rfl (by omega))]
  ·rwa[k_nn h]
 ·simp![a,if_false]at h;split at h; ·rename_i e;simp![Vq,Vx]at e;injection h with b;subst b;rwa[.inl (m_03 (xZ e.1) rfl (by omega))]
  ·rwa[k_nn h]
theorem zZ{k:List ea}(b:s.heap.get? a=some (cM k n)\/s.heap.get? a=some (dA k n))(e:D7 w k.length=some j)(c:k[j]?=some B)(q:Q B s):ed MG A (al0 (.ref a) (.int w t)) Q E s:=by
 erw[mL (zY e) λl g f=>?_];rcases b with b|b
 ·have i:s.heap.IsList a k.toArray:=⟨_,b,rfl,_,rfl⟩;erw[ba λh=>?_];clear e;rcases seqIndex_at f with⟨d,rfl,_⟩|⟨d,m,rfl,_⟩; ·rwa[h (wpAny_getItem_list i d g (by simpa using c) q)]
  ·rwa[h (wpAny_getItem_list_neg i d (m) l (by simpa using c) q)]
 ·rwa[PyProof.Rows.getItem_tuple ⟨_,b,rfl,_,rfl⟩ l g (f) (by simpa using c) q]
theorem HT(c:s.heap.MapOf (qn pG wG) a f)(b:∀k d,bS k ks xs=some d->f (cg k)=some (val k))(e:bS k ks xs=some d)(q:Q (val k) {s with toks:=s.toks+1}):ed MG A (al0 (.ref a) (.str (cg k) t)) Q E s:=wpAny_getItem_of (Zu _ _ _ _) c (b k d e) q
theorem z0(I:Inv W σ s.heap)(hv:VR W v c)(m:VR W U e):Ref A L X W σ s (al0 c e) (ay v U σ) RD:=by
 erw[db ?_ (db ?_ (db ?_ ?_))]; ·erw[dy λz T=>dy λk g=>Ref.lift λy l=>ob l λj C l=>om l λF w l=>?_];obtain⟨t,rfl⟩:=bW hv T;obtain⟨u,rfl⟩:=cN m g;erw[mL (zY C) λH J K=>b8 I λQ E q=>P.getItem_str (c:=F) (by rw[Yg];rwa[⟨VO (Zt.mpr H),VO (Int.not_le.mpr J)⟩]) ?_ (q (.str (cg [F]) _) _ (l▸.str))];rw[jr,K];rwa[(w)▸aa1 .. ]
 ·erw[dy λb R=>dy λk g=>Ref.grd λh=>?_];obtain⟨t,rfl⟩:=fC hv R;obtain⟨u,rfl⟩:=cN m g;simp![Vq,Vq,Vx,Vx]at h;have G:=Vu h.2;simp![Sa]at G;rwa[b8 I λQ E q=>PySem.W.getItem_bytes (a_1 G) h.1.1 h.1.2 (q _ _ .int)]
 ·erw[dy λr N=>dy λk g=>Ref.lift λd hd=>fi (jH I hv N) λa f V o h=>?_];subst o;obtain⟨u,rfl⟩:=bW m g;rwa[b8 I λQ E q=>HT h.map h.sm hd (q _ _ (h.vl k d hd))]
 ·erw[dy λZ p=>dy λk g=>Ref.lift λd hd=>ob hd λj S i=>ba λO=>bw (k9 I hv p) λa vs n B C D=>?_];subst B;obtain⟨u,rfl⟩:=cN m g;rwa[x_12 (D.get i) λx w M=>O (b8 I λQ E q=>zZ C ((D.length)▸S) w (q _ s.toks M))]
set_option tactic.hygienic true in theorem yl(l h:Option Nat)(c:List α):(c.drop ((l.map em).elim 0 (ag8 c.length))).take ((h.map em).elim c.length (ag8 c.length)-(l.map em).elim 0 (ag8 c.length))=cut l h c:=by
 delta cut;obtain⟨⟩:=l<;>obtain⟨⟩:=h<;>simp![Option.map_none,nx,Option.elim,show∀n:Nat,ag8 c.length (em n)=min n c.length fromλn=>clipAt_nat c.length n,Option.getD]; ·simp
 ·rename_i h;simp![aa7,Nat.sub_zero];by_cases a:h<=c.length; ·rw[Yx a]
  ·rw[Yk (a_1 (Y2 a)),Wa (VM _),Wa (a_1 (Y2 a))]
 ·rename_i l;by_cases a:l<=c.length; ·rw[Yx a,Wa (by simp)]
  ·rw[Yk (by omega),Xp (VM _),Xp (by omega)];simp
 ·rename_i l h;rw[ar7];by_cases b:l<=c.length
  ·rw[Yx b];by_cases a:h<=c.length; ·rw[Yx a]
   ·rw[Yk (a_1 (Y2 a)),Wa (by simp),Wa (by simp;rwa[a_2 (Y2 a) (Uh h l)])]
  ·simp![(Xp (by omega):c.drop l=[])];rw[(Yk (by omega):min l c.length=c.length),Xp (VM _)];simp
theorem z5{b:Option Nat}(hv:VR W v c)(h:bound v=some b):IsPart c (b.map em)/\∃p:Option (Int×Tok),c=partValue p/\p.map (·.1)=b.map em:=by delta bound at h;cases q:Hp v with|true=>rw[q]at h;rw[yk hv q,<-Vp h];rwa[⟨.none,none,rfl,rfl⟩]|false=>rw[q]at h;erw[ob h λk a h=>d8 h λe h=>?_];obtain⟨t,rfl⟩:=cN hv a;simp![Vq,Vx]at e;have:em k.toNat=k:=XJ e.1;simp![<-Vp h,nx,this];rwa[⟨.int _ _,some (k,t),rfl,rfl⟩]
theorem Mg(z:List Nat)(l h:Option (Int×Tok))(a b:Option Nat)(d:l.map (·.1)=a.map em)(c:h.map (·.1)=b.map em):((y4 (cg z) l h none).filterMap ((cg z).cps[·]?))=cut a b z:=by
 delta y4;rw[d,c];have:w2 (a.map em) (b.map em) 1 (cg z).length=sliceRange (ai1 (a.map em) (b.map em) none z.length).1 (ai1 (a.map em) (b.map em) none z.length).2.1 1:=by clear c;clear d;obtain⟨⟩:=a<;>obtain⟨⟩:=b<;>rfl
 show ai8 _ (w2 (a.map em) (b.map em) 1 (cg z).length)=_;rw[this,an1];simp![sliceRange_one,pick_run];rwa[yl a b z]
theorem sV(a:Expr)(o i:ea):∃b,subscripted a false o i=operate b (al0 o i):=by
 obtain⟨⟩:=a<;>try rwa[⟨_,rfl⟩]
 rename Option Expr=>st;obtain⟨⟩:=st<;>rwa[⟨_,rfl⟩]
theorem oW{T:String}(c:s.TypeIs g T)(d:qu (.type T) "__getitem__"=pure (some (.builtin t)))(b:ed MG A (al0 g m) Q E s):ed MG A (af3 value slice g m) Q E s:=let⟨_,h⟩:=sV slice g m;tail_any c d b h
def Typed(s:eN)(c:ea):Prop:=∃T id,s.TypeIs c T/\qu (.type T) "__getitem__"=pure (some (.builtin id))
theorem HU(I:Inv W σ s.heap)(hv:VR W v c)(h:ay v m σ≠.stuck):Typed s c:=by
 erw[Cz h (λh=>yg h λz b Y=>?_) λh=>Cz h (λh=>yg h λz b Y=>?_) λh=>Cz h (λh=>yg h λz b Y=>?_) λh=>yg h λz b Y=>?_]; ·rwa[RN (bW hv b) λt=>m_22 _ _ (YA s _ _) F.slot_str_getitem.lookup]
 ·rwa[RN (fC hv b) λt=>m_22 _ _ (XE s _ _) FB.slot_bytes_getitem.lookup]
 ·rwa[fi (jH I hv b) λa f i g h=>g▸(m_22 _ _ h.map.typeIs slot_dict_getitem.lookup)]
 ·erw[bw (k9 I hv b) λa k n e d j=>(e)▸?_];rcases d with d|d; ·rwa[m_22 _ _ (m_12 _ d rfl) slot_list_getitem.lookup]
  ·rwa[m_22 _ _ (m_12 _ d rfl) slot_tuple_getitem.lookup]
theorem Mh(I:Inv W σ s.heap)(hv:VR W v c)(b:VR W m e):Ref A L X W σ s (af3 value slice c e) (ay v m σ) RD:=λh Q E q x=>ba λd=>d6 (HU I hv h) λT g a f=>d (oW a f (z0 I hv b h Q E q x))
end
end
section
open PySem.SeqAt
theorem Mi(n:Nat)(h:Option Nat):(h.map em).elim n (ag8 n)<=n:=by cases h with|none=>rwa[VM _]|some k=>show ag8 n (em k)<=n;rwa[(clipAt_nat n k)▸XN _ _]
theorem CD(z:List Nat)(l h:Option (Int×Tok))(a b:Option Nat)(d:l.map (·.1)=a.map em)(c:h.map (·.1)=b.map em):y4 (cg z) l h none=(eg ((b.map em).elim z.length (ag8 z.length)-(a.map em).elim 0 (ag8 z.length))).map λk=>(a.map em).elim 0 (ag8 z.length)+k:=by
 delta y4;rw[d,c];have:w2 (a.map em) (b.map em) 1 (cg z).length=sliceRange (ai1 (a.map em) (b.map em) none z.length).1 (ai1 (a.map em) (b.map em) none z.length).2.1 1:=by clear c;clear d;obtain⟨⟩:=a<;>obtain⟨⟩:=b<;>rfl
 erw[Vn this ?_];rw[an1];rwa[sliceRange_one _ _]
theorem CE(z:List Nat)(l h:Option (Int×Tok))(a b:Option Nat)(d:l.map (·.1)=a.map em)(c:h.map (·.1)=b.map em):(if((((none:Option (Int×Tok)).map (·.1)).getD 1==1&&(y4 (cg z) l h none).length==(cg z).length)=true)then cg z else⟨((y4 (cg z) l h none).filterMap ((cg z).cps[·]?)).toArray⟩)=cg (cut a b z):=by
 rw[Mg z l h a b d c];split
 ·rename_i q;simp![CD z l h a b d c,jr]at q;simp![Vq,Wb,Vo,VN]at q;have f:=Mi z.length b;rw[<-yl];by_cases e:z.length=0
  ·have:z=[]:=by simpa using e
   rw[this];simp
  ·have:(a.map em).elim 0 (ag8 z.length)=0:=by lia
   rw[q.2,this];simp
 ·rfl
section
theorem Mj(l h:Option Nat)(a:List α):(cut l h a).length<=a.length:=by delta cut;cases h with|none=>simp|some k=>simp;rwa[a_1 (XN k a.length)]
theorem c9.cut{xs vs}(h:c9 F xs vs)(l u:Option Nat):c9 F (cut l u xs) (cut l u vs):=by cases u with|none=>rwa[h.drop _]|some k=>rwa[(h.take k).drop _]
noncomputable abbrev CF(l u:ea):Obj:={cls:=.type "slice",data:=.fields #[l,u,.none]}
theorem Fo{K:V}{l u:ea}(I:Inv W σ s.heap)(hv:VR W v c)(M:VR W K l)(hu:VR W O u)(p:s.heap.get? a=some (CF l u)):Ref A L X W σ s (af3 value slice c (.ref a)) (bq v K O σ) RD:=by
 injections a X A s W σ v c O L value slice K l u;erw[dy λf N=>dy λg h2=>?_];obtain⟨p1,x,rfl,y⟩:=z5 M N;clear M;clear N;obtain⟨p2,w,rfl,D⟩:=z5 hu h2;erw[db ?_ (db ?_ (db ?_ ?_))]
 ·erw[dy λz ez=>ei λm=>?_];obtain⟨t,rfl⟩:=bW hv ez;have P:=CE z x w f g y D;erw[oU I λQ E q=>oW (YA _ _ _) F.slot_str_getitem.lookup (wpAny_getItem_str_slice (l:=x) (u:=w) (st:=none) (ia _ p rfl rfl) rfl (post_val_or_str ⟨?_,λt' tk=>?_⟩))]; ·simp![P];rwa[Vw (Mj ..) m]
  ·rw[P];rwa[q _ _]
 ·erw[dy λb eb=>ei λm=>?_];obtain⟨t,rfl⟩:=fC hv eb;have e:KBy.picked b.toArray (f.map em) (g.map em)=(cut f g b).toArray:=by rw[KBc.picked_eq,<-yl];trivial
  erw[l9 I λQ E q=>oW (XE _ _ _) FB.slot_bytes_getitem.lookup (getItem_meets (XE _ _ _) (by rfl) FB.slot_bytes_getitem FB.entry_bytes_getitem (FB.args_bytes_getitem_2 _ _) (KBc.meets_slice2 _ _ _ p1 p2) (m_03 (ia _ p rfl rfl) ?_ λt' k=>?_))]; ·rwa[Vw (KBc.size_picked_le ..) m]
  ·rw[e];rwa[q _ _]
 ·erw[dy λxs ex=>ei λm=>bw (nA hv ex) λb vs n J C hs=>J▸?_];have d:=I.stays _ _ C;have e:slicePick vs.toArray (f.map em) (g.map em) none=(cut f g vs).toArray:=by rw[slicePick_plain,<-yl];rfl
  erw[jG (o:=cM (cut f g vs) 0) rfl I (λF' G e=>.list e ((hs.mono G).cut _ _)) λQ E q=>oW (T:="list") (m_12 _ d rfl) list_getitem_lookup (wpAny_getItem_list_slice ⟨_,d,rfl,_,rfl⟩ (ia _ p rfl rfl) p1 p2 .none (by trivial) ?_ ?_)]; ·rwa[(e)▸q _]
  ·simp![Wr,VV,hs.length];rwa[m]
 ·erw[dy λxs ex=>dy λj r=>Ref.grd λR=>ei λm=>ba λZ=>bw (k7 hv ex) λb vs n h C hs=>?_];clear p1;subst h;have d:=I.stays _ _ C;have H:=Vu R;obtain⟨U,S⟩:f=some (j+1)/\g=none:=by
   rcases g with _|_
   ·rcases f with _|_|i; ·rwa[nn r]
    ·rwa[nn r]
    ·rwa[⟨by rw[Vp (show some i=some j from r)],rfl⟩]
   ·rwa[nn r]
  rw[U]at y;rw[S]at D;obtain⟨t,ht⟩:∃t,partValue x=.int ((j+1:Nat):Int) t:=by
   rcases x with _|⟨i,t⟩; ·rwa[nn y]
   ·rwa[⟨t,by rw[show i=((j+1:Nat):Int)from Vp y];rfl⟩]
  have B:partValue w=.none:=by
   rcases w with _|q; ·rfl
   ·rwa[nn D.symm]
  rw[ht,B]at p;rwa[Z (jG (o:=dA (vs.drop (j+1)) 0) rfl I (λF' G e=>.tuple e ((hs.mono G).drop _)) λQ E q=>oW (T:="tuple") ⟨_,d,rfl⟩ slot_tuple_getitem.lookup (getItem_tuple_from (a:=j+1) (items:=vs.toArray) ⟨_,d,rfl,_,rfl⟩ ⟨_,p,rfl,rfl⟩ (by simp +arith only) (by rw[VV,hs.length];rwa[H]) (q _) (by rw[Wr,VV,hs.length];rwa[m])))]
end
end
section
open Builtin
structure HV(K:Frag)(c:Str)(C:Addr):Prop where
 getattr:kt K (.ref C) "__getattribute__"=some (some (.builtin "object.__getattribute__"))
 hook:kt K (.ref C) "__getattr__"=some none
 setattr:kt K (.ref C) "__setattr__"=some (some (.builtin "object.__setattr__"))
 eq:kt K (.ref C) "__eq__"=some (some (.builtin "object.__eq__"))
 ne:kt K (.ref C) "__ne__"=some (some (.builtin "object.__ne__"))
 over:plainOver K C=true
 has:ah9 K C=true
 attr:∀a,attrOk c a=true->kt K (.ref C) a=some none
theorem jI(a k:Str)(t:Tok):(m7 k t).isStr a=(k==a):=rfl
theorem rI.look{a:Str}:∀{ns:List Str}{xs:List Dat}{es:List Ht}{d:Dat},rI F ns xs es->RG.Internal.look a ns xs=some d->∃v,hU a es=some (some v)/\DR F d v:=by
 injections _ F a;intro i;induction i with
 |nil=>intro _ _ _ h e;rwa[k_nn e]
 |cons k ns g=>
  intro _ _ d h e;cases h with
  | @cons _ _ x xs t v es hv hs=>
   dsimp![RG.Internal.look]at e;delta hU;dsimp![fo];cases q:a==k with
   |true=>
    replace e:=(q)▸e;injection e with f;subst f;have:(m7 k t).isStr a=true:=by simp![jI];rw[Wb]at q⊢;rwa[q.symm]
    rw[this];rwa[m_12 v rfl hv]
   |false=>
    rw[q]at e;have:(m7 k t).isStr a=false:=by simp![jI];rw[WE]at q⊢;rwa[λz=>q z.symm]
    simp![this];erw[x_12 (g hs e) λl b j=>m_12 l ?_ j];unfold hU at b;split at b; ·rename_i c;rwa[(c)▸b]
    ·split at b<;>rwa[nomatch b]
theorem rI.refs:∀{ns:List Str}{xs:List Dat}{es:List Ht},rI F ns xs es->es.any (·.refKey)=false|[],_,_,h=>by cases h;rfl|k::ns,_,_,h=>by cases h with|cons hv hs=>erw[Vn hs.refs ?_];rfl
theorem rI.isLook(h:rI F ns xs es)(a:Str)n:(lookIn a (fY es n)).isSome=true:=by
 show(hU a es).isSome=true;delta hU;split; ·rfl
 ·erw[(h.refs)▸?_];rfl
theorem rI.put{a:Str}(hd:DR F d g):∀{ns:List Str}{xs:List Dat}{es:List Ht},rI F ns xs es->rI F (RG.Internal.put a d ns xs).1 (RG.Internal.put a d ns xs).2 (putL a (kV wG.params a) (.str a t) g es):=by
 revert t;injections _ d F g a;intro;intro;intro c;induction c with
 |nil=>intro _ _ h;cases h;rwa[.cons hd .nil]
 |cons k ns b=>
  intro _ _ h;cases h with
  | @cons _ _ x xs t' v' es hv hs=>
   dsimp![RG.Internal.put,putL];cases q:a==k with
   |true=>
    have:(m7 k t').isStr a=true:=by simp![jI];rw[Wb]at q⊢;rwa[q.symm]
    simp![this,Zq];rwa[.cons hd hs]
   |false=>
    have:(m7 k t').isStr a=false:=by simp![jI];rw[WE]at q⊢;rwa[λz=>q z.symm]
    simp![this,Zv,if_false];rwa[.cons hv (b hs)]
theorem rI.len:∀{ns:List Str}{xs:List Dat}{es:List Ht},rI F ns xs es->es.length=ns.length|[],_,_,h=>by cases h;rfl|k::ns,_,_,h=>by cases h with|cons hv hs=>simp[hs.len]
theorem Ek{a:Str}{d:Dat}:∀{ns:List Str}{xs:List Dat},(RG.Internal.put a d ns xs).1.length<=ns.length+1|[],_=>by dsimp![RG.Internal.put];simp|k::ns,[]=>by dsimp![RG.Internal.put];simp|k::ns,x::xs=>by dsimp![RG.Internal.put];cases a==k with|true=>simp|false=>simp![ar];have:=Ek (a:=a) (d:=d) (ns:=ns) (xs:=xs);rwa[a_1 this]
theorem oX(b:h.get? g=some (oQ m dx))(a:h.get? dx=some (fY es n)):InstAt h g (oQ m dx) m (some (fY es n)):=⟨b,rfl,rfl,a⟩
set_option tactic.hygienic true in theorem Pz{w:World}{K:Frag}{a:Str}{Q:a9 Unit}(X:K.In s.heap)(f:HV K B H)(p:attrOk B a=true)(l:s.heap.get? G=some (oQ H dx))(g:s.heap.get? dx=some (fY es n))(d:(lookIn a (fY es n)).isSome=true)(t:(putL a (kV w.params a) (.str a (s.toks+1)) J es).length<=1000)(h:∀h' u,(∀b,b≠dx->h'.get? b=s.heap.get? b)->h'.objs.size=s.heap.objs.size->h'.get? dx=some (fY (putL a (kV w.params a) (.str a (s.toks+1)) J es) u)->Q () {s with heap:=h',toks:=s.toks+2}):ed (n4 prog w) A (setAttr (.ref G) a J) Q E s:=by
 have I:=oX l g;erw[set_plain X I f.setattr (osa_open (s:={s with toks:=s.toks+1}) X I f.over (by delta takerIn;rw[f.attr a p];rfl) λb=>ba λq=>x_12 (any_some f.has) λv r i=>q ?_)];erw[Vm (Vs (Vm (Vm (Zw l (Vm (af7 X r _ _ _ _ (λY Y e=>e) ?_))))))];rw[i];erw[Vs (a:=some dx) (Vm (Vs (Vm (Vm (Vm (Y3 (Vs (Vm (wpAny_mkText (Vm (Zw g ?_)))))))))))];have m:(!es.toArray.any (·.key.isStr a)&&es.toArray.any (·.refKey))=false:=by
  rw[<-Y4,<-Y4];have d:(hU a es).isSome=true:=d;delta hU at d;split at d; ·rename_i c k;rw[Xu.mpr (m_12 c (Yo k) (Z5 k))];rfl
  ·split at d; ·rwa[gm d]
   ·rename_i z;simp![z,aa6]
 dsimp only;rw[Z0,m];erw[ao6 g ?_];have j:(s.heap.update dx (Obj.putName a (kV w.params a) (.str a (s.toks+1)) J)).get? dx=some (fY (putL a (kV w.params a) (.str a (s.toks+1)) J es) (putN a es n)):=by erw[(WH _ g ?_).trans ?_]<;>rw[putName_dict .. ];rfl
 rwa[Vm (ao7 j (ao9 (by simp![VV,Wr];rwa[a_1 t])) (Vs (h _ _ (λb o=>V6 _ _ (hg o)) (by simp) j)))]
section
structure vH:Prop where
 cls:∀c C,cG c=some C->HV kG c C
 handed:∀f v,fG f=some v->al7 v=true
theorem DR.handed(a:vH)(h:DR F d g):al7 g=true:=by injections d _ F g;cases h<;>first|rfl|rwa[a.handed _ _ ‹_›]
structure CG(F h:Heap)(x:Addr)(c:Str)(ns:List Str)(xs:List Dat)(C dx:Addr)(es:List Ht)n:Prop where
 cls:cG c=some C
 here:h.get? x=some (oQ C dx)
 dict:h.get? dx=some (fY es n)
 its:rI F ns xs es
def Sb(F h:Heap)(r:Str×List Str×List Dat)(c:ea):Prop:=∃x C dx es n,c=.ref x/\CG F h x r.1 r.2.1 r.2.2 C dx es n
theorem w9(I:Inv W σ s.heap)(h:VR W (.cell n) c)(q:σ[n]?=some (.inst t ns xs)):∃p C es m,W.ρ[n]?=some p/\c=.ref p.1/\CG W.F s.heap p.1 t ns xs C p.2 es m:=by erw[CA (P:=λc=>∃p C es m,W.ρ[n]?=some p/\c=.ref p.1/\CG W.F s.heap p.1 t ns xs C p.2 es m) I q (λz=>nomatch z) (λp f i=>ba λg=>?_) c h];cases i with|inst b e a d=>rwa[g ⟨p,_,_,_,f,rfl,b,e,a,d⟩]
theorem qw(I:Inv W σ s.heap)(h:VR W v c)(e:qo σ v=some t):Sb W.F s.heap t c:=by injections σ v _ s W c t;rwa[bO e (λe=>by cases Pp h e with|obj f g l d=>rwa[⟨_,_,_,_,_,rfl,f,I.stays _ _ g,I.stays _ _ l,d⟩]) λe=>om e λq e a=>Eg e λev j=>by rw[ev]at h;rw[<-a];rwa[ba λb=>xY (w9 I h j) λp C j m Y i k=>b (TQ _ _ _ _ _ i k)]]
theorem HW(h:vH)(I:Inv W σ s.heap)(hv:VR W v c):Ref A L X W σ s (getAttr c m ex) (bp v m σ) RV:=by erw[dy λr j=>Ref.grd λi=>Ref.lift λw f=>om f λd e f=>Pe (qw I hv j) λx C p o n b a=>b▸(x_12 (a.its.look e) λv l g=>?_)];have k:=h.cls _ C a.cls;rwa[(f)▸b8 I λQ E q=>get_value I.K (oX a.here a.dict) k.getattr (findObj_own k.has (k.attr m i) rfl l) (g.handed h) (q _ _ g)]
theorem z6(y:vH){a:Str}(I:Inv W σ s.heap)(hv:VR W v c)(hd:DR W.F d e):Ref A L X W σ s (setAttr c a e) (dn v a d σ) λY Y Y Y Y=>True:=by
 erw[dy λr l=>Ref.grd λg=>Eg l λev q=>ba λB=>?_];clear l;subst ev;erw[xY (w9 I hv q) λp C es m G f K=>?_];clear hv;subst f;simp![Vq]at g;erw[B λY Q E D Y=>Pz I.K (y.cls _ _ K.cls) g.1 K.here K.dict (K.its.isLook _ _) ?_ λh' H o J j=>?_]; ·rw[(rI.put (a:=a) (t:=s.toks+1) hd K.its).len];rwa[Vw Ek (Vw (WB (Vu g.2)) #v[])]
 ·have i:=K.here;have M:=K.dict;have k:=(o _ λz=>by simp![z,M]at i;rwa[nomatch i]).trans i;obtain⟨F,w⟩:=I.mutate (h':=h') (X:=X) (o':=.inst r.2.1 (RG.Internal.put a d r.2.2.1 r.2.2.2).1 (RG.Internal.put a d r.2.2.1 r.2.2.2).2) q (λh=>nomatch h) G (λb x Y M e=>(o b M).trans e) λb u=>by rcases u with rfl|rfl;rwa[⟨_,k⟩];rwa[⟨_,j⟩] λn=>.inst K.cls k j (rI.put (hd.mono n) (K.its.mono n));rwa[D () () _ _ {s with heap:=h',toks:=s.toks+2} rfl F w ⟨rfl,rfl,rfl⟩ trivial]
theorem xa{K:Frag}{i:String}{Q:a9 (Option ea)}(X:K.In s.heap)(I:InstAt s.heap m ox t od)(d:kt K (.ref t) w=some (some (.builtin i)))(b:∀a:ea,ai2 (e5 i) a=pure (e5 i,[a]))(h:ed g A (ec (e5 i) (e0 m::args)) (λv=>Q (some v)) E s):ed g A (callSpecialIfBound? (.ref m) w args) Q E s:=by
 erw[VX (Vm (Vm (Vm (I.type.here ((Z1 X d).here ?_)))))];simp![b];erw[Vm (Y3 (wpAny_ite ?_))];have c:ed g A (ec (e5 i) ([e0 m]++args)>>=λv=>pure (some v)) Q E s:=Vm (WI h (λv s' h'=>Vs h') λY Y h'=>h');split; ·rwa[Vm (Vs (Vs c))]
 ·rwa[wpAny_tryCatch (Vm (Vs (Vs c)))]
theorem ym(b:Str)(u:Tok)(l:Addr)(C d:Addr):Meets (Builtin.«str.__ne__» ⟨[.str b u,.ref l],[]⟩) λY R s=>s.heap.get? l=some (oQ C d)/\R (.ok (.ret .notImplemented)) s:=.of_wp λc w A R s h=>by obtain⟨a,h⟩:=h;wp_walk using Ic a,wpAny_load a;rwa[m_12 _ rfl h]
theorem HX(c:ol (n4 prog w) s.heap (nc (e0 g) (Value.type "object")) true)(q:Q .notImplemented s):ed (n4 prog w) A (ec (e5 "object.__eq__") [e0 g,m7 y t]) Q E s:=by have b:isSame (e0 g) (m7 y t)=pure false:=rfl;erw[YB (Yh F.cmp_object.eq.plain F.cmpEntry_eq (am5 F.cmpKind_eq F.cmpSplit_eq c (F.cmpArgs_eq _ _) ?_))];unfold Builtin.«object.__eq__»;erw[Vm (Wc (a:=(e0 g,[m7 y t])) rfl ?_)];dsimp only;rw[b];rwa[Vm (Vs (Vs q))]
theorem call_one{K:Frag}(XK:K.In s.heap)(I:InstAt s.heap g ox m od)(b:kt K (.ref m) "__eq__"=some (some (.builtin "object.__eq__")))(c:A.units+10<ah2)(d:ol (n4 prog w) s.heap (nc (e0 g) (Value.type "object")) true)(q:Q .notImplemented s):ed (n4 prog w) A (ec (e5 "object.__ne__") [e0 g,m7 y t]) Q E s:=by erw[YB (Yh F.cmp_object.ne.plain F.cmpEntry_ne (am5 F.cmpKind_ne F.cmpSplit_ne d (F.cmpArgs_ne _ _) ?_))];unfold Builtin.«object.__ne__»;rwa[Vm (Wc (a:=(e0 g,[m7 y t])) rfl (Vm (wpAny_cRoomFor (show A.units+1<ah2 by rwa[a_1 c]) (Vm (xa (i:="object.__eq__") XK I b (λself=>F.cmp_object.eq.bind self) (HX d (Vs q)))))))]
theorem iN(ok:vH)(I:Inv W σ s.heap)(f:cG g=some m)(e:s.heap.get? w=some (oQ m dx))(hd:∃es n,s.heap.get? dx=some (fY es n))(h:A.units+10<ah2)(Q:a8)(E:a8)(q:Q (.bool true) s):ed MG A (Ho .NotEq (.ref w) (.str y t)) Q E s:=by injections s W σ g m dx Q E _ A y w t;erw[kT hd λes n j=>?_];have k:=ok.cls g m f;have b:=oX e j;show ed _ _ (richCompare .NotEq _ _) _ _ _;erw[VX (Vm (wpAny_cRoomFor (a_1 h) (Vm (b.type.here (Vm (Zr (YA _ _ _) (Vm (Wc (a:=false) ∅ (Vm (Vm (xa (i:="object.__ne__") I.K b k.ne (λself=>F.cmp_object.ne.bind self) (call_one I.K b k.eq h (show∀{M:Model},ol M s.heap (nc (.ref w) (.type "object")) true fromλ{M}=>x_12 (any_some k.over) λcd d c=>b.type.andThen (looks_mroIn I.K (by delta am3;rw[d,Wl,WO (by rw[(by cases q:cd.mro with|nil=>replace c:=(q)▸c;rwa[gm c]|cons _ _=>rfl:cd.mro.isEmpty=false)];decide),only_has c]))) (Vs ?_)))))))))))))];dsimp only;rwa[Vm (wpAny_tryCompare_declines (YA _ _ _) ac8 (Xx ac8 (YA s y t) F.entry_str_ne (F.args_str_ne_2 _ _) (ym y t w m dx) ⟨e,⟨rfl,Vm (Xl (Vm (Vs (Vs q))))⟩⟩))]
end
end
section
open Builtin
section
theorem sW{vs vs':List ea}{p:Addr×Addr}(I:Inv W σ s.heap)(q:σ[n]?=some (.list xs))(i:W.ρ[n]?=some p)(hd:c9 W.F ys vs')(u:DR W.F d B)(z:s.heap.get? p.1=some (cM vs m))(f:Array ea->Array ea)(v:f vs.toArray=vs'.toArray)(h:∀(Q:a8)(E:a8),Q B {s with heap:=s.heap.update p.1 (x7 f)}->ed MG A t Q E s):Ref A L X W σ s t (.ok (V.d d) (σ.set n (.list ys))) RV:=by
 erw[λY Q E o Y=>h Q E ?_];have c:p.2=p.1:=by cases I.cell _ _ p q i λh=>by rwa[nomatch h]with|list e _ _=>rwa[e]
 have a:=am7 (h:=s.heap) (l:=p.1) (items:=vs.toArray) (n:=m) z f;replace a:=(v)▸a;obtain⟨y,g⟩:=I.mutate (h':=s.heap.update p.1 (x7 f)) (X:=X) (o':=.list ys) q (λh=>nomatch h) i (λb x w Y e=>(V6 _ _ (hg w)).trans e) λb j=>by rcases j with rfl|rfl;rwa[⟨_,a⟩];rw[c];rwa[⟨_,a⟩] λk=>.list c a (hd.mono k);rwa[o B _ _ _ {s with heap:=s.heap.update p.1 (x7 f)} rfl y g ⟨rfl,rfl,rfl⟩ (u.mono g.F)]
theorem mh(I:Inv W σ s.heap)(hv:VR W (.cell n) c)(q:σ[n]?=some (.list xs)):∃p vs m,W.ρ[n]?=some p/\c=.ref p.1/\s.heap.get? p.1=some (cM vs m)/\c9 W.F xs vs:=by erw[x_12 hv λp b a=>a▸(ba λf=>?_)];cases I.cell _ _ p q b λh=>by rwa[nomatch h]with|list e d g=>rwa[f (gO p _ _ b rfl d g)]
def Sd(f:ea):oL->Prop|.lappend=>f=.builtin "list.append"|.lextend=>f=.builtin "list.extend"|.lpop=>f=.builtin "list.pop"|.sjoin=>f=.builtin "str.join"|.ssplit=>f=.builtin "str.split"|.bjoin=>f=.builtin "bytes.join"|.dget=>f=.builtin "dict.get"|.user q=>fG q=some f
def HY(mt:oL)(c f:ea)(first:List ea):Prop:=first=[c]/\Sd f mt
theorem c9.strsAre:∀{xs:List Dat}{vs:List ea}{ss:List (List Nat)},c9 F xs vs->nz xs=some ss->StrsAre vs (ss.map cg):=by intro i;induction i with|nil=>intro vs ss h e;simp![h.ni,<-Vp e];rwa[.nil]|cons x xs f=>intro vs ss h e;rwa[qs e λz r g a b=>by erw[fw h.co λw k c h j=>?_];obtain⟨t,d⟩:=bW (W:=⟨F,[]⟩) (v:=.d x) h g;simp![c,d,b];rwa[.cons _ _ (f j a)]]
theorem Fp:∀(l:List (Str×Tok)),∃ss:List (List Nat),ss.map cg=l.map (·.1)/\c9 F (ss.map .str) (strValues l):=by
 intro d;induction d with
 |nil=>rwa[m_12 [] rfl .nil]
 |cons a l b=>
  obtain⟨x,t⟩:=a;erw[x_12 b λss c e=>m_12 (x.cps.toList::ss) ?_ ?_]; ·rw[V3,c];rfl
  ·rwa[.cons .str e]
theorem z7(b:List Nat):∀ss:List (List Nat),Txt.join (cg b) (ss.map cg)=cg (aS b ss):=by intro ss;show Builtin.Str.glued _ _=_;rw[aa2];induction ss with|nil=>rfl|cons x r a=>cases r with|nil=>rfl|cons y r=>show cg x++cg b++Str.join (cg b) ((y::r).map cg)=_;rw[a];rw[nC,nC];rfl
theorem Fq(b:List Nat):∀ss:List (List Nat),((ss.map cg).map (·.length)).sum+(ss.map cg).length*(cg b).length<=(aS b ss).length+b.length:=by intro ss;simp![jr,Vo];induction ss with|nil=>simp|cons x r a=>cases r with|nil=>simp[aS,jr]|cons y r=>simp![(by simp[aS];simp +arith only:(aS b (x::y::r)).length=x.length+b.length+(aS b (y::r)).length)];simp![V3,as4,ar,jr]at a⊢;grind
theorem yn(c:Nat):∀p:List Nat,c∉p->splitOn c p=[p]:=by intro b;induction b with|nil=>rwa[λY=>rfl]|cons x d a=>intro h;dsimp![splitOn];rw[(by have:x≠c:=λe=>h (e▸.head _);rw[WT];rwa[λq=>this (WU q)]:mn x c=false),a λq=>h (.tail _ q)]
theorem z8(c:Nat):∀(p r:List Nat),c∉p->splitOn c (p++c::r)=p::splitOn c r:=by intro b;induction b with|nil=>intro r _;show splitOn c (c::r)=_;unfold splitOn;erw[(Nat.beq_refl c)▸?_];simp only;obtain⟨⟩:=r<;>rfl|cons x d a=>intro r h;show splitOn c (x::(d++c::r))=_;dsimp![splitOn];simp![(by have:x≠c:=λe=>h (e▸.head _);rw[WT];rwa[λq=>this (WU q)]:mn x c=false),a r λq=>h (.tail _ q)]
theorem oY(c:Nat):∀ps:List (List Nat),ps≠[]->(∀p∈ps,c∉p)->splitOn c (aS [c] ps)=ps|[],h,_=>absurd rfl h|[p],_,h=>yn c p (h p (.head _))|p::q::r,_,h=>by show splitOn c (p++[c]++aS [c] (q::r))=_;rw[VA];show splitOn c (p++c::aS [c] (q::r))=_;erw[Vn (z8 c p _ (h p (.head _))) ?_];rw[oY c (q::r) (by simp) λz a=>h z (.tail _ a)]
theorem z9(x:List Nat)c(f:List (List Nat))(e:f.map cg=Txt.split (cg x) (cg [c])):f=splitOn c x:=by
 have a:Str.join (cg [c]) (f.map cg)=cg x:=(e)▸StrLaws.join_split _ _
 simp![<-show aS [c] f=x from by rw[<-aa2]at a;have:=z7 [c] f;unfold Txt.join at this;rw[this]at a;have:=VT (λz:Str=>z.cps.toList) a;rwa[this],oY c f λb=>by have:=split_pos (cg x) (cg [c]);rw[<-e,b]at this;trivial λp d=>by have:=StrLaws.split_free (cg x) c (cg p) (by rw[<-show cg [c]=⟨#[c]⟩from rfl,<-e];rwa[List.mem_map_of_mem d]);rwa[this]]
end
end
section
open Builtin
theorem sX:Slot "bytes" "join" "bytes.join":=.of (owner:="bytes") (n:="join") ∅ ⋯ ⋯ ⋯ (by first|rwa[.inl (by rfl+kernel)]|rwa[.inr ⋯]) ∅
theorem CH:aj2 (.builtin "bytes.join")=pure (.type "method_descriptor"):=∅
theorem Aa:entryFor PySem.table "bytes.join"=some Builtin.«bytes.join» :=ap0 ∅
theorem CI(a b:ea):argsOk "bytes.join" ⟨[a,b],[]⟩:=by kernel_rfl
theorem HZ{f:Nat->β->Sem (ForInStep β)}{Q:a9 β}(I:Nat->a9 β)(b:∀i w s',i<n->I i w s'->ed t A (f i w) (λr g=>∃p,r=.yield p/\I (i+1) p g) E s')(k:∀w s',I n w s'->Q w s')(h:I 0 w s):ed t A (forIn [:n] w f) Q E s:=by
 rw[Std.Legacy.Range.forIn_eq_forIn_range'];rw[(by simp[Std.Legacy.Range.size]:([:n]:Std.Legacy.Range).size=n)];erw[wpAny_forIn_list f (λl w s'=>∃i,i<=n/\l=List.range' i (n-i) 1/\I i w s') Q ?_ ?_ _ w (ia 0 (WK _) rfl h)]
 ·rintro x rest w s'⟨i,o,a,m⟩;have d:i<n:=by
   rcases ad7 i n with c|c; ·rwa[c]
   ·rw[show n-i=0 by lia]at a;contradiction
  rw[show n-i=n-(i+1)+1 by omega,ap4]at a;obtain⟨rfl,rfl⟩:=XH a;rwa[WI (b x w s' d m) (λr g⟨p,e,j⟩=>(e)▸ia (x+1) d rfl j) λY Y e=>e]
 ·rintro w s'⟨i,o,a,m⟩;have:i=n:=by
   rcases ad7 i n with c|c; ·rw[show n-i=n-(i+1)+1 by omega,ap4]at a;rwa[L1 a]
   ·rwa[Zi (a_1 o) (a_1 c)]
  clear a;clear o;cases this;rwa[k w s' m]
theorem Fs:Bytes.takeBufferQuiet? g (.bytes b t) 0=pure (some (b,none)):=by kernel_rfl
theorem jX{Q:a9 Unit}:∀{l:List (ea×Option ea)},(∀p∈l,p.2=none)->Q () s->ed g A (Bytes.joinLetGo l m) Q E s
|[],_,h=>Vs h
|(x,none)::r,b,h=>by erw[Vm ?_];first|rwa[YC (jX (λp c=>b p (.tail _ c)) h)]|rwa[Vs (Vm (YC (jX (λp c=>b p (.tail _ c)) h)))]
|(x,some y)::r,b,h=>absurd (b _ (.head _)) (λe=>k_sn e)
theorem CJ(l:List (Array UInt8)):Bytes.joined #[] l=(l.map (·.toList)).flatten.toArray:=by
 dsimp![Bytes.joined];have:∀(l:List (Array UInt8))k(c:Array UInt8),ag7 (λa(x:Array UInt8×Nat)=>(if x.2>0 then a++#[]else a)++x.1) c (l.zipIdx k)=c++(l.map (·.toList)).flatten.toArray:=by
  intro l;induction l with
  |nil=>intro k c;rfl
  |cons x r b=>
   intro k c;simp![ZP];dsimp![hM];rw[b];have e:c++x++(ON (λx=>x.toList) r).flatten.toArray=c++(x.toList++(ON (λx=>x.toList) r).flatten).toArray:=by apply Array.ext';simp
   split; ·rwa[e]
   ·rwa[e]
 rw[this];simp
theorem yo(l:List (Array UInt8×Tok)):(l.map λp=>(wx p.1 p.2,(none:Option ea))).any (·.1.onHeap)=false:=by rw[List.any_eq_false];erw[λx b=>x_12 (VI.mp b) λp Y a=>?_];clear b;subst a;rwa[Bool.false_ne_true]
theorem Ab(l:List (Array UInt8)):∀k:Nat,ag7 (λ(c:Nat)(b:Array UInt8)=>c+b.size) k l=k+(l.map (·.toList)).flatten.length:=by induction l with|nil=>intro k;trivial|cons x r a=>intro k;simp![hM];rw[a];simp;simp +arith only
theorem jm.{u}(c:Array ea->Sort u)(d:Array ea)(b:(x:ea)->c #[x])(a:(x:Array ea)->c x)(h:d.size≠1):ag6 c d b a=a d:=by
 delta ag6;split; ·rename_i q;rwa[absurd q h]
 ·rfl
theorem CK(t:Tok)(l:Addr)(b:List (Array UInt8×Tok))n(o:((b.map (·.1.toList)).flatten).length<=af0):Meets (Builtin.«bytes.join» ⟨[.bytes #[] t,.ref l],[]⟩) (λY R s=>s.heap.get? l=some (cM (b.map λp=>wx p.1 p.2) n)/\∀B k,R (.ok (.ret (.bytes ((b.map (·.1.toList)).flatten).toArray B))) {s with toks:=k}):=by
 injections t l b n;erw[.of_wp λv w A R s⟨f,h⟩=>Vm (Wc (a:=(wx #[] t,e0 l)) rfl (Vm (Vm (Zr (T:="list") (m_12 _ f rfl) (Vs (Vm (WL f rfl ?_)))))))];dsimp only;rw[WG (show(Bytes.Kind.bytes==Bytes.Kind.bytes)=true from rfl)];by_cases m:b.length=1; ·erw[ba λg=>?_];obtain⟨p,rfl⟩:=List.length_eq_one_iff.mp m;erw[g (Vm (Zr (XE _ _ _) (Vm (Xl (Vs (m_12 _ rfl ?_))))))];rw[(by simp:(ON (λx:Array UInt8×Tok=>x.1.toList) [p]).flatten.toArray=p.1)]at h;rwa[h p.2 s.toks]
 ·rw[jm _ _ _ _ (by simpa using m)];erw[Vm (HZ (λi c u=>u=s/\c=(((b.take i).map (·.1)).toArray,(b.take i).map λp=>(wx p.1 p.2,none))) (λi c u z j=>?_) (λc u j=>?_) ⟨rfl,rfl⟩)]
  ·obtain⟨rfl,rfl⟩:=j;have e:i<b.length:=by simpa using z
   erw[Vm (WL f rfl ?_)];have C:(ON (λp:Array UInt8×Tok=>wx p.1 p.2) b).toArray.getD i .none=wx b[i].1 b[i].2:=by simp[Array.getD,e]
   dsimp only;rw[WO (by rw[yo];decide),C];erw[Vm (VX ?_)];rw[Fs];erw[Vs (Vm (WL f rfl ?_))];dsimp only;rw[WO (by simp)];erw[Vs (ia _ rfl rfl ?_)];simp![List.take_succ_eq_append_getElem e,VE,VE];simp
  ·erw[ba λg=>?_];obtain⟨rfl,rfl⟩:=j;erw[g (Vm (Wc (a:=(#[]:Array UInt8)) rfl ?_))];rw[Wa (by simp)];rw[((by simp![List.foldl_toArray,Ab];simp[VQ,ao4]:Array.foldl (λ(D:Nat)(y:Array UInt8)=>D+y.size) ((#[]:Array UInt8).size*((ON (λx:Array UInt8×Tok=>x.1) b).toArray.size-1)) (ON (λx:Array UInt8×Tok=>x.1) b).toArray=((b.map (·.1.toList)).flatten).length)),WO (by delta Bytes.tooLong;simpa using o)];rw[((by rw[CJ];simp[VQ,ao4]:Bytes.joined #[] (ON (λx:Array UInt8×Tok=>x.1) b).toArray.toList=((b.map (·.1.toList)).flatten).toArray))];erw[Vm (wpAny_mkBytes (Vm (VX (wpAny_point (Vm (jX (λp r=>?_) ?_))))) (o))]; ·erw[x_12 (VI.mp r) λq Y d=>d▸?_];rfl
   ·rwa[Vs (m_12 _ rfl (h _ _))]
section
noncomputable def jY(W:St):List V->List ea->Prop|[],[]=>True|v::vs,c::cs=>VR W v c/\jY W vs cs|_,_=>False
theorem jY.step(S:Step W σ h W' σ' h' X):∀{vs:List V}{cs:List ea},jY W vs cs->jY W' vs cs:=by
 intro g;induction g with
 |nil=>intro e;cases e with|nil=>rwa[λY=>trivial]|cons _ _=>rwa[λh=>h.elim]
 |cons _ _ f=>intro d;cases d with|nil=>rwa[λh=>h.elim]|cons _ _=>intro c;obtain⟨a,b⟩:=c;rwa[⟨a.step S,f b⟩]
theorem iD(h:jY W vs cs)(e:kI vs=some g):∃c,cs=[c]/\VR W g c:=by
 rcases vs with _|⟨v,_|⟨u,r⟩⟩; ·rwa[nn e]
 ·rcases cs with _|⟨c,_|⟨b,a⟩⟩; ·rwa[h.elim]
  ·rwa[m_12 c rfl (Vp e▸h.1)]
  ·rwa[h.2.elim]
 ·rwa[nn e]
theorem H0(h:jY W vs cs)(e:gp vs=true):cs=[]:=by
 rcases vs with _|⟨v,r⟩
 ·rcases cs with _|⟨c,a⟩; ·rfl
  ·rwa[h.elim]
 ·rwa[ff e]
theorem H1:∀{xs:List Dat}{vs:List ea}{ss:List (List UInt8)},c9 F xs vs->L6 xs=some ss->∃a:List (Array UInt8×Tok),vs=a.map (λp=>wx p.1 p.2)/\a.map (·.1.toList)=ss:=by intro k;induction k with|nil=>intro vs _ h e;rwa[m_12 [] h.ni (Vp e)]|cons x xs g=>intro vs ss h e;rwa[qs e λz r j b c=>by erw[fw h.co λw n d h l=>?_];obtain⟨t,f⟩:=fC (W:=⟨F,[]⟩) (v:=.d x) h j;rwa[x_12 (g l b) λa i m=>m_12 ((z.toArray,t)::a) (by simp![d,f,i];rfl) (by simp![c,V3,m])]]
theorem list_dict(e:h.get? a=some (cM vs n)):∀b,e0 a=.ref b->∃o,h.get? b=some o/\o.dict=none:=λb q=>by injection q with c;subst c;rwa[m_12 _ e rfl]
theorem gR(h:pick m ((g,t)::w)=some B):m=g/\B=t\/pick m w=some B:=by
 dsimp![pick]at h;split at h; ·rename_i e;rwa[.inl ⟨Wb.mp e,(Vp h).symm⟩]
 ·rwa[.inr h]
structure Th(meths:Str->Str->Option Str):Prop where
 meth:∀c C m q,cG c=some C->meths c m=some q->∃f,fG q=some (.ref f)/\kt kG (.ref C) m=some (some (.ref f))/\ah8 kG (.ref f)=some (.type "function")/\attrOk c m=false
theorem rI.missing:∀{ns:List Str}{xs:List Dat}{es:List Ht},rI F ns xs es->ns.contains g=false->hU g es=some none
|[],_,_,h,_=>by cases h;rfl
|k::ns,_,_,h,e=>by
 cases h with
 | @cons _ _ x xs t v es hv hs=>
  rw[List.contains_cons,Yg]at e;have b:=hs.missing e.2;have:(m7 k t).isStr g=false:=by simp![jI];rw[WE];rwa[λz=>(WE.mp e.1) z.symm]
  unfold hU at b⊢;dsimp![fo];simp![this]at*;split at b; ·rwa[absurd b nofun]
  ·rename_i c;rw[c];rwa[b]
theorem CL(B:vH)(l:Th meths){P:jS}(w:P.meths=meths)(I:Inv W σ s.heap)(hv:VR W v c)(h:dO P m v σ=some mt){Q:ea×List ea->eN->Prop}(q:∀f first,HY mt c f first->Q (f,first) s):ed MG A (getMethod c m L) Q E s:=by
 injections meths P I hv h _ A mt s W σ v c E m L Q;subst w;erw[bO h (λh=>ob h λz o h=>?_) λh=>bO h (λh=>ob h λz o h=>?_) λh=>bO h (λh=>ob h λr j g=>?_) λh=>bO h (λh=>ob h λr j h=>?_) λh=>ob h λr j h=>?_]
 ·obtain⟨t,rfl⟩:=bW hv o;rcases gR h with⟨d,b⟩|h; ·rw[d];rwa[GM.join (q _ _ (b▸⟨rfl,rfl⟩))]
  ·rcases gR h with⟨d,b⟩|h; ·rw[d];rwa[GM.split (q _ _ (b▸⟨rfl,rfl⟩))]
   ·rwa[nn h]
 ·obtain⟨t,rfl⟩:=fC hv o;rcases gR h with⟨d,b⟩|h; ·rw[d];rwa[Yb (XE _ _ _) FB.plainAttrs_bytes sX CH (λY e=>nomatch e) (q _ _ (b▸⟨rfl,rfl⟩))]
  ·rwa[nn h]
 ·erw[l8 j λev e=>?_];subst ev;obtain⟨p,S,k,J,rfl,i,O⟩:=mh I hv e;rcases gR g with⟨d,b⟩|g; ·rw[d];rwa[Yb ⟨_,i,rfl⟩ YD ZQ type_list_append (list_dict i) (q _ _ (b▸⟨rfl,rfl⟩))]
  ·rcases gR g with⟨d,b⟩|g; ·rw[d];rwa[Yb ⟨_,i,rfl⟩ YD F.slot_list_extend F.type_list_extend (list_dict i) (q _ _ (b▸⟨rfl,rfl⟩))]
   ·rcases gR g with⟨d,b⟩|g; ·rw[d];rwa[Yb ⟨_,i,rfl⟩ YD F.slot_list_pop F.type_list_pop (list_dict i) (q _ _ (b▸⟨rfl,rfl⟩))]
    ·rwa[nn g]
 ·obtain⟨a,f,N,rfl,hd⟩:=jH I hv j;rcases gR h with⟨d,b⟩|h; ·rw[d];rwa[Yb hd.map.typeIs PySem.F.plainAttrs_dict F.slot_dict_get F.type_dict_get hd.map.noDict (q _ _ (b▸⟨rfl,rfl⟩))]
  ·rwa[nn h]
 ·erw[d8 h λu h=>om h λH d G=>?_];obtain⟨x,C,R,M,n,rfl,K⟩:=qw I hv j;obtain⟨f,b,D,y,_⟩:=l.meth _ _ _ _ K.cls d;have k:=B.cls _ _ K.cls;erw[method_fn I.K (oX K.here K.dict) k.getattr k.hook D y ?_ (q _ _ (G▸⟨rfl,b⟩))];show(hU m M).map _=_;rw[K.its.missing (by rw[Wn]at u;rwa[u])];rfl
theorem c9.last{a:List ea}(h:c9 F xs a)(e:xs.getLast?=some d):∃v,a.getLast?=some v/\DR F d v:=by rw[Yp]at e⊢;rwa[(h.length)▸h.get e]
theorem c9.dropLast{a:List ea}(h:c9 F xs a):c9 F xs.dropLast a.dropLast:=by simp![YW,YW,h.length];rwa[h.take _]
theorem CM(a:List ea):a.toArray.eraseIdxIfInBounds (a.toArray.size-1)=a.dropLast.toArray:=by
 delta Array.eraseIdxIfInBounds;split; ·rename_i h;apply Array.ext';erw[Vn Array.toList_eraseIdx ?_];simp![VV]at h⊢;rw[YW,List.eraseIdx_eq_take_drop_succ,Xp (a_1 (Uh a.length 1)),VC]
 ·rename_i h;have:a=[]:=by cases a with|nil=>rfl|cons v a=>simp at h
  subst this;rfl
theorem Ft{x:Str}(e:(y.length==0)=false)(d:∀l k,l.map (·.1)=Txt.split x y->Q (.ref s.heap.objs.size) {s with heap:=s.heap.push (cM (strValues l) 0),toks:=k})(b:x.length+2<=af0):ed (n4 prog w) A (ec (.builtin "str.split") [.str x t,.str y u]) Q E s:=by
 cases a:decide (x.length<y.length)||decide (al3 x<al3 y)
 ·cases c:(Builtin.Str.occurrences x y 0 x.length (x.length+1)).isEmpty; ·erw[Xx ZR (YA _ _ _) ZI (Zx _ _) (meets_str_split_sep x y t u a e c (Vw (VW _ _) b) (Vw (by rw[len_partsBetween];have:=StrLaws.occ_length_le x y 0 x.length (x.length+1);rwa[a_1 this]) b)) ?_];rw[strsFrom_eq];rwa[d (numbered s.toks _) _ ((numbered_texts _ _).trans ((WO (Zp a)).trans (WO (Zp c))).symm)]
  ·rwa[Xx ZR (YA _ _ _) ZI (Zx _ _) (meets_str_split_not_found x y t u a e c) (d [(x,t)] s.toks ((WO (Zp a)).trans (WG c)).symm)]
 ·rwa[Xx ZR (YA _ _ _) ZI (Zx _ _) (meets_str_split_cannot_occur x y t u a) (d [(x,t)] s.toks (WG a).symm)]
section
variable(I:Inv W σ s.heap)(hv:VR W v c)(hs:jY W vs cs)
include I hv hs
theorem Fu:Ref A L X W σ s (ec (.builtin "list.append") (c::cs)) (d5 .lappend v vs user σ) RV:=by erw[dy λx ex=>x_12 (iD hs ex) λy i f=>?_];rw[i];erw[Ref.frz I f λd σ' W' b g hd=>dy λr h=>Ref.grd λl=>l8 h λev e=>x_34 (mh b (ev▸hv.step g) e) λp vs' k j q a hs=>?_];rw[q];erw[sW (p:=p) (vs:=vs') (vs':=vs'++[y]) b e j (hs.snoc hd) .none a (λz=>z.push y) (List.push_toArray _ _) λQ E q=>Xx ZQ ⟨_,a,rfl⟩ an2 (ap1 _ _) (list_append _ _ _ _ ?_) ⟨a,q⟩];rw[<-oS,VV,hs.length];rwa[Vu l]
theorem Fv:Ref A L X W σ s (ec (.builtin "list.extend") (c::cs)) (d5 .lextend v vs user σ) RV:=by
 erw[dy λx ex=>dy λys i=>dy λr j=>Ref.grd λo=>l8 j λev e=>x_12 (iD hs ex) λy m h=>?_];rw[m];erw[x_34 (mh I (ev▸hv) e) λp vs' k n q a f=>?_];rw[q];erw[bw (di I h i) λb t u l g hd=>?_];rw[l];have d:vs'.toArray.size+t.toArray.size<=af0:=by rw[<-oS,VV,VV,f.length,hd.length];rwa[Vu o]
 rwa[sW (p:=p) (vs:=vs') (vs':=vs'++t) I e n (f.append hd) .none a (λy=>y++t.toArray) (Zo _ _) λQ E q=>Xx PySem.F.slot_list_extend ⟨_,a,rfl⟩ PySem.F.entry_list_extend (PySem.F.args_list_extend_2 _ _) (AutoSeq1.list_extend_list_list_0 _ _ _ _ _ _ (extend_door d) (Vw (VW _ _) d)) ⟨a,g,q⟩]
theorem PA:Ref A L X W σ s (ec (.builtin "list.pop") (c::cs)) (d5 .lpop v vs user σ) RV:=by
 erw[Ref.grd λg=>dy λr h=>Ref.grd λj=>dy λd hd=>l8 h λev e=>?_];rw[H0 hs g];erw[x_34 (mh I (ev▸hv) e) λp vs' k i q b hs=>x_12 (hs.last hd) λy f a=>?_];rw[q];erw[sW (p:=p) (vs:=vs') (vs':=vs'.dropLast) I e i hs.dropLast a b (λxs=>xs.eraseIdxIfInBounds (vs'.toArray.size-1)) (CM vs') λQ E q=>Xx PySem.F.slot_list_pop ⟨_,b,rfl⟩ PySem.F.entry_list_pop (PySem.F.args_list_pop_1 _) (MeetsSeq.list_pop_last _ _ _ y ?_ ?_) ⟨b,q⟩]; ·rw[Yp]at f;simpa using f
 ·rw[<-oS,VV,hs.length];rwa[Vu j]
theorem H2:Ref A L X W σ s (ec (.builtin "str.join") (c::cs)) (d5 .sjoin v vs user σ) RV:=by erw[dy λx p=>dy λm o=>dy λn e=>ei λg=>ob e λu l f=>x_12 (iD hs p) λy j d=>?_];rw[j];obtain⟨t,i⟩:=bW hv o;rw[i];erw[bw (di I d l) λb z r h a hd=>?_];rw[h];erw[b8 I λQ E q=>join_list (ys:=n.map cg) ⟨_,a,rfl,_,rfl⟩ (hd.strsAre f) (Vw (Fq m n) g) λw k=>?_];rw[z7];rwa[q _ _ .str]
theorem H3:Ref A L X W σ s (ec (.builtin "bytes.join") (c::cs)) (d5 .bjoin v vs user σ) RV:=by erw[dy λx u=>dy λz r=>Ref.grd λm=>dy λF e=>ei λd=>ob e λB p i=>x_12 (iD hs u) λy o f=>?_];rw[o];obtain⟨t,n⟩:=fC hv r;rw[n];erw[bw (di I f p) λb D w l a hd=>x_12 (H1 hd i) λg h j=>?_];rw[l];rw[List.isEmpty_iff.mp m];rw[h]at a;rw[<-j]at d⊢;rwa[b8 I λQ E q=>Xx sX (XE _ _ _) Aa (CI _ _) (CK _ _ g _ (by rw[Wr];rwa[d])) ⟨a,λC k=>q _ _ .bytes⟩]
theorem Fw:Ref A L X W σ s (ec (.builtin "str.split") (c::cs)) (d5 .ssplit v vs user σ) RV:=by erw[dy λx B=>dy λz o=>dy λp r=>ei λh=>ob r λf n d=>x_12 (iD hs B) λy m a=>?_];rw[m];obtain⟨t,i⟩:=bW hv o;rw[i];obtain⟨u,g⟩:=bW (v:=.d f) (Ee a n) (Ej d);rw[g];erw[cI I λQ E q=>Ft (by rfl) (λl k e=>x_12 (Fp (F:=(grown W s.heap (s.heap.push (cM (strValues l) 0))).F) l) λC j w=>q _ _ k (λb D e=>Vr _ e) ?_) (by rw[Wr,jr];rwa[h])];rw[<-z9 z p C (j.trans e)];rwa[.list (gQ (bb _) (VH _ rfl)) w]
theorem Ml:Ref A L X W σ s (ec (.builtin "dict.get") (c::cs)) (d5 .dget v vs user σ) RV:=by erw[dy λx n=>dy λr g=>dy λk m=>x_12 (iD hs n) λy l b=>?_];rw[l];erw[fi (jH I hv g) λa f o j h=>?_];rw[j];obtain⟨u,i⟩:=bW b m;rw[i];erw[b8 I λQ E q=>call_meetsIn F.slot_dict_get h.map.typeIs F.entry_dict_get (F.args_dict_get_2 _ _) (meets_dict_get (strKind _ _) _ (Zu _ _ _ _) h.sys) ⟨f,h.map,q _ _ ?_⟩];show DR W.F ((bS k r.1 r.2).getD .none) ((f (cg k)).getD .none);cases e:bS k r.1 r.2 with|none=>rw[h.no k e];rwa[.none]|some d=>rw[h.sm k d e];rwa[h.vl k d e]
theorem Ac(b:HY mt c g first)(U:∀q g vs cs,fG q=some g->jY W vs cs->Ref A L X W σ s (ec g cs) (user q vs σ) RV):Ref A L X W σ s (ec g (first++cs)) (d5 mt v vs user σ) RV:=by erw[b.1▸?_];have a:=b.2;cases mt with|lappend=>rwa[a▸Fu I hv hs]|lextend=>rwa[a▸Fv I hv hs]|lpop=>rwa[a▸PA I hv hs]|sjoin=>rwa[a▸H2 I hv hs]|bjoin=>rwa[a▸H3 I hv hs]|ssplit=>rwa[a▸Fw I hv hs]|dget=>rwa[a▸Ml I hv hs]|user q=>rwa[U _ _ _ _ a ⟨hv,hs⟩]
end
end
end
section
open PyProof.Rows.LSm Builtin
structure Se:Prop where
 len:fG `len=some (.builtin "len")
 abs:fG `abs=some (.builtin "abs")
 sum:fG `sum=some (.builtin "sum")
 all:fG `all=some (.builtin "all")
 isi:fG `isinstance=some (.builtin "isinstance")
 int:fG `int=some (.type "int")
 str:fG `str=some (.type "str")
 list:fG `list=some (.type "list")
 tuple:fG `tuple=some (.type "tuple")
 bytes:fG `bytes=some (.type "bytes")
 dict:fG `dict=some (.type "dict")
section
theorem c9.ints:∀{xs:List Dat}{vs:List ea}{ks:List Int},c9 F xs vs->yd xs=some ks->IntsAre vs ks:=by intro i;induction i with|nil=>intro vs ks h e;simp![h.ni,<-Vp e];rwa[.nil]|cons x xs f=>intro vs ks h e;rwa[qs e λz r g a b=>by erw[fw h.co λw k c h j=>?_];obtain⟨t,d⟩:=cN (W:=⟨F,[]⟩) (v:=.d x) h g;rw[c];simp![d,b];rwa[.cons _ _ (f j a)]]
theorem c9.boolsAre:∀{xs:List Dat}{vs:List ea}{ks:List Bool},c9 F xs vs->wZ xs=some ks->BoolsAre vs ks:=by intro g;induction g with|nil=>intro vs ks h e;simp![h.ni,<-Vp e];rwa[.nil]|cons x xs a=>intro vs ks h e;rwa[qs e λz r c b d=>by erw[fw h.co λw j f h i=>?_];rw[f];simp![HE (W:=⟨F,[]⟩) (v:=.d x) h c,d];rwa[.cons _ (a i b)]]
theorem PB(h:n<=16777216):(n:Int)<2^63:=by lia
theorem Mm(I:Inv W σ s.heap)(hv:VR W v c)(h:Hs v σ=some d):Ref A L X W σ s (ec (.builtin "len") [c]) (.ok d σ) RD:=by
 erw[bO h (λh=>ob h λz i h=>?_) λh=>bO h (λh=>ob h λz i h=>?_) λh=>ob h λk b h=>?_];all_goals obtain⟨b,e⟩:=eD h;rw[<-e]
 ·obtain⟨t,rfl⟩:=bW hv i;rwa[dd I λQ E q=>PySem.P.len_str (Int.not_le.mpr (PB b)) (q _ _)]
 ·obtain⟨t,rfl⟩:=fC hv i;rwa[dd I λQ E q=>PySem.W.len_bytes (Vw b #v[]) (q _ _)]
 ·erw[bw (k9 I hv ‹_›) λa l n g f j=>?_];clear hv;subst g;rw[<-j.length]at b⊢;rwa[f.elim (λf=>dd I λQ E q=>Calls.call_len_list ⟨_,f,rfl,_,rfl⟩ (PB b) (q _ _)) λf=>dd I λQ E q=>len_tuple ⟨_,f,rfl,_,rfl⟩ (PB b) (q _ _)]
theorem Mn{i:Int}(I:Inv W σ s.heap):Ref A L X W σ s (ec (.builtin "abs") [.int i t]) (.ok (.int i.natAbs) σ) RD:=dd I λQ E q=>call_abs_int λu a=>by
 have:(if i<0 then-i else i)=(i.natAbs:Int):=by split<;>grind
 rwa[(this)▸q _ _]
theorem Mo(j:A.handled=none)(I:Inv W σ s.heap)(hv:VR W v c)(h:((listOf σ v).bind λxs=>(yd xs).map λks=>Dat.int ks.sum)=some d):Ref A L X W σ s (ec (.builtin "sum") [c]) (.ok d σ) RD:=by erw[ob h λxs k h=>om h λks m e=>(am e)▸(bw (di I hv k) λa w n b l g=>b▸?_)];have p:=g.ints m;obtain⟨o,f⟩:=p.allInts.items;rwa[cI I λQ E q=>sum_intListG j (f▸⟨_,l,rfl,_,rfl⟩:s.heap.IsList a (intItems o)) λr u t i=>((show preSum (numAt o) o.size=ks.sum from by rw[preSum_eq,Wa (by simp),(show ks=o.toList.map (·.1)from by rw[<-nums_intItems,<-f];rwa[(p.numsOf).symm])]))▸q _ _ _ i .int]
theorem Mp(w:A.handled=none)(I:Inv W σ s.heap)(hv:VR W v c)(h:((listOf σ v).bind λxs=>(wZ xs).map λks=>Dat.bool (ks.all id))=some d):Ref A L X W σ s (ec (.builtin "all") [c]) (.ok d σ) RD:=by
 injections X d W σ v c L _ A s;erw[ob h λxs y h=>om h λks z e=>?_];rw[<-e];erw[ba λt=>bw (di I hv y) λa C n g o p=>?_];clear hv;subst g;have k:=p.boolsAre z;have m:s.heap.IsList a C.toArray:=⟨_,o,rfl,_,rfl⟩;erw[t (cI I λQ E q=>call_all_walk (YJ m ⟨s.heap.objs.size,[s.heap.objs.size,a],[s.heap.objs.size],C.toArray.size,_,_,λi=>(ks[i]?).getD true,rfl,Walks.list (A:=A.in1) w _ a (Yl (Wm o)) C.toArray,⟨ia _ (VH _ rfl) rfl rfl,m.push _⟩,λi v H F B r l=>?_,λD G u=>?_⟩))]; ·erw[x_12 (k.get i v (by simpa using r)) λb e j=>(j)▸?_];simp![e,Y0]at l;rwa[W6 l]
 ·rwa[(show((eg C.toArray.size).all λi=>(ks[i]?).getD true)=ks.all id from by
   rw[VV,(by
    have:∀{C:List ea}{f:List Bool},BoolsAre C f->C.length=f.length:=by intro C f h;induction h with|nil=>rfl|cons _ _ x=>simp[x]
    rwa[this k]:C.length=ks.length)];rwa[range_all ks])▸q _ _ _ (kept_iter u) .bool]
theorem H4(I:Inv W σ s.heap)(hv:VR W v c)(h:((m9 σ v).bind λxs=>within xs.length (Dat.list xs))=some d):Ref A L X W σ s (ec (.type "list") [c]) (.ok d σ) RD:=by
 erw[ob h λxs o h=>?_];obtain⟨p,e⟩:=eD h;rw[<-e];erw[ba λm=>bw (k9 I hv o) λa vs n i f j=>?_];clear hv;subst i;erw[m (cI I λQ E q=>?_)];have g:∀r t,(∀b o',s.heap.get? b=some o'->r.get? b=some o')->r.get? s.heap.objs.size=some {cls:=.type "list",dict:=none,data:=.seq vs.toArray t,slots:=#[]}->Q (.ref s.heap.objs.size) {s with heap:=r}:=λr t k e=>q _ _ s.toks k (.list (vs:=vs) (n:=t) (gQ (bb _) e) (j.mono (I.grow k).1));have l:vs.toArray.size<=af0:=by simp![Wr];simpa[j.length]using p
 rcases f with f|f; ·rwa[call_list_seq a (.inl rfl) f rfl rfl g l]
 ·rwa[call_list_seq a (.inr rfl) f rfl rfl g l]
theorem Fx(I:Inv W σ s.heap)(hv:VR W v c)(h:((listOf σ v).bind λxs=>within xs.length (Dat.tuple xs))=some d):Ref A L X W σ s (ec (.type "tuple") [c]) (.ok d σ) RD:=by erw[ob h λxs i h=>?_];obtain⟨l,e⟩:=eD h;rw[<-e];erw[bw (di I hv i) λa vs n f j g=>f▸(cI I λQ E q=>call_tuple_list ⟨_,j,rfl,_,rfl⟩ (λh' k=>?_) (by simp![Wr];simpa[g.length]using l))];have o:∀b m,s.heap.get? b=some m->(h'.push (dA vs 0)).get? b=some m:=λb m e=>Vr _ (k b m e);rwa[q _ _ s.toks o (.tuple (vs:=vs) (n:=0) (gQ (zU k) (VH _ rfl)) (g.mono (I.grow o).1))]
theorem PC:∀{ks:List Int}{f:List UInt8},ye ks=some f->(∀n∈ks,0<=n/\n<256)/\byteArr ks=f.toArray/\f.length=ks.length:=by
 intro o;induction o with
 |nil=>intro _ e;injection e with i;rwa[i▸(m_03 (λY h=>k_mn h) rfl rfl)]
 |cons k r j=>
  intro f e;dsimp![ye]at e;split at e
  ·rename_i h;simp![Vq,Vx]at h;erw[x_12 (Ww.mp e) λm l d=>d▸(mL (j l) λa b c=>m_03 (λn g=>?_) ?_ (by simp[c]))]
   ·clear d;rcases VD.mp g with rfl|g; ·rwa[h]
    ·rwa[a n g]
   ·unfold byteArr at b⊢;erw[(V3)▸?_];have:=VT Array.toList b;simp only at this;rw[this]
  ·rwa[k_nn e]
theorem sY(o:A.handled=none)(I:Inv W σ s.heap)(hv:VR W v c)(h:((listOf σ v).bind λxs=>(yd xs).bind λks=>(ye ks).bind λb=>within b.length (Dat.bytes b))=some d):Ref A L X W σ s (ec (.type "bytes") [c]) (.ok d σ) RD:=by erw[ob h λxs p h=>ob h λks u h=>ob h λb l h=>?_];obtain⟨j,e⟩:=eD h;rw[<-e];erw[ba λi=>bw (di I hv p) λa C n f r g=>?_];clear hv;subst f;erw[mL (PC l) λz x y=>?_];have w:=g.ints u;rwa[i (cI I λQ E q=>call_bytes_ints ⟨_,r,rfl,_,rfl⟩ w z (by simp![Wr,w.length,<-y];rwa[j]) o λB t k m=>(x)▸q _ _ _ m .bytes)]
theorem Ad(b:short g=true)(I:Inv W σ s.heap):Ref A L X W σ s (ec (.type "str") [.int g t]) (.ok (.str (sp g)) σ) RD:=by
 rwa[oU I λQ E q=>PySem.P.str_of_int (by
  by_cases a:g.natAbs=0; ·rw[a];decide
  ·have:g.natAbs.log2<64:=(af6 a).mpr (k8 b);rwa[a_1 this]) (by have:=q s.toks (s.toks+1);rwa[this])]
theorem Ae(I:Inv W σ s.heap):Ref A L X W σ s (ec (.type "str") [.str (cg g) t]) (.ok (.str g) σ) RD:=oU I λQ E q=>PySem.P.str_of_str (q t s.toks)
end
end
section
open Builtin
theorem sZ:qu (.type "bytes") "__bytes__"=pure (some (.builtin "bytes.__bytes__")):=∅
theorem yp:qu (.type "int") "__bytes__"=pure none:=∅
theorem yq:qu (.type "int") "__index__"=pure (some (.builtin "int.__index__")):=∅
section
theorem xb(h:ed (n4 prog w) A.in1.in1 (Builtin.«bytes.__new__» ⟨[.type "bytes",g],[]⟩) (λb s'=>match b with|.done (.ret v)=>s'.TypeIs v "bytes"/\Q v s'|_=>False) (λe s'=>E e s') s):ed (n4 prog w) A (ec (.type "bytes") [g]) Q E s:=by
 erw[callType_codes (Q₁:=λa c=>c.TypeIs a "bytes"/\Q a c) F.bm_called (F.bm_typeCall _) F.entry_object_init ?_ λa c d=>?_]; ·erw[Z6 (Vm (Wc (F.bm_newCall _) (Vs ⟨ac3 F.bm_plain _,Z7 F.bm_entry (WI h (λb s' z=>?_) λY Y z=>z)⟩)))];rcases b with(_|_|_|_)|_<;>first|rwa[z]|rwa[z.elim]
 ·rwa[m_03 d.1 (aa8 a _) (object_init_meets F.bm_called.init.lookup F.bm_called.made (by rfl) prog w A.in1 _ c (m_03 d.1 rfl d.2))]
theorem qx(h:Q (.bytes b t) s):ed (n4 prog w) A (ec (.type "bytes") [.bytes b t]) Q E s:=by injections A s Q E prog w _ b t;rwa[xb (Vm (Wc (a:=true) rfl (Vm (Wc F.bm_sub (Vm (Wc (F.bm_bind _) (Vm (Wc (a:=()) rfl (Vm (Wc (a:=()) rfl (Vm (Z8 (XE _ _ _) sZ (Vm (Xl (Wc (a:=Fin.done (.ret (.bytes b t))) rfl ⟨XE _ _ _,h⟩)))))))))))))))]
theorem qy{n:Int}(c:0<=n)(b:n<=1000)(h:∀u k,Q (.bytes (Array.replicate n.toNat 0) u) {s with toks:=k}):ed (n4 prog w) A (ec (.type "bytes") [.int n t]) Q E s:=by injections Q _ A s E prog w t n;erw[xb (Vm (Wc (a:=true) rfl (Vm (Wc F.bm_sub (Vm (Wc (F.bm_bind _) (Vm (Wc (a:=()) rfl (Vm (Wc (a:=()) rfl (Vm (Z8 (ac7 _ _ _) yp (Vm (Wc (a:=false) rfl (Vm (Z8 (ac7 _ _ _) yq (Vm (Za (Wc (a:=n) rfl ?_)))))))))))))))))))];dsimp only;rw[WO (by delta Bytes.fitsIndex;simp;rwa[⟨xZ c,xZ b⟩]),WO (Zt.mpr (xZ c)),WO (by omega),WO (by delta Bytes.tooLong;rw[Wr];simp;rwa[xZ b])];rwa[Vm (Xl (Vm (wpAny_mkBytes (Wc (a:=Fin.done (.ret (.bytes _ _))) rfl ⟨XE _ _ _,h _ _⟩) (by simp![Wr];simp;omega))))]
end
theorem CN:∀(s:List Nat)(a n:Nat),s.foldl (λa c=>match a with|some n=>(match er 48 c&&er c 57 with|true=>some (10*n+(c-48))|false=>none)|none=>none) (some a)=some n->NumText.AllDigits s/\s.foldl (λacc c=>acc*10+(c-48)) a=n:=by
 intro i;induction i with
 |nil=>intro a n e;injection e with g;subst g;rwa[⟨λY h=>k_mn h,rfl⟩]
 |cons c s b=>
  intro a n e;dsimp![hM]at e;cases h:er 48 c&&er c 57 with
  |false=>replace e:=(h)▸e;rw[(by intro l;induction l with|nil=>rfl|cons x l b=>rwa[b]:∀l:List Nat,l.foldl (λ(a:Option Nat)c=>match a with|some n=>(match er 48 c&&er c 57 with|true=>some (10*n+(c-48))|false=>none)|none=>none) none=none)]at e;rwa[k_nn e]
  |true=>
   replace e:=(h)▸e;erw[hJ (λf j=>?_) (b _ n e)];simp![Vq]at h;erw[⟨λx d=>?_,?_⟩]
   ·clear e;rcases VD.mp d with rfl|d; ·rwa[⟨Vu h.1,Vu h.2⟩]
    ·rwa[f x d]
   ·dsimp![hM];rwa[(Nat.mul_comm a 10)▸j]
section
theorem H5(I:Inv W σ s.heap)(hv:VR W v c)(h:Cq v=some d):Ref A L X W σ s (ec (.type "int") [c]) (.ok d σ) RD:=by
 erw[bO h (λh=>om h λz a e=>?_) λh=>bO h (λh=>om h λb j e=>?_) λh=>ob h λz a h=>d8 h λf h=>om h λn h e=>?_];all_goals erw[(am e)▸?_]
 ·obtain⟨t,rfl⟩:=cN hv a;rwa[dd I λQ E q=>call_int_int (q _ s.toks)]
 ·rwa[(HE hv j)▸dd I λQ E q=>call_int_bool (by obtain⟨⟩:=b<;>rwa[q _ _])]
 ·obtain⟨t,rfl⟩:=bW hv a;simp![Vq]at f;have g:0<z.length:=Vu f.1;have i:=Vu f.2;obtain⟨k,l⟩:=CN z 0 n h;have e:(cg z).cps.toList=z:=rfl;rwa[dd I λQ E q=>KIN.call_text (by erw[Vn (PySem.intText_digits (x:=cg z) (k) (by rw[e];intro q;rw[q]at g;rwa[Xs _ g]) (Vw i #v[])) ?_];rw[e];delta an6;rw[l]) (Vw i #v[]) (q _ _)]
theorem CO(f:A.handled=none)(I:Inv W σ s.heap)(hv:VR W v c)(h:yf v σ=some d):Ref A L X W σ s (ec (.type "bytes") [c]) (.ok d σ) RD:=by
 erw[bO h (λh=>om h λz b e=>?_) λh=>bO h (λh=>ob h λk g h=>d8 h λa e=>?_) λh=>sY f I hv h]; ·obtain⟨t,rfl⟩:=fC hv b;rwa[(e)▸l9 I λQ E q=>qx (q _ s.toks)]
 ·obtain⟨t,rfl⟩:=cN hv g;erw[(am (Vp e))▸?_];simp![Vq,Vx,Vx]at a;rwa[l9 I λQ E q=>qy a.1 a.2 λu i=>q u i]
theorem H6(I:Inv W σ s.heap)(hv:VR W v c)(h:Hu v=some d):Ref A L X W σ s (ec (.type "str") [c]) (.ok d σ) RD:=by
 erw[bO h (λh=>om h λz f e=>?_) λh=>ob h λk g h=>d8 h λb e=>?_]; ·rwa[V7 (bW hv f) λt a=>a▸(e▸Ae I)]
 ·obtain⟨t,rfl⟩:=cN hv g;rwa[Vp e▸Ad b I]
end
end
section
open Builtin
theorem s6(h:hexDigit g=some m):g<128/\48<=g:=by
 injections m _ g;delta hexDigit at h;split at h; ·rename_i e;simp![Vq]at e;have:=Vu e.1;have:=Vu e.2;omega
 ·split at h; ·rename_i e;simp![Vq]at e;have:=Vu e.1;have:=Vu e.2;omega
  ·rwa[k_nn h]
noncomputable def mi:List (Nat×Nat):=[(48,0),(49,1),(50,2),(51,3),(52,4),(53,5),(54,6),(55,7),(56,8),(57,9),(97,10),(98,11),(99,12),(100,13),(101,14),(102,15)]
theorem Mq:((eg 128).all λa=>match hexDigit a with|some x=>mi.contains (a,x)|none=>true)=true:=⋯
theorem xc(h:hexDigit g=some m):(g,m)∈mi:=by have t:=VK.mp Mq g (Wx.mpr (s6 h).1);rw[h]at t;simpa using t
theorem H7:(mi.map λp=>mi.map λq=>(int_private%"readNumeral") 0 16 ([p.1,q.1].takeWhile (·!=0)))=mi.map λp=>mi.map λq=>(int_private%"Numeral.value") ((16*p.2+q.2:Nat):Int):=∅
theorem hex_reads(d:hexDigit g=some t)(c:hexDigit m=some w):(int_private%"readNumeral") 0 16 ([g,m].takeWhile (·!=0))=(int_private%"Numeral.value") ((16*t+w:Nat):Int):=YK.mp (YK.mp H7 (g,t) (xc d)) (m,w) (xc c)
theorem Fy{a:List Nat}(d:(a.takeWhile (·!=0)).length<=640)(c:(int_private%"readNumeral") 0 16 (a.takeWhile (·!=0))=(int_private%"Numeral.value") t)(b:((a.takeWhile (·!=0)).length==a.length)=true)(h:Q (.int t s.toks) {s with toks:=s.toks+1}):ed g A ((int_private%"intFromText") m a 16) Q E s:=by
 repeat(any_goals(first|assumption|(with_reducible erw[Zy (Vz d) ?_])|(with_reducible erw[Zy (Vz b) ?_])|wp_step))
 all_goals(try erw[(c)▸?_])
 repeat(any_goals(first|assumption|(with_reducible erw[Zy (Vz d) ?_])|(with_reducible erw[Zy (Vz b) ?_])|wp_step))
theorem gives_hex(f:hexDigit m=some B)(c:hexDigit w=some D):Gives (Builtin.«int.__new__» ⟨[.type "int",.str (cg [m,w]) u,.int 16 t],[]⟩) (.int ((16*B+D:Nat):Int)):=.of_wp λM A E s Q h=>by
 obtain⟨l,g,d,tk,o⟩:=s;have k:=F.conv_sub_int;have p:=F.madeHere_int;have e:(if(cg [m,w]).cps.all (· <128)then(cg [m,w]).cps.toList else Unicode.numberText (cg [m,w]).cps.toList)=[m,w]:=by
  have i:=(s6 f).1;have b:=(s6 c).1;have:(cg [m,w]).cps.all (· <128)=true:=by unfold cg;simp;rwa[⟨a_1 i,a_1 b⟩]
  rw[WG this];rfl
 have a:(([m,w].takeWhile (·!=0)).length==[m,w].length)=true:=by
  have i:=(s6 f).2;have b:=(s6 c).2;have h3:(m !=0)=true:=by simp;rwa[WQ (a_1 i)]
  have j:(w !=0)=true:=by simp;rwa[WQ (a_1 b)]
  rw[ab8,WG h3,ab8,WG j];rfl
 have n:([m,w].takeWhile (·!=0)).length<=640:=by rw[Wb.mp a];show 2<=640;simp +arith only
 have hk:=KIN.Hid.mk (w7 n (w7 (hex_reads f c) a));clear n a;repeat(any_goals(first|assumption|((with_reducible show ed _ _ ((int_private%"intFromText") _ _ _) _ _ _);rw[e];erw[Fy hk.out.1 hk.out.2.1 hk.out.2.2 ?_])|wp_step))
 rwa[⟨_,rfl,h⟩]
theorem Mr(a b:ea):checkTypeCall "int" ⟨[a,b],[]⟩=pure ():=∅
theorem Ms(a b:ea):u6 "int.__new__" ⟨[.type "int",a,b],[]⟩=pure ():=∅
theorem Mt(o a b:ea):argsOk "object.__init__" ⟨[o,a,b],[]⟩:=∅
section
theorem H8(I:Inv W σ s.heap)(hv:VR W v c)(o:VR W w e)(f:Cr v w=some d):Ref A L X W σ s (ec (.type "int") [c,e]) (.ok d σ) RD:=by
 erw[ob f λi l f=>d8 f λh f=>ob f λp g f=>ob g λz k g=>ob f λx m f=>om f λy n f=>?_];obtain⟨t,rfl⟩:=bW hv k;clear hv;clear k;obtain⟨w,rfl⟩:=cN o l;rw[VF h,<-f];rw[(by
  rcases z with _|⟨a,_|⟨b,_|_⟩⟩<;>first|rwa[nn g]|skip
  rw[<-Vp g]:z=[p.1,p.2])];rwa[dd I λQ E q=>ae0 F.called_int F.newNe_int (Mr _ _) (Ms _ _) (λj=>Mt j _ _) F.entry_int_new (gives_hex m n).meets ⟨rfl,q _ _⟩]
structure Af(K:Frag)(C:Addr):Prop where
 cls:kt K (.ref C) "__class__"=some (some (.builtin "object.__class__"))
 get:ak4 K (.builtin "object.__class__") "__get__"=some (some (.builtin "getset_descriptor.__get__"))
 takes:takesIn K (.builtin "object.__class__")=some true
 mro:am3 K C (.type "object")=some true
 notStr:kin_notT K C "str"=true
theorem H9:aj2 (.type "str")=pure (.type "type"):=∅
theorem Ia(h:VR W v c)(e:Tg v=some m):fG m=some c:=by
 rcases v with x|n
 ·rcases x with _|_|_|_|_|_|_|_|_|g<;>first|rwa[nn e]|skip
  rwa[(Vp e)▸DR.eF h]
 ·rwa[nn e]
theorem Fz(e:L4 v=true):∃r,qo σ v=some r:=by
 rcases v with x|n; ·rcases x with _|_|_|_|_|_|_|_|⟨c,a,b⟩|_<;>first|rwa[ff e]|rwa[⟨_,rfl⟩]
 ·rwa[ff e]
theorem Mu(p:vH)(g:Se)(l:∀c C,cG c=some C->Af kG C)(I:Inv W σ s.heap)(hv:VR W v c)(m:VR W H e)(a:D9 v H=some d):Ref A L X W σ s (ec (.builtin "isinstance") [c,e]) (.ok d σ) RD:=by
 erw[ob a λf F a=>d8 a λD a=>?_];have o:e=.type "str":=by have h:=Ia m F;rw[Wb.mp D,g.str]at h;rwa[(Vp h).symm]
 clear m;subst o;erw[bO a (λa=>om a λz G a=>?_) λa=>d8 a λB a=>?_]; ·rwa[V7 (bW hv G) λt b=>b▸(b8 I λQ E q=>IsiPair.str_str (q _ s.toks (a▸.bool)))]
 ·erw[ba λw=>?_];obtain⟨r,y⟩:=Fz (σ:=σ) B;erw[Pe (qw I hv y) λx C K J n j u=>?_];clear hv;subst j;have k:=p.cls _ _ u.cls;have i:=l _ _ u.cls;rwa[w (b8 I λQ E q=>kin_callT I.K (oX u.here u.dict) i.notStr H9 (by delta plainGet;rw[k.getattr,k.hook];rfl) k.has i.cls i.get i.takes i.mro (q _ _ (Vp a▸.bool)))]
theorem FA:∀{l:List (Str×ea)},g∉l.map (·.1)->l.map (λa=>if a.1=g then(a.1,m)else a)=l:=by intro c;induction c with|nil=>rwa[λY=>rfl]|cons y l b=>intro h;rw[V3,VD,not_or]at h;simp![V3,b h.2];rw[WO λz=>h.1 z.symm]
theorem w0.put(hd:DR F d g){ks xs kvs}(h:w0 F ks xs kvs)(b:(kvs.map (·.1)).Nodup):w0 F (putK k d ks xs).1 (putK k d ks xs).2 (al4 kvs (cg k) g):=by
 induction h with
 |nil=>rwa[.cons hd .nil]
 | @cons k0 ks x xs v0 kvs h hs a=>
  rw[V3,X4]at b;have a:=a b.2;dsimp![putK];unfold al4 at a⊢;cases q:decide (k=k0)with
  |true=>rw[<-VF q]at b⊢;rw[WG (by simp),V3,FA b.1,WG rfl];rwa[.cons hd hs]
  |false=>
   have e: ¬cg k0=cg k:=λz=>(WX q) (Cy.mp z).symm;simp![as5,VO e,as8];by_cases c:(kvs.any λf=>decide (f.1=cg k))=true; ·rw[WG c]at a⊢;rw[V3,WO e];rwa[.cons h a]
   ·rw[WO c]at a⊢;rwa[.cons h a]
theorem w0.len{ks xs kvs}(h:w0 F ks xs kvs):kvs.length=ks.length:=by induction h with|nil=>rfl|cons _ _ a=>rwa[VT ah6 a]
theorem Ag{k:Int}{Q:a9 Unit}(b:IsL s.heap l items n)(d:0<=k)(a:k<2^63)(f:k<items.size)(e:Q () {s with heap:=s.heap.update l (x7 (·.setIfInBounds k.toNat g))}):ed (n4 prog w) A (setItem (.ref l) (.int k t) g) Q E s:=by
 injections n _ l A items s E g prog w t k Q;have c:s.heap.get? l=some {cls:=.type "list",dict:=none,data:=.seq items n,slots:=#[]}:=b;delta setItem;try with_reducible erw[VX ?_]
 erw[Vm (wpAny_sequenceKey b.isList.typeIs (by rfl) (Vm (wpAny_callSpecial?_slot (name:=m6 "__setitem__") b.isList.typeIs an0 (WY an0 b.isList.typeIs entry_list_setitem ?_ (args_list_setitem _ _ _)))))];show ed _ _ (Builtin.List.listSubscript? (.int k t)>>=_) _ _ s;erw[Vm (wpAny_listSubscript_int (fitsIndex_of d a) ?_)];clear a;obtain⟨j,rfl⟩:=Int.eq_ofNat_of_zero_le d;erw[Vm (Vm (wpAny_seqItemAt c rfl (Vs ?_)))];rw[Array.getElem?_eq_getElem (by lia)];erw[Vm (wpAny_setSeqItemAt c rfl ?_)];first|rwa[Vm (Vs (Vs (nv .none rfl (Vs e))))]|rwa[Vs (m_12 .none rfl (Vs e))]
theorem Ah(I:Inv W σ s.heap)(hv:VR W v c)(K:VR W U e)(hd:DR W.F d Z):Ref A L X W σ s (setItem c e Z) (dq v U d σ) λY Y Y Y Y=>True:=by
 erw[db ?_ ?_]; ·erw[dy λr D=>dy λk H=>Ref.grd λP=>Ef D λev q=>?_];subst ev;obtain⟨u,rfl⟩:=bW K H;obtain⟨p,w,rfl⟩:=hv;erw[ba λM=>?_];cases I.cell _ _ p q w λh=>nomatch h with| @dict _ _ kvs e2 hm lo f=>erw[M λY Q E F Y=>wpAny_setItem_pairs (Zu _ _ _ _) hm (λh' j i=>?_) (by simp![f.len,<-oS];rwa[Vu P])];have a:∃o',h'.get? p.1=some o':=fi j λo Y Y N Y=>⟨o,N⟩;obtain⟨G,C⟩:=I.mutate (h':=h') (X:=X) (o':=.dict (putK k d r.2.1 r.2.2).1 (putK k d r.2.1 r.2.2).2) q (λh=>nomatch h) w (λb x z Y e=>(i.2 b z).trans e) λb B=>by rcases B with rfl|rfl;rwa[a];rwa[(e2)▸a] λt=>.dict e2 j lo (w0.put (hd.mono t) (f.mono t) (x_36 hm λY Y Y Y Y Y Y Y O=>O));rwa[F () () _ _ {s with heap:=h',toks:=s.toks+1} rfl G C ⟨rfl,rfl,rfl⟩ trivial]
 ·erw[dy λr D=>dy λk H=>Ref.grd λf=>l8 D λev q=>?_];subst ev;obtain⟨u,rfl⟩:=cN K H;obtain⟨p,w,rfl⟩:=hv;simp![Vq,Vq,Vx,Vx]at f;have z:k.toNat<r.2.length:=Vu f.1.2;erw[(I.cell _ _ p q w λh=>nomatch h).eL λy m g J i=>?_];have a:=am7 (h:=s.heap) (l:=p.1) (items:=y.toArray) (n:=m) J (·.setIfInBounds k.toNat Z);replace a:=(List.setIfInBounds_toArray .. )▸a;obtain⟨G,C⟩:=I.mutate (h':=s.heap.update p.1 (x7 (·.setIfInBounds k.toNat Z))) (X:=X) (o':=.list (r.2.set k.toNat d)) q (λh=>nomatch h) w (λb x z Y e=>(V6 _ _ (hg z)).trans e) λb B=>by rcases B with rfl|rfl;rwa[⟨_,a⟩];rw[g];rwa[⟨_,a⟩] λt=>.list g a ((i.mono t).set (hd.mono t) _);rwa[λY Q E F Y=>Ag J f.1.1 (by omega) (by simp![VV,i.length];omega) (F () () _ _ {s with heap:=s.heap.update p.1 (x7 (·.setIfInBounds k.toNat Z))} rfl G C ⟨rfl,rfl,rfl⟩ trivial)]
end
end
section
open Builtin
theorem yr:qu (.type "list") "keys"=pure none:=∅
theorem vM{Q:a9 (Option ea)}(i:s.heap.get? a=some (cM vs n))(l:A.handled=none)(h:∀h' tk,(∀b o,s.heap.get? b=some o->h'.get? b=some o)->Q none {s with heap:=h',toks:=tk}):ed (n4 prog w) A (getAttr? (.ref a) "keys") Q E s:=by
 injections n s _ a A E vs prog w Q;obtain⟨k,g,d,tk,x⟩:=s;have j:∀c,(⟨k,g,d,c,x⟩:eN).TypeIs (.ref a) "list":=λY=>⟨_,i,rfl⟩;have t:=sub_AttributeError;have q:=F.slot_list_getattribute.lookup;have r:=F.slot_list_getattribute.bind (.ref a);have u:=am_list_getattr_none;unfold getAttr? getAttrBy? getAttrBy;repeat(any_goals(first|assumption|rwa[j _]|((with_reducible show ed _ _ (ec (e5 "list.__getattribute__") _ _) _ _ _);erw[Xx F.slot_list_getattribute (j _) am_entry_list_getattribute (F.args_list_getattribute_2 _ _) (meets_getattribute_miss_list a vs.toArray n #[] "keys" _ yr #v[] #v[]) ⟨i,l,λh' c e f=>?_⟩])|wp_step))
 obtain⟨y,m,p⟩:=f.there;show ed _ _ (am0 _ _ _ _ _ _ _) _ _ _;unfold am0;repeat(any_goals(first|assumption|wp_step))
 rwa[h _ _ f.keeps]
theorem nj:plainId "dict.update.loop"=true:=⋯
theorem nk:entryFor PySem.table "dict.update.loop"=some Builtin.«dict.update.loop» :=by first|rwa[entryFor_of_fast ∅]|rwa[ap0 ∅]
theorem OP(e:two g=some m):g=[m.1,m.2]:=by rcases g with _|⟨a,_|⟨b,_|_⟩⟩<;>first|rwa[nn e]|(rw[<-Vp e])
theorem Ib(h:DR F x c)(e:pairD x=some p):∃a t v n,c=.ref a/\F.get? a=some (dA [.str (cg p.1) t,v] n)/\DR F p.2 v:=ob e λA d e=>ob e λq f e=>om e λk r e=>by erw[ba λl=>bw (k7 (W:=⟨F,[]⟩) (v:=.d x) h d) λa C n j b y=>?_];simp![OP f]at y;erw[fw y.co λu s o m y=>fw y.co λw B g z y=>?_];obtain⟨t,i⟩:=bW (W:=⟨F,[]⟩) (v:=.d q.1) m r;simp![o,g,y.ni,i]at b;rwa[l ((e)▸LV a t w n j b z)]
theorem drop_cons{l:List α}(h:l.drop i=g::cs):l[i]?=some g/\l.drop (i+1)=cs:=by rw[<-Z9,<-Zz,h];rwa[⟨rfl,rfl⟩]
theorem FC:(al4 kvs g m).length<=kvs.length+1:=by delta al4;split<;>simp
section
variable{R:a9 Result}{vs:List ea}
theorem Ie(hh:A.handled=none)(O:l≠I)(Q:l≠D)(m:I≠D)(w:F.get? I=none)(W:F.get? D=none):∀(r:List Dat)i(ks:List (List Nat))(xs:List Dat)(kvs:List (Str×ea))(s:eN)(y:List (List Nat)×List Dat)(k:Tok),c9 F r (vs.drop i)->F.StaysIn s.heap->s.heap.IsList l vs.toArray->s.heap.IsListIter I l i->s.heap.DictOf (qn pG wG) D kvs->w0 F ks xs kvs->pairs r ks xs=some y->kvs.length+r.length<=af0->(∀h' tk d,h'.DictOf (qn pG wG) D d->w0 F y.1 y.2 d->(∀b o,b≠I->b≠D->s.heap.get? b=some o->h'.get? b=some o)->R (.ok (.ret res)) {s with heap:=h',toks:=tk})->p7 MG A (.builtin "dict.update.loop" ⟨[.ref D,.ref I,.int i k,res],[]⟩) R s:=by
 revert l;injections _ A F R vs I D res;(iterate 7 intro);intro r;induction r with
 |nil=>erw[λi ks xs kvs s y k P Z E j M U hp G V=>Z7 nk (Vm (YX hh j E (Array.getElem?_eq_none (aa9.mp P.ni)) λh' he=>?_))];erw[ba λv=>?_];obtain rfl:=Vp hp;rwa[fi M λo es u S q=>v (Vm (Vs (Vs (V h' s.toks kvs (m_32 o es u (he D o (hg m) S) q) U λb o hb Y e=>he b o hb e))))]
 |cons x r ih=>
  erw[λi ks xs kvs s y k P Z E j M U hp G V=>ob hp λp u X=>ba λv=>fw P.co λc cs hc h1 h2=>xY (Ib h1 u) λa t v' n N K hv=>?_];subst N;obtain⟨hx,H⟩:=drop_cons hc;simp![<-H]at h2;erw[v (Z7 nk (Vm (YL (x:=.ref a) j E (Vn aa1 hx) λh' C hs=>?_)))];have B:h'.get? a=some (dA [.str (cg p.1) t,v'] n):=(hs.2 a λz=>by simp![z,w]at K;rwa[k_nn K]).trans (Z _ _ K);erw[Vm (VX (Vm (wpAny_tryCatch (Vm (Zr (T:="tuple") (m_12 _ B rfl) (Vm (WL B rfl (Vs (ba λv=>fi M λo es u S q=>v (VX (wpAny_dictSet_pairs (Zu _ _ _ _) (m_32 o es u ((hs.2 D (hg m)).trans S) q) (λL hd2 h=>?_) (a_1 G))))))))))))];have J:(al4 kvs (cg p.1) v').length<=kvs.length+1:=FC;erw[Vs ⟨ac3 nj _,ih (i+1) _ _ (al4 kvs (cg p.1) v') {s with heap:=L,toks:=s.toks+1} y 0 h2 ?_ ?_ ?_ hd2 (w0.put hv U (Hh q λY Y Y Y hn=>hn)) X (by simp at G;rwa[a_2 J G]) λh3 tk d a1 a2 a3=>?_⟩]
  ·intro b o e;have f:b≠I:=λz=>by simp![z,w]at e;rwa[k_nn e]
   have g:b≠D:=λz=>by simp![z,W]at e;rwa[k_nn e]
   rwa[(h.2 b g).trans ((hs.2 b f).trans (Z b o e))]
  ·rwa[(E.extBut hs.extBut O).extBut h.extBut Q]
  ·rwa[C.extBut h.extBut m]
  ·rwa[V h3 tk d a1 a2 λb o f g e=>a3 b o f g ((h.2 b g).trans ((hs.2 b f).trans e))]
end
section
theorem Ig(H:A.handled=none)(w:∃a o,xd<a/\W.F.get? a=some o)(I:Inv W σ s.heap)(hv:VR W v c)(h:Ct v σ=some d):Ref A L X W σ s (ec (.type "dict") [c]) (.ok d σ) RD:=by
 injections X d W σ v c L _ A s;erw[ob h λxs i h=>ob h λy M h=>?_];obtain⟨h3,U⟩:=eD h;rw[<-U];erw[bw (di I hv i) λa vs n B K P=>B▸(cI I λQ E q=>callType_codes (Q₁:=λp s₁=>p=.ref s.heap.objs.size/\s₁={s with heap:=s.heap.push {cls:=.type "dict",data:=.dict #[]}}) F.kt_called_dict (F.kt_typeCall_dict_1 _) F.entry_dict_init (kt_code_dict_new _ ⟨rfl,rfl⟩) ?_)];rintro p s₁⟨rfl,rfl⟩;have g:(s.heap.push {cls:=.type "dict",data:=.dict #[]}).DictOf (qn pG wG) s.heap.objs.size []:=ar4 s.heap;have j:(s.heap.push {cls:=.type "dict",data:=.dict #[]}).get? a=some (cM vs n):=Vr _ K;erw[m_03 g.typeIs (F.args_dict_init_2 _ _) (Vm (Vm (wpAny_notOrdered_dict g.typeIs (Vs (Vm (Zr (T:="list") (m_12 _ j rfl) (Vm (vM j H λi G k1=>Vm (Xl (Vm ?_))))))))))];have u:=k1 _ _ j;erw[YJ ⟨_,u,rfl,_,rfl⟩ ?_];have kp:∀b o,s.heap.get? b=some o->i.get? b=some o:=λb o e=>k1 b o (Vr _ e);have x:i.get? s.heap.objs.size=some {cls:=.type "dict",data:=.dict #[]}:=k1 _ _ (VH _ rfl);have f:s.heap.objs.size<i.objs.size:=Wm x;have m:a<s.heap.objs.size:=Wm K;have old:∀b,s.heap.objs.size<=b->W.F.get? b=none:=λb N=>by cases e:W.F.get? b with|none=>rfl|some o=>rwa[absurd (Wm (I.stays b o e)) (Nat.not_lt.mpr N)]
 erw[Vs ⟨ac3 nj _,Ie (A:=A.in1) (R:=wants (λr t=>r=q0/\Q (e0 s.heap.objs.size) t) E) (res:=.none) (F:=W.F) (l:=a) (I:=i.objs.size) (D:=s.heap.objs.size) (vs:=vs) H (Yl (Xq m f)) (Yl m) (WQ f) (old _ (YM f)) (old _ (VM _)) xs 0 [] [] [] {s with heap:=i.push {cls:=.type "list_iterator",data:=.fields #[.ref a,.int 0 0]},toks:=G} y 0 (P) (λb o e=>Vr _ (kp b o (I.stays b o e))) ⟨_,Vr _ u,rfl,_,rfl⟩ (ia _ (VH _ rfl) rfl rfl) (gq (gq g k1) λb o e=>Vr _ e) .nil M (by simp![Wr];simpa using h3) λh' tk J O a2 a3=>?_⟩];have kk:∀b o,s.heap.get? b=some o->h'.get? b=some o:=λb o e=>a3 b o (Yl (Xq (Wm e) f)) (Yl (Wm e)) (Vr _ (kp b o e));rwa[⟨rfl,q _ h' tk kk (ba λV=>gJ a2.map λval v1 v2 v3=>fi O.mapOf λo es S Z r=>d6 w λam om f C=>V (.dict (m_32 o es S (gQ (bb _) Z) r) (by rw[WE];rwa[λz=>by have i:=Wm (I.stays _ _ C);simp![z]at i;rwa[Xs _ (Xq i f)]]) v1 v2 λk d e=>(v3 k d e).mono (I.grow kk).1))⟩]
theorem Ih(h:jY W vs cs)(e:two vs=some g):∃c e,cs=[c,e]/\VR W g.1 c/\VR W g.2 e:=by
 rw[OP e]at h;rcases cs with _|⟨c,_|⟨d,_|_⟩⟩; ·rwa[h.elim]
 ·rwa[h.2.elim]
 ·rwa[rF c d rfl h.1 h.2.1]
 ·rwa[h.2.2.elim]
theorem PD(u:vH)(b:Se)(m:∀c C,cG c=some C->Af kG C)(j:A.handled=none)(g:∃a o,xd<a/\W.F.get? a=some o)(I:Inv W σ s.heap)(B:fG D=some fv)(hv:jY W vs cs):Ref A L X W σ s (ec fv cs) (bi D vs σ) RD:=by
 erw[Ref.reads λd h=>?_];have st:∀{w:ea}{y:Str}{o:Option Dat}{cs:List ea},fG y=some w->ir (D==y) o=some d->(o=some d->Ref A L X W σ s (ec w cs) (.ok d σ) RD)->Ref A L X W σ s (ec fv cs) (.ok d σ) RD:=λn h k=>d8 h λe h=>by rw[<-Wb.mp e,B]at n;rwa[(Vp n)▸k h]
 rwa[bO h (λh=>ob h λv ev h=>x_12 (iD hv ev) λc l hv=>(l)▸bO h (λh=>st b.len h (Mm I hv)) λh=>bO h (λh=>st b.int h (H5 I hv)) λh=>bO h (λh=>st b.str h (H6 I hv)) λh=>bO h (λh=>st b.tuple h (Fx I hv)) λh=>bO h (λh=>st b.list h (H4 I hv)) λh=>bO h (λh=>st b.bytes h (CO j I hv)) λh=>bO h (λh=>st b.sum h (Mo j I hv)) λh=>bO h (λh=>st b.all h (Mp j I hv)) λh=>bO h (λh=>st b.dict h (Ig j g I hv)) λh=>st b.abs h λh=>om h λi q h=>by obtain⟨t,rfl⟩:=cN hv q;rwa[h▸Mn I]) λh=>ob h λr x h=>ba λz=>fw (Ih hv x) λc e l hv p=>z ((l)▸bO h (λh=>st b.int h (H8 I hv p)) λh=>st b.isi h (Mu u b m I hv p))]
end
end
section
open Builtin
inductive cW(F h:Heap)(it:Addr):List Dat->Prop where|list{l vs n i xs:_}:h.IsListIter it l i->F.get? l=some (cM vs n)->c9 F xs (vs.drop i)->cW F h it xs|tuple{l vs n i xs:_}:h.IsTupleIter it l i->F.get? l=some (dA vs n)->c9 F xs (vs.drop i)->cW F h it xs|bytes{b:List UInt8}{t i xs:_}:IA h it b.toArray t i->xs=(b.drop i).map (λc=>Dat.int c.toNat)->cW F h it xs|str{z:List Nat}{ty t i xs:_}:ty="str_ascii_iterator"\/ty="str_iterator"->h.IsStrIter it ty (cg z) t i->xs=(z.drop i).map (λc=>Dat.str [c])->cW F h it xs
section
theorem cW.keep(k:F.StaysIn F')(e:∀o,h.get? it=some o->h'.get? it=some o)(I:cW F h it xs):cW F' h' it xs:=cW.rec (motive:=λxs Y=>cW F' h' it xs) (λi a b=>.list (x_12 i λo c r=>m_12 o (e _ c) r) (k _ _ a) (b.mono k)) (λi a b=>.tuple (x_12 i λo c r=>m_12 o (e _ c) r) (k _ _ a) (b.mono k)) (λi a=>.bytes (x_12 i λo c r=>m_12 o (e _ c) r) a) (λb i a=>.str b (x_12 i λo c r=>m_12 o (e _ c) r) a) I
theorem drop_nil{a:List α}(h:a.drop i=[]):a[i]?=none:=by rw[List.getElem?_eq_none_iff];rwa[aa9.mp h]
end
section
theorem oZ{items}{x:ea}(a:s.heap.IsTupleIter it t i)(f:s.heap.IsTuple t items)(h:items[i]?=some x)(j:∀h',h'.IsTupleIter it t (i+1)->pC it s.heap h'->Q x {s with heap:=h'}):ed (n4 prog w) A (hK (.ref it)) Q E s:=by injections A i s Q E it t prog w items x;erw[ba λg=>gJ (id a) λo b e hd=>?_];obtain⟨l,d,_,k,c⟩:=f;erw[g (Vm (wpAny_callSpecial?_slot (name:=m6 "__next__") a.typeIs Xy (WY Xy a.typeIs Zs ?_ (Zj _))))];show ed _ _ (ak2 (.ref it) 0>>=_) _ _ s;erw[Vm (V5 b hd (x:=.ref t) rfl (Vm (V5 b hd (x:=.int i 0) rfl (Vm (WL d c ?_)))))];simp![YN,h];rwa[Vm (Xz b hd (by simp) (Vs (m_12 x rfl (Vs (j _ (ia _ (WH _ b (X9 (XA hd _))) ((ZJ ..).trans e) (by rw[XA hd];rfl)) (Yu ..))))))]
theorem qz{items}(g:A.handled=none)(b:s.heap.IsTupleIter it t i)(j:s.heap.IsTuple t items)(l:items[i]?=none)(h:∀h' e,ae3 it s.heap h'->(∃o,h'.get? e=some o/\o.cls=.type "StopIteration")->E (.ref e) {s with heap:=h'}):ed (n4 prog w) A (hK (.ref it)) Q E s:=by
 injections A i Q E t prog w items _ s it;erw[ba λk=>gJ (id b) λo c n hd=>?_];obtain⟨q,f,_,p,d⟩:=j;erw[k (Vm (wpAny_callSpecial?_slot (name:=m6 "__next__") b.typeIs Xy (WY Xy b.typeIs Zs ?_ (Zj _))))];show ed _ _ (ak2 (.ref it) 0>>=_) _ _ s;erw[Vm (V5 c hd (x:=.ref t) rfl (Vm (V5 c hd (x:=.int i 0) rfl (Vm (WL f d ?_)))))];simp![YN,l];erw[Vm (Xl (Vm (Xz c hd (by simp) (Vm (Vm (m:=firstArgMember _ _) (Wc (a:=q0) (by first|rfl|(rfl)) (Yc (Vm (ac4 ?_)) (by size_fits))))))))];first|rwa[g]|erw[(g)▸?_]
 rwa[Vm (Vs (ab0 (h _ _ (((Yu ..).extBut.push _).push _) (m_12 _ (VH _ rfl) rfl))))]
theorem pa{c:UInt8}(d:IA s.heap it b t i)(h:b[i]?=some c)(j:∀h',IA h' it b t (i+1)->pC it s.heap h'->Q (.int (c.toNat:Int) s.toks) {s with heap:=h',toks:=s.toks+1}):ed (n4 prog w) A (hK (.ref it)) Q E s:=by erw[ba λg=>gJ (id d) λo e f hd=>g (Vm (wpAny_callSpecial?_slot (name:=am2 "__next__") (Zk d) ZM (WY ZM (Zk d) ar8 ?_ (as6 _))))];show ed _ _ (ak2 (.ref it) 0>>=_) _ _ s;erw[Vm (V5 e hd (x:=.bytes b t) rfl (Vm (V5 e hd (x:=.int i 0) rfl (Vm (Wc (a:=b) rfl ?_)))))];simp![YN,h];rwa[Vm (Xz e hd (by simp) (Vm (wpAny_mkInt (Vs (m_12 _ rfl (Vs (j _ (ia _ (WH _ e (X9 (XA hd _))) ((ZJ ..).trans f) (by rw[XA hd];rfl)) (Yu ..))))))))]
theorem qA(f:A.handled=none)(c:IA s.heap it b t i)(h:b[i]?=none)(g:∀h' e,ae3 it s.heap h'->(∃o,h'.get? e=some o/\o.cls=.type "StopIteration")->E (.ref e) {s with heap:=h'}):ed (n4 prog w) A (hK (.ref it)) Q E s:=by
 injections A b i Q E t prog w _ s it;erw[gJ (id c) λo d j hd=>Vm (wpAny_callSpecial?_slot (name:=am2 "__next__") (Zk c) ZM (WY ZM (Zk c) ar8 ?_ (as6 _)))];show ed _ _ (ak2 (.ref it) 0>>=_) _ _ s;erw[Vm (V5 d hd (x:=.bytes b t) rfl (Vm (V5 d hd (x:=.int i 0) rfl (Vm (Wc (a:=b) rfl ?_)))))];simp![YN,h];erw[Vm (Xl (Vm (Xz d hd (by simp) (Vm (Vm (m:=firstArgMember _ _) (Wc (a:=q0) (by first|rfl|(rfl)) (Yc (Vm (ac4 ?_)) (by size_fits))))))))];first|rwa[f]|erw[(f)▸?_]
 rwa[Vm (Vs (ab0 (g _ _ (((Yu ..).extBut.push _).push _) (m_12 _ (VH _ rfl) rfl))))]
end
theorem Ai{b:List UInt8}(h:b[i]?=some g):b.toArray[i]?=some g:=by simpa using h
theorem xe(h:g[i]?=some m):(cg g).cps[i]?=some m:=by simp![cg];simpa using h
theorem cW.nextOf(I:cW F s.heap it (x::xs))(p:F.StaysIn s.heap)(r:F.get? it=none)(q:∀c h' tk,pC it s.heap h'->DR F x c->cW F h' it xs->Q c {s with heap:=h',toks:=tk}):ed MG A (hK (.ref it)) Q E s:=by
 injections E _ A x F xs s Q it;cases I with
 |list d k hd=>obtain⟨c,u,e,n,h⟩:=hd.co;obtain⟨j,g⟩:=drop_cons e;rwa[wpAny_nextOf_list_item d ⟨_,p _ _ k,rfl,_,rfl⟩ (by simpa using j) λh' a v=>q c h' s.toks v n (.list a k (by rw[g];rwa[h]))]
 |tuple d k hd=>obtain⟨c,u,e,n,h⟩:=hd.co;obtain⟨j,g⟩:=drop_cons e;rwa[oZ d ⟨_,p _ _ k,rfl,_,rfl⟩ (by simpa using j) λh' a v=>q c h' s.toks v n (.tuple a k (by rw[g];rwa[h]))]
 | @bytes b t i _ d f=>
  obtain⟨c,u,e⟩:∃c u,b.drop i=c::u:=by cases e:b.drop i with|nil=>replace f:=(e)▸f;rwa[k_cn f]|cons c u=>rwa[nv c u rfl]
  replace f:=(e)▸f;injection f with m l;subst m l;obtain⟨j,g⟩:=drop_cons e;rwa[pa d (Ai j) λh' a v=>q _ h' _ v .int (.bytes a (by rw[g]))]
 | @str z ty t i _ hy d f=>
  obtain⟨c,u,e⟩:∃c u,z.drop i=c::u:=by cases e:z.drop i with|nil=>replace f:=(e)▸f;rwa[k_cn f]|cons c u=>rwa[nv c u rfl]
  replace f:=(e)▸f;injection f with m l;subst m l;obtain⟨j,g⟩:=drop_cons e;have o:(cg z).cps[i]?=some c:=xe j;rcases hy with rfl|rfl; ·rwa[wpAny_nextOf_ascii_item d o λh' a v=>q _ h' _ v (.str (s:=[c])) (.str (.inl rfl) a (by rw[g]))]
  ·rwa[wpAny_nextOf_wide_item d o λh' a v=>q _ h' _ v (.str (s:=[c])) (.str (.inr rfl) a (by rw[g]))]
theorem cW.stopOf(c:A.handled=none)(I:cW F s.heap it [])(g:F.StaysIn s.heap)(q:∀h' e,ae3 it s.heap h'->(∃o,h'.get? e=some o/\o.cls=.type "StopIteration")->E (.ref e) {s with heap:=h'}):ed MG A (hK (.ref it)) Q E s:=by
 cases I with
 |list a d hd=>rwa[wpAny_nextOf_list_end c a ⟨_,g _ _ d,rfl,_,rfl⟩ (by simpa using drop_nil hd.ni) q]
 |tuple a d hd=>rwa[qz c a ⟨_,g _ _ d,rfl,_,rfl⟩ (by simpa using drop_nil hd.ni) q]
 | @bytes b t i _ a he=>
  have:b.drop i=[]:=by simpa using he
  rwa[qA c a (by simpa using drop_nil this) q]
 | @str z ty t i _ hy a he=>
  have:z.drop i=[]:=by simpa using he
  have f:(cg z).cps[i]?=none:=by simp![cg];simpa using drop_nil this
  rcases hy with rfl|rfl; ·rwa[wpAny_nextOf_ascii_end c a f q]
  ·rwa[wpAny_nextOf_wide_end c a f q]
theorem cW.next{Q:a9 (Option ea)}(I:cW F s.heap it (x::xs))(p:F.StaysIn s.heap)(q:∀c h' tk,pC it s.heap h'->DR F x c->cW F h' it xs->Q (some c) {s with heap:=h',toks:=tk}):ed MG A (z2 (.ref it)) Q E s:=by
 injections E _ A x F xs s it Q;cases I with
 |list d k hd=>obtain⟨c,r,e,n,h⟩:=hd.co;obtain⟨j,g⟩:=drop_cons e;rwa[YL d ⟨_,p _ _ k,rfl,_,rfl⟩ (by simpa using j) λh' a u=>q c h' s.toks u n (.list a k (by rw[g];rwa[h]))]
 |tuple d k hd=>obtain⟨c,r,e,n,h⟩:=hd.co;obtain⟨j,g⟩:=drop_cons e;rwa[wpAny_pyNext_tuple_item d ⟨_,p _ _ k,rfl,_,rfl⟩ (by simpa using j) λh' a u=>q c h' s.toks u n (.tuple a k (by rw[g];rwa[h]))]
 | @bytes b t i _ d f=>
  obtain⟨c,r,e⟩:∃c r,b.drop i=c::r:=by cases e:b.drop i with|nil=>replace f:=(e)▸f;rwa[k_cn f]|cons c r=>rwa[nv c r rfl]
  replace f:=(e)▸f;injection f with m l;subst m l;obtain⟨j,g⟩:=drop_cons e;rwa[KBw.next_item d (Ai j) λh' a u=>q _ h' _ u .int (.bytes a (by rw[g]))]
 | @str z ty t i _ hy d f=>
  obtain⟨c,r,e⟩:∃c r,z.drop i=c::r:=by cases e:z.drop i with|nil=>replace f:=(e)▸f;rwa[k_cn f]|cons c r=>rwa[nv c r rfl]
  replace f:=(e)▸f;injection f with m l;subst m l;obtain⟨j,g⟩:=drop_cons e;have o:(cg z).cps[i]?=some c:=xe j;rcases hy with rfl|rfl; ·rwa[wpAny_pyNext_ascii_item d o λh' a u=>q _ h' _ u (.str (s:=[c])) (.str (.inl rfl) a (by rw[g]))]
  ·rwa[wpAny_pyNext_wide_item d o λh' a u=>q _ h' _ u (.str (s:=[c])) (.str (.inr rfl) a (by rw[g]))]
theorem cW.stop{Q:a9 (Option ea)}(c:A.handled=none)(I:cW F s.heap it [])(f:F.StaysIn s.heap)(q:∀h',ae3 it s.heap h'->Q none {s with heap:=h'}):ed MG A (z2 (.ref it)) Q E s:=by
 cases I with
 |list a d hd=>rwa[YX c a ⟨_,f _ _ d,rfl,_,rfl⟩ (by simpa using drop_nil hd.ni) q]
 |tuple a d hd=>rwa[wpAny_pyNext_tuple_end c a ⟨_,f _ _ d,rfl,_,rfl⟩ (by simpa using drop_nil hd.ni) q]
 | @bytes b t i _ a he=>
  have:b.drop i=[]:=by simpa using he
  rwa[KBw.next_end c a (by simpa using drop_nil this) q]
 | @str z ty t i _ hy a he=>
  have:z.drop i=[]:=by simpa using he
  have e:(cg z).cps[i]?=none:=by simp![cg];simpa using drop_nil this
  rcases hy with rfl|rfl; ·rwa[wpAny_pyNext_ascii_end c a e q]
  ·rwa[wpAny_pyNext_wide_end c a e q]
end
section
open Builtin
open AutoSeq1(wpAny_loadPart')
theorem FE{e:Addr}(kF:F0.StaysIn s.heap)(hFe:F0.get? e=none)(U:F0.get? it=none)(S:ag9 s.heap e it i old)(I:cW F0 s.heap it (x::xs))(w:e≠it)(X:∀c h' tk u,IsEnumOut h' e it (i+1) c s.heap.objs.size->cW F0 h' it xs->DR F0 x c->h'.get? s.heap.objs.size=some {cls:=.type "tuple",data:=.seq #[.int i u,c]}->(∀b o,b≠e->b≠it->s.heap.get? b=some o->h'.get? b=some o)->Q (.ref s.heap.objs.size) {s with heap:=h',toks:=tk}):ed MG A (Builtin.«enumerate.__next__» ⟨[.ref e],[]⟩) (λV s'=>∃v,V=.done (.ret v)/\Q v s') E s:=by
 injections A x F0 xs i s Q E it old e;obtain⟨K,g,d,Z,os⟩:=s;show ed _ _ (ak2 (.ref e) 2>>=_) _ _ _;erw[Vm (V5 S rfl (x:=.ref it) rfl (Vm (I.nextOf kF U λx h₁ tk h hc L=>?_)))];have n:ag9 h₁ e it i old:=(h.2 e w).trans S;erw[Vm (V5 n rfl (x:=m5 i) rfl (Vm (V5 n rfl (x:=.none) rfl ?_)))];show ed _ _ (setField (.ref e) 3 (m5 (i+1))>>=_) _ _ ⟨h₁,g,d,tk+1,os⟩;erw[Vm (Wo n (by simp) λW D j=>Vm (Wo D (by simp) λt F q=>?_))];show ed _ _ (newTuple [.int i tk,x]>>=_) _ _ ⟨t,g,d,tk+1,os⟩;erw[Vm (YO ?_)];have a:ag9 (t.push {cls:=.type "tuple",data:=.seq #[.int i tk,x]}) e it (i+1) old:=Vr _ F;generalize k:t.push {cls:=.type "tuple",data:=.seq #[.int i tk,x]}=h₄ at a;have P:t.objs.size=K.objs.size:=by simp![q.1,j.1,h.1]
 have H:e<K.objs.size:=Wm S;have C:h₄.get? K.objs.size=some {cls:=.type "tuple",data:=.seq #[.int i tk,x]}:=by simp![<-k,<-P];rwa[VH _ rfl]
 have y:∀o,h₁.get? it=some o->h₄.get? it=some o:=λo T=>(k)▸Vr _ (q.extBut it o (hg w) (j.extBut it o (hg w) T))
 erw[(P)▸(Vm ?_)]
 ·erw[Vm (V5 a rfl (x:=.none) rfl (Vs (Vm (Xl (Vm (V5 a rfl (x:=old) rfl (Vm (Wo a (by simp) λM J f=>?_))))))))];show ed _ _ (ae1 (.ref e) (.ref K.objs.size)>>=_) _ _ ⟨M,g,d,tk+1,os⟩;erw[Vm ?_]
  ·erw[Vm (Wo J (by simp) λO l m=>?_)];replace l:IsEnumOut O e it (i+1) x K.objs.size:=l;rwa[Wo l (by simp) λN B r=>Vm (YC (Vs (m_12 _ rfl (X x N _ tk B (L.keep (λY Y z=>z) λo T=>r.extBut _ _ (hg w) (m.extBut _ _ (hg w) (f.extBut _ _ (hg w) (y o T)))) hc (r.extBut _ _ (WQ H) (m.extBut _ _ (WQ H) (f.extBut _ _ (WQ H) C))) λb o p G R=>r.extBut b o p (m.extBut b o p (f.extBut b o p (((λb o p G R=>by rwa[(k)▸Vr _ (q.extBut b o p (j.extBut b o p (h.extBut b o G R)))]:∀b o,b≠e->b≠it->K.get? b=some o->h₄.get? b=some o)) b o p G R)))))))]
theorem FF(w:F0.StaysIn s.heap)(j:F0.get? D=none)(h:F0.get? it=none)(f:ag9 s.heap D it i old)(I:cW F0 s.heap it (x::xs))(d:D≠it)(q:∀c T h' tk u,ag9 h' D it ((i+1:Nat):Int) c->cW F0 h' it xs->DR F0 x c->s.heap.get? T=none->h'.get? T=some (dA [.int i u,c] 0)->(∀b o,b≠D->b≠it->s.heap.get? b=some o->h'.get? b=some o)->P (.ref T) {s with heap:=h',toks:=tk}):ed MG A (z2 (.ref D)) (λr s'=>∃c,r=some c/\ed MG A (j3 (.Tuple elts G H) (.ref D) c) (λY l=>P c l) E s') E s:=by
 have n:s.TypeIs (.ref D) "enumerate":=m_12 _ f rfl;erw[Vm (Za (wpAny_callSpecial?_slot (name:=m6 "__next__") n Ya (WY Ya n Z2 (FE w j h f I d λc h' tk u p e B y v=>Vs (m_12 _ rfl ?_)) (ZS _))))];rwa[wpAny_letOwnedTupleGo_enum p λk g a=>q c _ k tk u g (e.keep (λY Y z=>z) λo z=>a.extBut _ _ (hg d) z) B (bb _) (a.extBut _ _ (WQ (Wm f)) y) λb o m t z=>a.extBut _ _ m (v b o m t z)]
theorem FG{Q:a9 (Option ea)}(j:A.handled=none)(k:F0.StaysIn s.heap)(f:ag9 s.heap m it i old)(I:cW F0 s.heap it [])(l:∀h',ae3 it s.heap h'->Q none {s with heap:=h'}):ed MG A (z2 (.ref m)) Q E s:=by have d:s.TypeIs (.ref m) "enumerate":=m_12 _ f rfl;erw[Vm (Za (wpAny_callSpecial?_slot (name:=m6 "__next__") d Ya (WY Ya d Z2 ?_ (ZS _))))];show ed _ _ (ak2 (.ref m) 2>>=_) _ _ _;rwa[Vm (V5 f rfl (x:=.ref it) rfl (Vm (I.stopOf j k λh' x a c=>x_12 c λo h g=>Vm (ao8 (T:="StopIteration") (b:=true) (m_12 o h g) isSubtype_stop (Vs (l _ a))))))]
structure qB(z TI TO i1 i2:Addr):Prop where
 TIz:TI≠z
 TOz:TO≠z
 i1z:i1≠z
 i2z:i2≠z
 TITO:TI≠TO
 TIi1:TI≠i1
 TIi2:TI≠i2
 TOi1:TO≠i1
 TOi2:TO≠i2
 i12:i1≠i2
theorem iO(k:F0.StaysIn h)(d:pC a h h')(c:F0.get? a=none):F0.StaysIn h':=λb o e=>(d.2 b λz=>by rw[z,c]at e;rwa[k_nn e]).trans (k b o e)
theorem Ii(D:qB z TI TO γ δ)(kF:F0.StaysIn s.heap)(oz:F0.get? z=none)(V:F0.get? TO=none)(o1:F0.get? γ=none)(o2:F0.get? δ=none)(R:ah7 s.heap z TI TO .none)(hTI:p4 s.heap TI (.ref γ) (.ref δ))(U:p4 s.heap TO ζ η)(I1:cW F0 s.heap γ (x::xs))(I2:cW F0 s.heap δ (ε::ys))(hQ:∀c d h' tk,ah7 h' z TI TO (m5 s.heap.objs.size)->p4 h' TO c d->cW F0 h' γ xs->cW F0 h' δ ys->DR F0 x c->DR F0 ε d->p4 h' s.heap.objs.size c d->(∀c o,c≠z->c≠TO->c≠γ->c≠δ->s.heap.get? c=some o->h'.get? c=some o)->Q (.ref s.heap.objs.size) {s with heap:=h',toks:=tk}):ed MG A (Builtin.«zip.__next__» ⟨[.ref z],[]⟩) (λZ s'=>∃v,Z=.done (.ret v)/\Q v s') E s:=by
 injections x xs ys ζ ε _ z A F0 s Q E TI TO γ δ η;show ed _ _ (ak2 (.ref z) 2>>=_) _ _ _;erw[Vm (V5 R rfl (x:=.bool false) rfl (Vm (V5 R rfl (x:=.ref TI) rfl (Vm (WL hTI rfl (Vm (Vm (V5 R rfl (x:=.none) rfl (Vs (Vm (Xl (Vm (V5 R rfl (x:=.ref TO) rfl (Vm (Wo R (by simp) λh₁ L g=>Vm ?_)))))))))))))))];simp![ZP,aq6,Yy,ar6];erw[Vm (Vm (X8 ?_))];have k1:=iO kF g oz;erw[Vm ((I1.keep (λY Y z=>z) λo e=>g.extBut _ _ D.i1z e).nextOf k1 o1 λc O X h hc J=>Vs ?_)];have p:p4 O TO ζ η:=h.extBut _ _ D.TOi1 (g.extBut _ _ D.TOz U);erw[Vm (WL p rfl (Vm (Zd p λh₃ C i=>Vm (YC (Vs (Vm (Vm (X8 ?_))))))))];have k2:=iO k1 h o1;have k3:=iO k2 i V;erw[Vm ((I2.keep (λY Y z=>z) λo e=>i.extBut _ _ D.TOi2.symm (h.extBut _ _ D.i12.symm (g.extBut _ _ D.i2z e))).nextOf k3 o2 λd M H l hd K=>Vs ?_)];have n:p4 M TO c η:=l.extBut _ _ D.TOi2 C;erw[Vm (WL n rfl (Vm (Zd n λf j k=>?_)))];replace j:p4 f TO c d:=j;erw[Vm (YC (Vs (Vs (Vm (WL j rfl ?_)))))];have P:f.objs.size=s.heap.objs.size:=by simp![k.1,l.1,i.1,h.1,g.1]
 have r:ah7 f z TI TO .ellipsis:=k.extBut _ _ D.TOz.symm (l.extBut _ _ D.i2z.symm (i.extBut _ _ D.TOz.symm (h.extBut _ _ D.i1z.symm L)));have F:z<f.objs.size:=Wm r;show ed _ _ (ae1 (.ref z) (.ref f.objs.size)>>=_) _ _ _;erw[Vm ?_];have I:ah7 (f.push {cls:=.type "tuple",data:=.seq #[c,d]}) z TI TO .ellipsis:=Vr _ r;erw[Vm (Wo I (by simp) λN m B=>?_)];replace m:ah7 N z TI TO (m5 f.objs.size):=m;erw[Wo m (by simp) λt w q=>?_];have S:∀c o,c≠z->f.get? c=some o->t.get? c=some o:=λc o G e=>q.extBut _ _ G (B.extBut _ _ G (Vr _ e));have u:p4 t f.objs.size c d:=q.extBut _ _ (WQ F) (B.extBut _ _ (WQ F) (VH _ rfl));rw[P]at w u;erw[Vs (m_12 _ rfl ?_)];rw[P];rwa[hQ c d t H w (S _ _ D.TOz j) ((J.keep (λY Y z=>z) λo e=>k.extBut _ _ D.TOi1.symm (l.extBut _ _ D.i12 (i.extBut _ _ D.TOi1.symm e))).keep (λY Y z=>z) λo e=>S _ o D.i1z e) ((K.keep (λY Y z=>z) λo e=>k.extBut _ _ D.TOi2.symm e).keep (λY Y z=>z) λo e=>S _ o D.i2z e) hc hd u λc o G T W c4 e=>S c o G ((λc o G T W c4 e=>k.extBut _ _ T (l.extBut _ _ c4 (i.extBut _ _ T (h.extBut _ _ W (g.extBut _ _ G e))))) c o G T W c4 e)]
theorem Ij(D:qB z TI TO O U)(J:F0.StaysIn s.heap)(N:F0.get? z=none)(i:F0.get? TO=none)(y:F0.get? O=none)(b:F0.get? U=none)(l:ah7 s.heap z TI TO .none)(g:p4 s.heap TI (.ref O) (.ref U))(h:p4 s.heap TO γ δ)(G:cW F0 s.heap O (x::xs))(t:cW F0 s.heap U (Z::ys))(w:∀c d T h' tk,ah7 h' z TI TO .none->p4 h' TI (.ref O) (.ref U)->p4 h' TO c d->cW F0 h' O xs->cW F0 h' U ys->DR F0 x c->DR F0 Z d->s.heap.get? T=none->h'.get? T=some (dA [c,d] 0)->(∀c o,c≠z->c≠TO->c≠O->c≠U->s.heap.get? c=some o->h'.get? c=some o)->P (.ref T) {s with heap:=h',toks:=tk}):ed MG A (z2 (.ref z)) (λr s'=>∃c,r=some c/\ed MG A (j3 (.Tuple elts ε ζ) (.ref z) c) (λY m=>P c m) E s') E s:=by
 have q:s.TypeIs (.ref z) "zip":=m_12 _ l rfl;erw[Vm (Za (wpAny_callSpecial?_slot (name:=m6 "__next__") q Zl (WY Zl q F.entry_zip_next (Ii D J N i y b l g h G t λc d h' tk u a M L I H K p=>Vs (m_12 _ rfl ?_)) (F.args_zip_next_1 _))))];rwa[wpAny_letOwnedTupleGo_zip u λk j f=>w c d _ k tk j (f.extBut _ _ D.TIz (p _ _ D.TIz D.TITO D.TIi1 D.TIi2 g)) (f.extBut _ _ D.TOz a) (M.keep (λY Y z=>z) λo e=>f.extBut _ _ D.i1z e) (L.keep (λY Y z=>z) λo e=>f.extBut _ _ D.i2z e) I H (bb _) (f.extBut _ _ (WQ (Wm l)) K) λδ o n B C v e=>f.extBut _ _ n (p δ o n B C v e)]
theorem Ik{b:ea}{Q:a9 (Option ea)}(V:A.handled=none)(D:qB z TI TO γ δ)(kF:F0.StaysIn s.heap)(oz:F0.get? z=none)(L:F0.get? TO=none)(o1:F0.get? γ=none)(w:ah7 s.heap z TI TO .none)(O:p4 s.heap TI (.ref γ) (.ref δ))(J:p4 s.heap TO ε b)(I1:cW F0 s.heap γ xs)(X:cW F0 s.heap δ ys)(B:xs=[]\/ys=[])(Z:∀h' tk,(∀c o,c≠z->c≠TO->c≠γ->c≠δ->s.heap.get? c=some o->h'.get? c=some o)->Q none {s with heap:=h',toks:=tk}):ed MG A (z2 (.ref z)) Q E s:=by
 injections xs ys b _ z A F0 s E TI TO γ δ ε Q;have S:s.TypeIs (.ref z) "zip":=m_12 _ w rfl;erw[Vm (Za (wpAny_callSpecial?_slot (name:=m6 "__next__") S Zl (WY Zl S F.entry_zip_next ?_ (F.args_zip_next_1 _))))];have U:∀h' tk e,(∀c o,c≠z->c≠TO->c≠γ->c≠δ->s.heap.get? c=some o->h'.get? c=some o)->(∃o,h'.get? e=some o/\o.cls=.type "StopIteration")->ed MG A (do if<-nc (.ref e) (.type "StopIteration")then pure none else throw (.ref e)) Q E {s with heap:=h',toks:=tk}:=λh' tk e hk⟨o,ho,W⟩=>Vm (ao8 (T:="StopIteration") (b:=true) (m_12 o ho W) isSubtype_stop (Vs (Z h' tk hk)));show ed _ _ (ak2 (.ref z) 2>>=_) _ _ _;erw[Vm (V5 w rfl (x:=.bool false) rfl (Vm (V5 w rfl (x:=.ref TI) rfl (Vm (WL O rfl (Vm (Vm (V5 w rfl (x:=.none) rfl (Vs (Vm (Xl (Vm (V5 w rfl (x:=.ref TO) rfl (Vm (Wo w (by simp) λh₁ p g=>Vm ?_)))))))))))))))];simp![ZP,aq6,Yy,ar6];erw[Vm (Vm (X8 ?_))];have k1:=iO kF g oz;have P:=I1.keep (F':=F0) (h':=h₁) (λY Y z=>z) λo e=>g.extBut _ _ D.i1z e;erw[ba λR=>?_];cases xs with
 |nil=>
  erw[R (Vm (P.stopOf V k1 λr e d K=>x_12 K λoe i m=>?_))];have l:ah7 r z TI TO .ellipsis:=d _ _ D.i1z.symm p;have v:e≠z:=λx=>by cases x;replace i:=Vn (am l) i;injection i with N;subst N;simp at m
  erw[Wo l (by simp) λt Y f=>U t s.toks e (λc o y Y M Y x=>f.extBut _ _ y (d _ _ M (g.extBut _ _ y x))) (m_12 oe (f.extBut _ _ v i) m)]
 |cons x xs=>
  erw[R ?_];have hy:ys=[]:=by rcases B with h|h;rwa[k_cn h];rwa[h]
  subst hy;erw[Vm (P.nextOf k1 o1 λc r u d W I=>Vs ?_)];have j:p4 r TO ε b:=d.extBut _ _ D.TOi1 (g.extBut _ _ D.TOz J);erw[Vm (WL j rfl (Vm (Zd j λt H f=>Vm (YC (Vs (Vm (Vm (X8 (Vm ((X.keep (F':=F0) (h':=t) (λY Y z=>z) λo e=>f.extBut _ _ D.TOi2.symm (d.extBut _ _ D.i12.symm (g.extBut _ _ D.i2z e))).stopOf V (iO (iO k1 d o1) f L) λC e q K=>x_12 K λoe i m=>?_))))))))))];have n:ah7 C z TI TO .ellipsis:=q _ _ D.i2z.symm (f.extBut _ _ D.TOz.symm (d.extBut _ _ D.i1z.symm p));have v:e≠z:=λx=>by cases x;replace i:=Vn (am n) i;injection i with N;subst N;simp at m
  erw[Wo n (by simp) λG Y k=>U G u e (λc o y c2 M c4 x=>k.extBut _ _ y (q _ _ c4 (f.extBut _ _ c2 (d.extBut _ _ M (g.extBut _ _ y x))))) (m_12 oe (k.extBut _ _ v i) m)]
end
section
open Builtin
noncomputable def b0(W:St)(h h':Heap)(P:Addr->Prop):St:=⟨only h' λa=>(∃o,W.F.get? a=some o)\/h.get? a=none/\ ¬P a,W.ρ⟩
section
variable{P:Addr->Prop}
def cz(W:St)(σ:ae)(P:Addr->Prop):Prop:=∀b,P b->W.F.get? b=none/\ ¬live σ W.ρ b
theorem Inv.priv(I:Inv W σ h)(f:cz W σ P)(k:∀b o,¬P b->h.get? b=some o->h'.get? b=some o):W.F.StaysIn (b0 W h h' P).F/\Inv (b0 W h h' P) σ h'/\(∀a o,h.get? a=none-> ¬P a->h'.get? a=some o->(b0 W h h' P).F.get? a=some o)/\cz (b0 W h h' P) σ P:=by
 injections σ _ h h' W P;have m:∀a o,W.F.get? a=some o-> ¬P a:=λa o e q=>by replace e:=Vn (am (f a q).1) e;rwa[k_nn e]
 have d:W.F.StaysIn (b0 W h h' P).F:=λa o e=>fz (.inl ⟨o,e⟩) (k a o (m a o e) (I.stays a o e));have s:∀{a},live σ W.ρ a-> ¬P a:=λl q=>(f _ q).2 l;erw[kS d ⟨λa o e=>d a o (I.known a o e),λa o e=>d a o (I.based a o e),λa o e=>(da e).2,I.len,λn o p j C i=>?_,λa l=>fe ?_,I.apart⟩ (λa o e y w=>fz (.inr ⟨e,y⟩) w) λb q=>⟨fe ?_,(f b q).2⟩]; ·have:=I.cell n o p j C i;have B: ¬P p.1:=s (cF j i C (.inl rfl));cases this with|list e g A=>rwa[.list e (k _ _ B g) (A.mono d)]|dict e g t D=>rwa[fi g λF E v x r=>.dict e (m_32 F E v (k _ _ B x) r) t (D.mono d)]|inst c z u A=>rwa[.inst c (k _ _ B z) (k _ _ (s (cF j i C (.inr rfl))) u) (A.mono d)]
 ·rintro(⟨o,e⟩|q); ·replace e:=Vn (am (I.off a l)) e;rwa[k_nn e]
  ·obtain⟨o,e⟩:=I.lt l;replace q:=(e)▸q;rwa[k_sn q.1]
 ·rintro(⟨o,e⟩|⟨_,q'⟩); ·rwa[m b o e q]
  ·rwa[q' q]
theorem Step.priv(S:Step W₀ σ₀ h₀ W σ h X)(I:Inv W σ h)(f:cz W σ P)(k:∀b o,¬P b->h.get? b=some o->h'.get? b=some o)(c:∀b,P b->h₀.get? b=none):Step W₀ σ₀ h₀ (b0 W h h' P) σ h' X where
 F:=λa o e=>(I.priv f k).1 a o (S.F a o e)
 ρ:=S.ρ
 newF:=λa o e=>by
  rcases da e with⟨⟨n,g⟩|q,m⟩; ·have:=(I.priv f k).1 a n g;replace this:=Vn (am e) this;injection this with l;subst l;rwa[S.newF a o g]
  ·rwa[.inr (.inr (S.dead q.1))]
 liv:=S.liv
 keep:=λb o e j i=>(S.keep b o e j i).trans λn d=>(k b n (λq=>by replace e:=Vn (am (c b q)) e;rwa[k_nn e]) d)▸Kept.refl n
 alive:=λb o e=>by obtain⟨n,d⟩:=S.alive b o e;rwa[⟨n,k b n (λq=>by replace e:=(c b q)▸e;rwa[k_nn e]) d⟩]
theorem cz.step(a:cz W σ P)(S:Step W σ h W' σ' h' X)(c:∀b,P b->∃o,h.get? b=some o):cz W' σ' P:=λb q=>by
 obtain⟨o,e⟩:=c b q;erw[⟨?_,λl=>?_⟩]
 ·cases d:W'.F.get? b with
  |none=>rfl
  |some f=>
   erw[Pg (S.newF b f d) (λh=>?_) (λh=>?_) λh=>?_]; ·replace h:=Vn (am (a b q).1) h;rwa[k_nn h]
   ·rwa[absurd h (a b q).2]
   ·replace h:=(e)▸h;rwa[k_sn h]
 ·rcases S.liv b l with h|h; ·rwa[(a b q).2 h]
  ·replace h:=Vn (am e) h;rwa[k_sn h]
end
section
variable{a b c d e x:α}{l:List α}
theorem Sf:b∈a::b::l:=.tail _ (.head _)
theorem Ti:c∈a::b::c::l:=.tail _ Sf
theorem Tj:d∈a::b::c::d::l:=.tail _ Ti
theorem UT:e∈a::b::c::d::e::l:=.tail _ Tj
theorem Aj(h:x∉a::l):x≠a:=λz=>h (z▸.head _)
theorem xf(h:x∉a::l):x∉l:=λz=>h (.tail _ z)
theorem Rr{R:α->Prop}:∀x∈([]:List α),R x:=λY h=>k_mn h
theorem He{R:α->Prop}(h:R a)(t:∀x∈l,R x):∀x∈a::l,R x:=λY z=>(VD.mp z).elim (λq=>q▸h) (t _)
end
section
theorem lot_none{Q:a9 Unit}(b:s.heap.get? a=some o)(d:o.cls=.type m)(e:(["enumerate","zip","dict_itemiterator","dict_reverseitemiterator","odict_iterator","itertools.zip_longest","itertools.pairwise"]:List String).contains m=false)(q:Q () s):ed g A (j3 tgt (.ref a) c) Q E s:=by
 have two:ed g A (j3 (.Tuple [] 0 default) (.ref a) c) Q E s:=by
  obtain⟨⟩:=c<;>first|rwa[Vs q]|skip
  erw[Vm (wpAny_load b (d▸?_))];obtain⟨⟩:=o.data<;>first|rwa[Vs q]|skip
  dsimp only;rw[WO (by rw[e,Bool.false_and];rwa[nofun])];rwa[Vs q]
 obtain⟨⟩:=tgt<;>first|rwa[Vs q]|rwa[two]
theorem cW.lot{Q:a9 Unit}(I:cW F0 s.heap a xs)(q:Q () s):ed g A (j3 tgt (.ref a) c) Q E s:=by cases I with|list h _ _=>rwa[gJ h λo d b Y=>lot_none d b (by rfl) q]|tuple h _ _=>rwa[gJ h λo d b Y=>lot_none d b (by rfl) q]|bytes h _=>rwa[gJ h λo d b Y=>lot_none d b (by rfl) q]|str e h _=>erw[gJ h λo d b Y=>?_];clear h;rcases e with rfl|rfl<;>rwa[lot_none d b (by rfl) q]
def Plain(h:Heap)(b:Addr):Prop:=∃o,h.get? b=some o/\∀es n,o.data≠.dict es n
theorem cW.self(I:cW F0 s.heap a xs)(q:Q (.ref a) s):ed MG A (SF (.ref a)) Q E s:=by
 cases I with
 |list h _ _=>rwa[aa3 h q]
 |tuple h _ _=>rwa[wpAny_pyIter_tupleiter h q]
 |bytes h _=>rwa[KBw.pyIter_self h q]
 |str b h _=>
  rcases b with rfl|rfl; ·rwa[wpAny_pyIter_striter_ascii h q]
  ·rwa[wpAny_pyIter_striter_wide h q]
theorem El{c:Obj->Prop}(i:∃o,h.get? a=some o/\c o/\o.data=.fields g):Plain h a:=gJ i λo b Y hd=>m_12 o b λd n q=>nomatch hd.symm.trans q
theorem cW.plain(I:cW F0 h a xs):Plain h a:=by cases I with|list h _ _=>rwa[El h]|tuple h _ _=>rwa[El h]|bytes h _=>rwa[El h]|str _ h _=>rwa[El h]
structure Walk(a:Addr)(fp wr:List Addr)(pr:Bool)(P:Heap->Heap->List Dat->Prop):Prop where
 sub:∀b∈wr,b∈fp
 keep:∀{F0 F1 h h' xs},P F0 h xs->F0.StaysIn F1->(∀b∈fp,∀o,h.get? b=some o->h'.get? b=some o)->P F1 h' xs
 there:∀{F h xs},P F h xs->∀b∈fp,Plain h b
 self:∀{A:kx}{Q E:a8}{s:eN}{F0 xs},P F0 s.heap xs->Q (.ref a) s->ed MG A (SF (.ref a)) Q E s
 turn:∀{A:kx}{Q E:a8}{s:eN}{tgt F0 x xs},P F0 s.heap (x::xs)->F0.StaysIn s.heap->(∀b∈fp,F0.get? b=none)->(pr=true->isTup tgt=true)->(∀c h' tk,(∀b o,b∉wr->s.heap.get? b=some o->h'.get? b=some o)->(∀F1:Heap,F0.StaysIn F1->(∀b o,s.heap.get? b=none->h'.get? b=some o->F1.get? b=some o)->DR F1 x c/\P F1 h' xs)->Q c {s with heap:=h',toks:=tk})->ed MG A (z2 (.ref a)) (λr s'=>∃c,r=some c/\ed MG A (j3 tgt (.ref a) c) (λY s''=>Q c s'') E s') E s
 stop:∀{A:kx}{Q:a9 (Option ea)}{E:a8}{s:eN}{F0},A.handled=none->P F0 s.heap []->F0.StaysIn s.heap->(∀b∈fp,b∉wr\/F0.get? b=none)->(∀h' tk,(∀b o,b∉wr->s.heap.get? b=some o->h'.get? b=some o)->Q none {s with heap:=h',toks:=tk})->ed MG A (z2 (.ref a)) Q E s
theorem Mv:Walk a [a] [a] false λF h xs=>cW F h a xs where
 sub _:=id
 keep i k e:=i.keep k (e _ (.head _))
 there i:=He i.plain Rr
 self:=cW.self
 turn i f _ _ q:=i.next f λc h' tk hs j g=>m_12 c rfl (g.lot (q c h' tk (λb o d e=>hs.extBut b o (Aj d) e) λl k1 Y=>⟨j.mono k1,g.keep k1 λo e=>e⟩))
 stop hh i f _ q:=i.stop hh f λh' hs=>q h' _ λb o d e=>hs b o (Aj d) e
theorem FH(w:l≠a):Walk a [a,l] [a] false λF h xs=>∃vs n i,h.IsListIter a l i/\h.get? l=some (cM vs n)/\c9 F xs (vs.drop i)where
 sub:=He (.head _) Rr
 keep p k e:=bw p λvs n i d h2 u=>x_12 d λo g r=>m_33 vs n i (m_12 o (e _ (.head _) o g) r) (e _ Sf _ h2) (u.mono k)
 there p:=bw p λvs n i d h2 u=>gJ d λo g Y hd=>He (m_12 o g λes n q=>by rw[hd]at q;rwa[nomatch q]) (He (m_12 _ h2 λY Y q=>nomatch q) Rr)
 self p q:=bw p λvs n i d Y Y=>aa3 d q
 turn p kF _ _ q:=bw p λvs n i d h2 j=>by erw[fw j.co λc cs e x s=>hJ (λy v=>YL d ⟨_,h2,rfl,_,rfl⟩ (by simpa using y) λh' f hs=>m_12 c rfl ?_) (drop_cons e)];rwa[gJ (id f) λo g t hd=>lot_none g t rfl (q c h' _ (λb o m e=>hs.extBut b o (Aj m) e) λz k1 Y=>⟨x.mono k1,m_33 vs n (i+1) f (hs.extBut _ _ w h2) (v▸s.mono k1)⟩)]
 stop hh p kF _ q:=bw p λvs n i d h2 j=>YX hh d ⟨_,h2,rfl,_,rfl⟩ (by simpa using drop_nil j.ni) λh' hs=>q h' _ λb o m e=>hs b o (Aj m) e
theorem CP:Walk a [a] [a] false λY h xs=>∃x n c,xs=d7 x n c/\IsRangeIter h a x (n:Int) c where
 sub _:=id
 keep p _ e:=fi p λx n c f h2=>m_32 x n c f (e _ (.head _) _ h2)
 there p:=fi p λx n c f h2=>He (m_12 _ h2 λY Y q=>nomatch q) Rr
 self p q:=fi p λx n c Y h=>wpAny_pyIter_rangeiter h q
 turn p _ _ _ q:=fi p λx n c g f=>by cases n with|zero=>rwa[k_cn g]|succ n=>erw[wpAny_pyNext_range_item f (by lia) λh' d hs=>m_12 _ rfl (lot_none d rfl rfl (q _ h' _ (λb o i e=>hs.extBut b o (Aj i) e) λj k1 Y=>⟨(XH g).1▸.int,m_32 _ n c (XH g).2 ?_⟩))];rw[show((n+1:Nat):Int)-1=(n:Nat)by lia]at d;rwa[d]
 stop hh p _ _ q:=fi p λx n c g f=>by cases n with|succ n=>rwa[L1 g]|zero=>rwa[wpAny_pyNext_range_end hh f (by trivial) λh' hs=>q h' _ λb o i e=>hs b o (Aj i) e]
theorem Il{C:Prop}(h:isTup t=true)(k:∀l c p,t=.Tuple l c p->C):C:=by obtain⟨b,a⟩:=V4.mp h;rwa[yh a (P:=λt=>(∀l c p,t=.Tuple l c p->C)->C) (λj p k=>k _ _ _ rfl) k]
theorem FI(t:a≠B):Walk a [a,B] [a,B] true λF h xs=>∃(n:Nat)(i:ea)(ys:List Dat),xs=kY n ys/\ag9 h a B n i/\cW F h B ys where
 sub _:=id
 keep p k e:=bw p λn i ys h d h2=>m_33 n i ys h (e _ (.head _) _ d) (h2.keep k λo=>e _ Sf o)
 there p:=bw p λn i ys Y d h2=>He (m_12 _ d λY Y q=>nomatch q) (He h2.plain Rr)
 self p q:=bw p λn i ys Y h Y=>wpAny_pyIter_enum h q
 turn p kF off ht q:=bw p λn i ys f d h2=>by cases ys with|nil=>rwa[k_cn f]|cons z j=>rwa[Il (ht rfl) λl c p e=>(e)▸FF kF (off _ (.head _)) (off _ Sf) d h2 t λc T h' tk u m a2 w v s r=>q _ h' tk (λb o g e=>r b o (Aj g) (Aj (xf g)) e) λx k1 k2=>⟨(XH f).1▸.tuple (k2 _ _ v s) (.cons .int (.cons (w.mono k1) .nil)),m_33 _ _ j (XH f).2 m (a2.keep k1 λo e=>e)⟩]
 stop hh p kF _ q:=bw p λn i ys f d h2=>by cases ys with|cons z j=>rwa[L1 f]|nil=>rwa[FG hh kF d h2 λh' hs=>q h' _ λb o g e=>hs b o (Aj (xf g)) e]
theorem Im(D:qB a N U O Z):Walk a [a,N,U,O,Z] [a,N,U,O,Z] true λF h xs=>∃x y f vs,xs=zS f vs/\ah7 h a N U .none/\p4 h N (.ref O) (.ref Z)/\p4 h U x y/\cW F h O f/\cW F h Z vs where
 sub _:=id
 keep p k e:=Fg p λx y f vs h m t s r n=>LW x y f vs h (e _ (.head _) _ m) (e _ Sf _ t) (e _ Ti _ s) (r.keep k (e _ Tj)) (n.keep k (e _ UT))
 there p:=Fg p λx y f vs h m t s r n=>He (m_12 _ m λY Y q=>nomatch q) (He (m_12 _ t λY Y q=>nomatch q) (He (m_12 _ s λY Y q=>nomatch q) (He r.plain (He n.plain Rr))))
 self p q:=Fg p λx y f vs Y m Y Y Y Y=>wpAny_pyIter_zip m q
 turn p kF off ht q:=Fg p λx y f vs w m t s r n=>by erw[ba λA=>?_];cases f with|nil=>rwa[k_cn w]|cons u f=>erw[A (ba λA=>?_)];cases vs with|nil=>rwa[k_cn w]|cons v vs=>rwa[A (Il (ht rfl) λl c p e=>(e)▸Ij D kF (off _ (.head _)) (off _ Ti) (off _ Tj) (off _ UT) m t s r n λc d N h' tk C a2 K J G E I H L B=>q _ h' tk (λb o g e=>B b o (Aj g) (Aj (xf (xf g))) (Aj (xf (xf (xf g)))) (Aj (xf (xf (xf (xf g))))) e) λi k1 k2=>⟨(XH w).1▸.tuple (k2 _ _ H L) (.cons (E.mono k1) (.cons (I.mono k1) .nil)),LW _ _ f vs (XH w).2 C a2 K (J.keep k1 λo e=>e) (G.keep k1 λo e=>e)⟩)]
 stop hh p kF off q:=Fg p λx y f vs w m t s r n=>by have o{b}g:=(off b g).resolve_left λz=>z g;rwa[Ik hh D kF (o (.head _)) (o Ti) (o Tj) m t s r n (by clear n;clear r;cases f with|nil=>rwa[.inl rfl]|cons u f=>cases vs with|nil=>rwa[.inr rfl]|cons v vs=>rwa[L1 w]) λh' tk hs=>q h' tk λb o g e=>hs b o (Aj g) (Aj (xf (xf g))) (Aj (xf (xf (xf g)))) (Aj (xf (xf (xf (xf g))))) e]
def fu(F h:Heap)(a:Addr)(fp wr:List Addr)(pr:Bool)(xs:List Dat):Prop:=∃P,Walk a fp wr pr P/\P F h xs
theorem fu.keep(I:fu F0 h a fp wr pr xs)(k:F0.StaysIn F1)(e:∀b∈fp,∀o,h.get? b=some o->h'.get? b=some o):fu F1 h' a fp wr pr xs:=x_12 I λP w p=>m_12 P w (w.keep p k e)
theorem fu.there(I:fu F0 h a fp wr pr xs):∀b∈fp,∃o,h.get? b=some o:=x_12 I λP w p b c=>x_12 (w.there p b c) λo e Y=>⟨o,e⟩
theorem fu.noDict(I:fu F0 h a fp wr pr xs):∀b∈fp,∀o,h.get? b=some o->∀es n,o.data≠.dict es n:=x_12 I λP w p b c o e=>x_12 (w.there p b c) λg f d=>Vp (f.symm.trans e)▸d
theorem fu.sub(I:fu F0 h a fp wr pr xs):∀b∈wr,b∈fp:=x_12 I λP w p=>w.sub
theorem fu.self(I:fu F0 s.heap a fp wr pr xs)(q:Q (.ref a) s):ed MG A (SF (.ref a)) Q E s:=x_12 I λP w p=>w.self p q
theorem fu.turn(I:fu F0 s.heap a fp wr pr (x::xs))(g:F0.StaysIn s.heap)(e:∀b∈fp,F0.get? b=none)(h:pr=true->isTup tgt=true)(q:∀c h' tk,(∀b o,b∉wr->s.heap.get? b=some o->h'.get? b=some o)->(∀d:Heap,F0.StaysIn d->(∀b o,s.heap.get? b=none->h'.get? b=some o->d.get? b=some o)->DR d x c/\fu d h' a fp wr pr xs)->Q c {s with heap:=h',toks:=tk}):ed MG A (z2 (.ref a)) (λr s'=>∃c,r=some c/\ed MG A (j3 tgt (.ref a) c) (λY f=>Q c f) E s') E s:=x_12 I λP w p=>w.turn p g e h λc h' tk u v=>q c h' tk u λd i j=>(v d i j).imp id λz=>m_12 P w z
theorem fu.stop{Q:a9 (Option ea)}(d:A.handled=none)(I:fu F0 s.heap a fp wr pr [])(e:F0.StaysIn s.heap)(c:∀b∈fp,b∉wr\/F0.get? b=none)(q:∀h' tk,(∀b o,b∉wr->s.heap.get? b=some o->h'.get? b=some o)->Q none {s with heap:=h',toks:=tk}):ed MG A (z2 (.ref a)) Q E s:=x_12 I λP w p=>w.stop d p e c q
theorem fu.plain(i:cW F0 h a xs):fu F0 h a [a] [a] false xs:=m_12 _ Mv i
theorem fu.cell{vs:List ea}(c:h.IsListIter a l i)(d:h.get? l=some (cM vs n))(b:l≠a)(hd:c9 F0 xs (vs.drop i)):fu F0 h a [a,l] [a] false xs:=m_12 _ (FH b) (m_33 vs n i c d hd)
theorem fu.range(b:IsRangeIter h a g (n:Int) m):fu F0 h a [a] [a] false (d7 g n m):=m_12 _ CP (m_32 g n m rfl b)
theorem fu.enum(d:ag9 h a it ((i:Nat):Int) old)(b:cW F0 h it xs)(c:a≠it):fu F0 h a [a,it] [a,it] true (kY i xs):=m_12 _ (FI c) (m_33 i old xs rfl d b)
theorem fu.zip(D:qB a m U t w)(g:ah7 h a m U .none)(f:p4 h m (.ref t) (.ref w))(e:p4 h U B G)(d:cW F0 h t H)(c:cW F0 h w vs):fu F0 h a [a,m,U,t,w] [a,m,U,t,w] true (zS H vs):=m_12 _ (Im D) (LW B G H vs rfl g f e d c)
end
end
section
open Builtin
open AutoSeq1(wpAny_loadPart')
theorem qC(l:Addr)(j:List ea)n:Meets (Builtin.«enumerate.__new__» ⟨[.type "enumerate",.ref l],[]⟩) λY R s=>s.heap.get? l=some (dA j n)/\R (.ok (.ret (.ref (s.heap.push {cls:=.type "tuple_iterator",data:=.fields #[.ref l,.int 0 0]}).objs.size))) {s with heap:=(s.heap.push {cls:=.type "tuple_iterator",data:=.fields #[.ref l,.int 0 0]}).push {cls:=.type "enumerate",data:=.fields #[.none,.bool false,.ref s.heap.objs.size,m5 0,.none,.none]}}:=.of_wp λi w A R s h=>by
 obtain⟨f,g,d,m,k⟩:=s;obtain⟨a,h⟩:=h;have c:=sub_enumerate;have e:Heap.IsTuple (pk ⟨f,g,d,m,k⟩) l j.toArray:=⟨_,a,rfl,n,rfl⟩;wp_walk using Ic a;erw[wpAny_stack_any λst=>Vs ?_];generalize SmallTypes.calledThroughType.match_1 (motive:=λY=>Bool) (ai0 1 st) _ _=b;cases b; ·wp_walk using Ic a,ZA e;rwa[⟨_,rfl,h⟩]
 ·wp_walk using Ic a,ZA e;rwa[⟨_,rfl,h⟩]
theorem qD(b:Array UInt8)(t:Tok):Meets (Builtin.«enumerate.__new__» ⟨[.type "enumerate",.bytes b t],[]⟩) λY R s=>R (.ok (.ret (.ref (s.heap.push {cls:=.type "bytes_iterator",data:=.fields #[.bytes b t,.int 0 0]}).objs.size))) {s with heap:=(s.heap.push {cls:=.type "bytes_iterator",data:=.fields #[.bytes b t,.int 0 0]}).push {cls:=.type "enumerate",data:=.fields #[.none,.bool false,.ref s.heap.objs.size,m5 0,.none,.none]}}:=.of_wp λe w A R s h=>by
 obtain⟨c,g,d,f,i⟩:=s;have a:=sub_enumerate;wp_walk;erw[wpAny_stack_any λst=>Vs ?_];generalize SmallTypes.calledThroughType.match_1 (motive:=λY=>Bool) (ai0 1 st) _ _=b;cases b; ·wp_walk using ZT;rwa[⟨_,rfl,h⟩]
 ·wp_walk using ZT;rwa[⟨_,rfl,h⟩]
theorem yt{f:Obj}(e:f.isFreed=false)(m:Meets (Builtin.«enumerate.__new__» ⟨[.type "enumerate",src],[]⟩) λY R s'=>s'.heap=s.heap/\R (.ok (.ret (.ref (s'.heap.push f).objs.size))) {s' with heap:=(s'.heap.push f).push {cls:=.type "enumerate",data:=.fields #[.none,.bool false,.ref s'.heap.objs.size,m5 0,.none,.none]}})(h:∀h',ag9 h' (s.heap.objs.size+1) s.heap.objs.size 0 .none->h'.get? s.heap.objs.size=some f->(∀b o,s.heap.get? b=some o->h'.get? b=some o)->h'.objs.size=s.heap.objs.size+2->Q (.ref (s.heap.objs.size+1)) {s with heap:=h'}):ed MG A (ec (.type "enumerate") [src]) Q E s:=by
 erw[ae0 F.called_enumerate (by rfl) (F.typeCall_enumerate_1 _) (F.newCall_enumerate_1 _) (λa=>aa8 a _) F.entry_enumerate_new m ⟨rfl,?_⟩];have c:(s.heap.push f).objs.size=s.heap.objs.size+1:=Wy ..;erw[(c)▸?_];have d:ag9 ((s.heap.push f).push {cls:=.type "enumerate",data:=.fields #[.none,.bool false,.ref s.heap.objs.size,m5 0,.none,.none]}) (s.heap.objs.size+1) s.heap.objs.size 0 .none:=by have:=VH (s.heap.push f) (o:={cls:=.type "enumerate",data:=.fields #[.none,.bool false,.ref s.heap.objs.size,m5 0,.none,.none]}) rfl;rw[c]at this;rwa[this]
 rwa[⟨m_12 _ d rfl,h _ d (Vr _ (VH _ e)) (λb o x=>Vr _ (Vr _ x)) (by rw[Wy,c])⟩]
def nG(h:Heap)(k:Bool)(l:Addr)(vs:List ea)(n:Nat):Prop:=match k with|true=>h.get? l=some (cM vs n)|false=>h.get? l=some (dA vs n)
noncomputable def Ak(k:Bool)(l:Addr):Obj:=match k with|true=>{cls:=.type "list_iterator",data:=.fields #[.ref l,.int 0 0]}|false=>{cls:=.type "tuple_iterator",data:=.fields #[.ref l,.int 0 0]}
theorem s7(k:Bool)(l:Addr):(Ak k l).isFreed=false:=by obtain⟨⟩:=k<;>rfl
theorem nG.push(x:nG h g l vs n)(o:Obj):nG (h.push o) g l vs n:=by obtain⟨⟩:=g<;>rwa[Vr _ x]
theorem Io(x:nG s.heap g l vs n)(q:Q (.ref s.heap.objs.size) {s with heap:=s.heap.push (Ak g l)}):ed (n4 prog w) A (SF (.ref l)) Q E s:=by cases g with|true=>rwa[YJ (items:=vs.toArray) ⟨_,x,rfl,_,rfl⟩ q]|false=>rwa[ZA (items:=vs.toArray) ⟨_,x,rfl,_,rfl⟩ q]
abbrev Tn(h:Heap)(k1:Bool)(l1:Addr):Heap:=h.push (Ak k1 l1)
abbrev To(h:Heap)(k1 k2:Bool)(l1 l2:Addr):Heap:=(Tn h k1 l1).push (Ak k2 l2)
abbrev Tp(h:Heap)(k1 k2:Bool)(l1 l2:Addr):Heap:=(To h k1 k2 l1 l2).push {cls:=.type "tuple",data:=.seq #[.ref h.objs.size,.ref (Tn h k1 l1).objs.size]}
abbrev Tq(h:Heap)(k1 k2:Bool)(l1 l2:Addr):Heap:=(Tp h k1 k2 l1 l2).push {cls:=.type "tuple",data:=.seq #[.none,.none]}
abbrev Sh(h:Heap)(k1 k2:Bool)(l1 l2:Addr):Heap:=(Tq h k1 k2 l1 l2).push {cls:=.type "zip",data:=.fields #[.none,.bool false,.bool false,.ref (To h k1 k2 l1 l2).objs.size,.ref (Tp h k1 k2 l1 l2).objs.size]}
theorem CQ(n o:Bool)(a b:Addr)(q p:List ea)(l k:Nat):Meets (Builtin.«zip.__new__» ⟨[.type "zip",.ref a,.ref b],[]⟩) λY R s=>nG s.heap n a q l/\nG s.heap o b p k/\R (.ok (.ret (.ref (Tq s.heap n o a b).objs.size))) {s with heap:=Sh s.heap n o a b}:=by injections q p l k _ n o a b;rwa[.of_wp λr w A R s h=>by obtain⟨m,g,d,u,t⟩:=s;obtain⟨f,c,h⟩:=h;have j:=sub_zip;have i:nG (pk ⟨m,g,d,u,t⟩) n a q l:=f;have e:nG (pk ⟨m.push (Ak n a),g,d,u,t⟩) o b p k:=c.push _;wp_walk using Io i,Io e;rwa[⟨_,rfl,h⟩]]
theorem FJ(l:nG s.heap k1 t B G)(i:nG s.heap k2 w D m)(h:∀h',ah7 h' (s.heap.objs.size+4) (s.heap.objs.size+2) (s.heap.objs.size+3) .none->p4 h' (s.heap.objs.size+2) (.ref s.heap.objs.size) (.ref (s.heap.objs.size+1))->p4 h' (s.heap.objs.size+3) .none .none->h'.get? s.heap.objs.size=some (Ak k1 t)->h'.get? (s.heap.objs.size+1)=some (Ak k2 w)->(∀c o,s.heap.get? c=some o->h'.get? c=some o)->h'.objs.size=s.heap.objs.size+5->Q (.ref (s.heap.objs.size+4)) {s with heap:=h'}):ed MG A (ec (.type "zip") [.ref t,.ref w]) Q E s:=by
 injections A B G D m _ s Q E k1 t k2 w;erw[ae0 F.called_zip (by rfl) (F.typeCall_zip_2 _ _) (F.newCall_zip_2 _ _) (λk=>F.args_object_init_3 k _ _) F.entry_zip_new (CQ k1 k2 t w B D G m) (m_03 l i ?_)];have d:(Tn s.heap k1 t).objs.size=s.heap.objs.size+1:=Wy ..;have j:(To s.heap k1 k2 t w).objs.size=s.heap.objs.size+2:=by rw[Wy,d]
 have f:(Tp s.heap k1 k2 t w).objs.size=s.heap.objs.size+3:=by rw[Wy,j]
 have e:(Tq s.heap k1 k2 t w).objs.size=s.heap.objs.size+4:=by rw[Wy,f]
 have g:(Sh s.heap k1 k2 t w).get? (Tq s.heap k1 k2 t w).objs.size=some _:=VH _ rfl;have n:(Sh s.heap k1 k2 t w).get? (Tp s.heap k1 k2 t w).objs.size=some _:=Vr _ (VH _ rfl);have q:(Sh s.heap k1 k2 t w).get? (To s.heap k1 k2 t w).objs.size=some _:=Vr _ (Vr _ (VH _ rfl));have r:(Sh s.heap k1 k2 t w).get? (Tn s.heap k1 t).objs.size=some (Ak k2 w):=Vr _ (Vr _ (Vr _ (VH _ (s7 ..))));rw[j,f,e]at g;rw[d,j]at q;rw[f]at n;rw[d]at r;rw[e];rwa[⟨m_12 _ g rfl,h _ g q n (Vr _ (Vr _ (Vr _ (Vr _ (VH _ (s7 ..)))))) r (λc o x=>Vr _ (Vr _ (Vr _ (Vr _ (Vr _ x))))) (by rw[Wy,e])⟩]
section
inductive SrcR(W:St)(σ:ae)(h₀ h:Heap):Src->ea->Prop where|items{x xs c:_}:DR W.F x c->itemsOf σ (.d x)=some xs->SrcR W σ h₀ h (.items xs) c|cell{n c:_}:VR W (.cell n) c->SrcR W σ h₀ h (.cell n) c|range{r a b c t u v n:_}:W.F.get? r=some {cls:=.type "range",data:=.fields #[.int a t,.int b u,.int c v]}->ae7 a b c=true->hj a b c=((n:Nat):Int)->SrcR W σ h₀ h (.items (d7 a n c)) (.ref r)|own{a fp xs:_}:fu W.F h a fp fp true xs->cz W σ (· ∈fp)->(∀b∈fp,h₀.get? b=none)->SrcR W σ h₀ h (.pairs xs) (.ref a)
noncomputable abbrev RS(h₀:Heap):St->ae->Src->a8:=λW σ r c s=>SrcR W σ h₀ s.heap r c
theorem Ref.own(I:Inv W σ s.heap)(P:Addr->Prop)(c:∀g,P g->s.heap.get? g=none)(h:∀(Q:a9 α)(E:a8),(∀a h' tk,(∀g o,s.heap.get? g=some o->h'.get? g=some o)->R (b0 W s.heap h' P) σ g a {s with heap:=h',toks:=tk}->Q a {s with heap:=h',toks:=tk})->ed MG A t Q E s):Ref A L X W σ s t (.ok g σ) R:=λY Q E q Y=>by
 have d:cz W σ P:=λg q=>by
  erw[⟨?_,λl=>?_⟩]; ·cases e:W.F.get? g with|none=>rfl|some o=>have:=I.stays g o e;replace this:=Vn (am (c g q)) this;rwa[k_nn this]
  ·obtain⟨o,e⟩:=I.lt l;replace e:=Vn (am (c g q)) e;rwa[k_nn e]
 rwa[h Q E λa h' tk k r=>q a g σ (b0 W s.heap h' P) {s with heap:=h',toks:=tk} rfl (I.priv d λg o Y=>k g o).2.1 ((Step.refl W σ s.heap X).priv I d (λg o Y=>k g o) c) ⟨rfl,rfl,rfl⟩ r]
end
end
section
open Builtin
section
theorem CU{b:Int}(d:0<m)(h: -10000000<=b):hj 0 b m=((((b-0+m-1).fdiv m).toNat:Nat):Int)\/b<0/\m=1/\hj 0 b m=((((b-0+m-1).fdiv m).toNat:Nat):Int)\/b<0:=by
 injections m b;by_cases f:b<0; ·rwa[.inr (.inr f)]
 ·left;erw[Vn (WG d) ?_];have e:(b-0+m-1).fdiv m=(b-1)/m+1\/b=0:=by
   by_cases g:b=0; ·rwa[.inr g]
   ·left;erw[Vn (Wq _ (xZ d)) ?_];have:b-0+m-1=b-1+m*1:=by simp +arith only
    rw[this,Int.add_mul_ediv_left _ _ (Int.ne_of_gt (xZ d))]
  by_cases a:0<b
  ·erw[Vn (WG a) ?_];rcases e with e|e
   ·rw[e];have:0<=(b-1)/m:=ar3 (xZ a) (by omega);rw[XJ (xZ this)];have:b-0-1=b-1:=by simp +arith only
    rw[this]
   ·omega
  ·erw[Vn (WO a) ?_];have:b=0:=ar1 (xZ (Zt.mp a)) (xZ (Zt.mp f))
   rw[this];rw[Wq _ (by omega)];have:(0-0+m-1)/m=0:=Int.ediv_eq_zero_of_lt (xZ d) (by simp +arith only);rw[this];rfl
theorem rm(a:0<t)(e:t<=1000)(f: -10000000<=m)(d:m<=10000000):ae7 0 m t=true:=by
 have b:0<=hj 0 m t/\hj 0 m t<=10000001:=by
  delta hj;erw[(WG a)▸?_];split; ·have c:0<=(m-0-1)/t:=ar3 (by omega) (xZ a);have g:(m-0-1)/t<=m-0-1:=Int.ediv_le_self _ (by omega);omega
  ·rwa[⟨by simp +arith only,by simp +arith only⟩]
 dsimp![ae7,Builtin.Range.rangeFitsLong];simp![WG a];simp![Vq,Wz,Vx];erw[⟨⟨⟨⟨?_,?_⟩,?_⟩,?_⟩,?_⟩]<;>first|lia|(lia)|skip
theorem CV(I:Inv W σ s.heap)(a: -10000000<=g)(c:g<=10000000):Ref A L X W σ s (ec (.type "range") [.int g t]) (.ok (.items (kX 0 g 1)) σ) (RS s.heap):=cI I λQ E q=>call_range_1 (q _ _ _ (λg o e=>Vr _ e) (.range (gQ (bb _) (VH _ rfl)) (rm (by simp +arith only) (by simp +arith only) a c) (by erw[Vn (WG (by simp +arith only)) ?_];rw[Int.fdiv_one];split<;>lia)))
theorem CW{b:Int}{v:Tok}(I:Inv W σ s.heap)(a:0<w)(d:w<=1000)(f:0<=b)(g:b<=10000000):Ref A L X W σ s (ec (.type "range") [.int 0 t,.int b u,.int w v]) (.ok (.items (kX 0 b w)) σ) (RS s.heap):=by
 erw[cI I λQ E q=>call_range_3 (Int.ne_of_gt (xZ a)) (q _ _ _ (λb o e=>Vr _ e) ?_) (.inl (ZL ?_))]
 ·rwa[.range (gQ (bb _) (VH _ rfl)) (rm a d (xZ f) g) (by
   rcases CU a (b:=b) (by omega)with h|⟨h,_⟩|h; ·rwa[h]
   ·omega
   ·omega)]
 ·have:w.natAbs.log2<100:=(af6 (by omega)).mpr (by
   have:w.natAbs<=1000:=by omega
   rwa[Wv this #v[]]);rwa[a_1 this]
theorem su(hv:VR W v c)(h:Hx v=some xs):∃a k vs n,c=.ref a/\nG W.F k a vs n/\c9 W.F xs vs:=bO h (λh=>bw (k7 hv h) λa vs n e b d=>LV a false vs n e b d) λh=>bw (nA hv h) λa vs n e b d=>LV a true vs n e b d
theorem Mw:m9 σ (.d x)=Hx (.d x):=by show gP (Hl (.d x)) (gP (Hm (.d x)) none)=gP (Hl (.d x)) (Hm (.d x));cases Hm (.d x)<;>rfl
theorem nG.stays(x:nG F g a vs n)(st:F.StaysIn h):nG h g a vs n:=by obtain⟨⟩:=g<;>rwa[st _ _ x]
theorem la{k:Bool}{i:Addr}(x:nG F k a vs n)(e:h.get? i=some (Ak k a))(hd:c9 F xs vs):cW F h i xs:=by cases k with|true=>rwa[.list (l:=a) (vs:=vs) (n:=n) (i:=0) (ia _ e rfl rfl) x (hd)]|false=>rwa[.tuple (l:=a) (vs:=vs) (n:=n) (i:=0) (ia _ e rfl rfl) x (hd)]
theorem nH{P:Addr->Prop}(I:Inv W σ s.heap)(a:∀b,P b->s.heap.get? b=none):cz W σ P:=λb q=>by
 erw[⟨?_,λl=>?_⟩]; ·cases e:W.F.get? b with|none=>rfl|some o=>have:=I.stays b o e;replace this:=Vn (am (a b q)) this;rwa[k_nn this]
 ·obtain⟨o,e⟩:=I.lt l;replace e:=Vn (am (a b q)) e;rwa[k_nn e]
theorem s8{o1:Obj}(I:Inv W σ s.heap)(k:o1.isFreed=false)(m:Meets (Builtin.«enumerate.__new__» ⟨[.type "enumerate",src],[]⟩) λY R s'=>s'.heap=s.heap/\R (.ok (.ret (.ref (s'.heap.push o1).objs.size))) {s' with heap:=(s'.heap.push o1).push {cls:=.type "enumerate",data:=.fields #[.none,.bool false,.ref s'.heap.objs.size,m5 0,.none,.none]}})(d:∀F h,W.F.StaysIn F->h.get? s.heap.objs.size=some o1->cW F h s.heap.objs.size xs):Ref A L X W σ s (ec (.type "enumerate") [src]) (.ok (.pairs (kY 0 xs)) σ) (RS s.heap):=by
 have a:∀b,b∈[s.heap.objs.size+1,s.heap.objs.size]->s.heap.get? b=none:=λb c=>Xg (by
  rcases VD.mp c with e|c; ·rwa[e▸YE _]
  ·rwa[Vy.mp c▸VM _]);erw[Ref.own I (· ∈[s.heap.objs.size+1,s.heap.objs.size]) a λQ E q=>yt k m λh' j n f l=>q _ h' s.toks f ?_];have g:=I.priv (h':=h') (nH I a) λb o Y=>f b o;rwa[.own (.enum (i:=0) j (d _ _ g.1 n) (ZU _)) g.2.2.2 a]
theorem CY(b:g="range"\/g="zip"\/g="enumerate")(a:m="range"\/m="zip"\/m="enumerate")(h:(S g==S m)=true):g=m:=by rcases b with rfl|rfl|rfl<;>rcases a with rfl|rfl|rfl<;>first|rfl|rwa[absurd h ⋯]
theorem Mx(e:three g=some q):g=[q.1,q.2.1,q.2.2]:=by rcases g with _|⟨a,_|⟨b,_|⟨c,_|_⟩⟩⟩<;>first|rwa[nn e]|(rw[<-Vp e])
theorem Ip(h:jY W vs cs)(e:three vs=some g):∃c d e,cs=[c,d,e]/\VR W g.1 c/\VR W g.2.1 d/\VR W g.2.2 e:=by
 injections W vs cs g;rw[Mx e]at h;rcases cs with _|⟨c,_|⟨d,_|⟨e,_|_⟩⟩⟩; ·rwa[h.elim]
 ·rwa[h.2.elim]
 ·rwa[h.2.2.elim]
 ·rwa[gO c d e rfl h.1 h.2.1 h.2.2.1]
 ·rwa[h.2.2.2.elim]
theorem My(I:Inv W σ s.heap)(hv:VR W v c)(t:VR W U e)(h:zip2 v U=some Z):Ref A L X W σ s (ec (.type "zip") [c,e]) (.ok Z σ) (RS s.heap):=by
 injections X A σ v c e U Z L _ s W;erw[ob h λxs d h=>om h λP z h=>(am h)▸(ba λF=>xY (su hv d) λK k1 S N n r D=>?_)];clear hv;subst n;erw[xY (su t z) λa2 u R M m w J=>?_];clear t;subst m;have g:∀k,s.heap.objs.size<=s.heap.objs.size+k:=λk=>VW _ k;have a:∀b,b∈[s.heap.objs.size+4,s.heap.objs.size+2,s.heap.objs.size+3,s.heap.objs.size,s.heap.objs.size+1]->s.heap.get? b=none:=λb f=>Xg (by
  rcases VD.mp f with e|f; ·rwa[e▸g 4]
  rcases VD.mp f with e|f; ·rwa[e▸g 2]
  rcases VD.mp f with e|f; ·rwa[e▸g 3]
  rcases VD.mp f with e|f; ·rwa[e▸g 0]
  ·rwa[Vy.mp f▸g 1]);erw[F (Ref.own I (· ∈[s.heap.objs.size+4,s.heap.objs.size+2,s.heap.objs.size+3,s.heap.objs.size,s.heap.objs.size+1]) a λQ E q=>FJ (r.stays I.stays) (w.stays I.stays) λh' y B C x H p O=>q _ h' s.toks p ?_)];have l:=I.priv (h':=h') (nH I a) λb o Y=>p b o;have nn:∀i j:Nat,i≠j->s.heap.objs.size+i≠s.heap.objs.size+j:=λi j h e=>h (Nat.add_left_cancel e);have G:qB (s.heap.objs.size+4) (s.heap.objs.size+2) (s.heap.objs.size+3) s.heap.objs.size (s.heap.objs.size+1):=⟨nn 2 4 #v[],nn 3 4 #v[],nn 0 4 #v[],nn 1 4 #v[],nn 2 3 #v[],nn 2 0 #v[],nn 2 1 #v[],nn 3 0 #v[],nn 3 1 #v[],nn 0 1 #v[]⟩;rwa[.own (.zip G y B C (la (r.stays l.1) x (D.mono l.1)) (la (w.stays l.1) H (J.mono l.1))) l.2.2.2 a]
theorem FK(I:Inv W σ s.heap)(hv:VR W v c)(h:OG v=some B):Ref A L X W σ s (ec (.type "enumerate") [c]) (.ok B σ) (RS s.heap):=by
 erw[bO h (λh=>om h λy x h=>?_) λh=>om h λb p h=>?_];all_goals erw[(am h)▸?_]
 ·erw[ba λo=>xY (su hv x) λa k u n m j r=>?_];subst m;erw[o ?_];cases k with|true=>rwa[s8 (o1:=Ak true a) I rfl (λd w A R q f=>meets_enumerate_newL a u.toArray n none #[] d w A R q ⟨by rw[f.1];rwa[I.stays _ _ j],f.2⟩) λF h g e=>la (k:=true) (g _ _ j) e (r.mono g)]|false=>rwa[s8 (o1:=Ak false a) I rfl (λd w A R q f=>qC a u n d w A R q ⟨by rw[f.1];rwa[I.stays _ _ j],f.2⟩) λF h g e=>la (k:=false) (g _ _ j) e (r.mono g)]
 ·rwa[V7 (fC hv p) λt l=>l▸(s8 (o1:={cls:=.type "bytes_iterator",data:=.fields #[.bytes b.toArray t,.int 0 0]}) I rfl (λd w A R q f=>qD b.toArray t d w A R q f.2) λF h g e=>.bytes (i:=0) (ia _ e rfl rfl) rfl)]
theorem CZ(o:B="range"\/B="zip"\/B="enumerate")(I:Inv W σ s.heap)(hv:jY W vs cs):Ref A L X W σ s (ec (.type B) cs) (bI (S B) vs σ) (RS s.heap):=by
 injections B vs _ X A s W σ cs L;erw[Ref.lift λd h=>bO h (λh=>d8 h λe h=>CY o (.inl rfl) e▸bO h (λh=>ob h λv ev h=>ob h λb n h=>d8 h λf h=>?_) λh=>ob h λr m h=>ob h λa x h=>ob h λb n h=>ob h λk y h=>d8 h λf h=>?_) λh=>bO h (λh=>d8 h λe h=>CY o (.inr (.inl rfl)) e▸ob h λr m h=>?_) λh=>d8 h λe h=>CY o (.inr (.inr rfl)) e▸ob h λv ev h=>?_]; ·erw[x_12 (iD hv ev) λc j g=>(j)▸?_];clear j;obtain⟨t,rfl⟩:=cN g n;simp![Vq,Vx,Vx]at f;rwa[Vp h▸CV I f.1 f.2]
 ·erw[x_34 (Ip hv m) λc d e i p C z=>(i)▸?_];clear i;obtain⟨t,rfl⟩:=cN p x;obtain⟨u,rfl⟩:=cN C n;obtain⟨w,rfl⟩:=cN z y;simp![Vq,Vq,Vq,Vq,Vx,Vx,Vx,Vx,Vx]at f;rw[<-Vp h,f.1.1.1.1];rwa[CW I f.1.1.1.2 f.1.1.2 f.1.2 f.2]
 ·rwa[fw (Ih hv m) λc e q p C=>(q)▸My I p C h]
 ·rwa[x_12 (iD hv ev) λc l g=>l▸(FK I g h)]
inductive Iq(h₀:Heap)(src:Src)(xs:List Dat)(W:St)(σ:ae)(u:Unit)(v:ea)(s:eN):Prop|mk(a:Addr)(fp:List Addr)(pr:Bool)(e:v=.ref a)(it:fu W.F s.heap a fp fp pr xs)(pv:cz W σ (· ∈fp))(fr:∀b∈fp,h₀.get? b=none)(tp:pr=true->src=.pairs xs):Iq h₀ src xs W σ u v s
theorem yu{f:Src}(I:Inv W σ s.heap)(hd:∀b,s.heap.get? b=none->h₀.get? b=none)(r:SrcR W σ h₀ s.heap f c)(m:f=.items xs\/f=.pairs xs):Ref A L X W σ s (SF c) (.ok () σ) (Iq h₀ f xs):=by
 injections c L f _ X A h₀ xs s W σ;have j:∀b,b∈[s.heap.objs.size]->s.heap.get? b=none:=λb p=>(Vy.mp p)▸bb _
 have d:∀{K:Obj}{v:ea},(∀F h:Heap,W.F.StaysIn F->h.get? s.heap.objs.size=some K->fu F h s.heap.objs.size [s.heap.objs.size] [s.heap.objs.size] false xs)->K.isFreed=false->(∀(Q:a8)(E:a8),(∀M,Q (.ref s.heap.objs.size) {s with heap:=s.heap.push K,toks:=M})->ed MG A (SF v) Q E s)->Ref A L X W σ s (SF v) (.ok () σ) (Iq h₀ f xs):=by intro K v hi G w;erw[Ref.own I (· ∈[s.heap.objs.size]) j λQ E q=>w Q E λM=>q _ _ M (λb o e=>Vr _ e) ?_];have C:=I.priv (h':=s.heap.push K) (nH I j) λb o Y e=>Vr _ e;rwa[⟨_,_,false,rfl,hi _ _ C.1 (VH _ G),C.2.2.2,λb p=>hd b (j b p),λz=>gm z⟩]
 cases r with
 | @items x ys _ g hi=>
  have:ys=xs:=by erw[ag0 m (λh=>?_) λh=>?_]<;>cases h;rfl
  subst this;have g:VR W (.d x) c:=g;erw[bO hi (λh=>om h λb H h=>?_) λh=>bO h (λh=>om h λz J h=>?_) λh=>?_]; ·obtain⟨t,rfl⟩:=fC g H;rwa[d (K:={cls:=.type "bytes_iterator",data:=.fields #[.bytes b.toArray t,.int 0 0]}) (λF h' l e=>.plain (.bytes (i:=0) (ia _ e rfl rfl) h.symm)) rfl λQ E q=>ZT (q s.toks)]
  ·obtain⟨t,rfl⟩:=bW g J;erw[d (K:={cls:=.type (strIterType (cg z)),data:=.fields #[.str (cg z) t,.int 0 0]}) (λF h' l e=>.plain (.str (i:=0) (z:=z) ?_ (ia _ e rfl rfl) h.symm)) rfl λQ E q=>wpAny_pyIter_strU (q s.toks)];delta strIterType;split; ·rwa[.inl rfl]
   ·rwa[.inr rfl]
  ·rwa[xY (su g (Mw▸h)) λa k N n y B D=>(y)▸d (K:=Ak k a) (λF h l e=>.plain (la (B.stays l) e (D.mono l))) (s7 _ _) λQ E q=>Io (B.stays I.stays) (q s.toks)]
 |cell h=>rcases m with h|h<;>cases h
 | @range r a b c t u v n w hsm hsz=>
  have:xs=d7 a n c:=by rcases m with h|h<;>cases h;rfl
  subst this;erw[d (K:={cls:=.type "range_iterator",data:=.fields #[m5 a,m5 (hj a b c),m5 c]}) (λF h l e=>.range ?_) rfl λQ E q=>wpAny_pyIter_range (I.stays _ _ w) hsm (q s.toks)];replace e:=(hsz)▸e;rwa[e]
 | @own a fp ys hit hpv hfr=>
  have:ys=xs:=by rcases m with h|h<;>cases h;rfl
  rwa[this▸(b8 I λQ E q=>hit.self (q _ s.toks ⟨a,fp,true,rfl,hit,hpv,hfr,λY=>rfl⟩))]
end
end
end
section
variable{α β γ:Type}{b:Addr}{X:Addr->Prop}{A:kx}{op:BoolOp}{env:Env}{o e:Expr}{h h' h₀:Heap}{l stk:List Env}{es:List Expr}{g:List V->M α}{cs:List ea}{ls:Ls}{mt:M Bool}{k:Nat}{oe:Obj}{lo:Option Expr}{P:jS}{sc:e6}{t:Sem ea}{s:eN}{W W' W₁:St}{R:St->ae->α->a8}{R':St->ae->γ->a9 α}{σ:ae}{c a:Str}{Q:a9 Unit}{v:V}{x f:ea}{E:a8}
section
open Builtin
def lc(W:St):Option V->Option ea->Prop|some v,some c=>VR W v c|none,none=>True|_,_=>False
theorem lc.step(S:Step W σ h W' σ' h' X){a b}(r:lc W a b):lc W' a b:=by obtain⟨⟩:=a<;>obtain⟨⟩:=b<;>first|rwa[trivial]|rwa[VR.step S r]|rwa[r]
theorem VR.monoF(b:W.F.StaysIn W₁.F)(a:W₁.ρ=W.ρ){v c}(r:VR W v c):VR W₁ v c:=by cases v with|d x=>rwa[DR.mono b r]|cell n=>rwa[x_12 r λp e q=>m_12 p (a▸e) q]
theorem lc.monoF(d:W.F.StaysIn W₁.F)(c:W₁.ρ=W.ρ){a b}(r:lc W a b):lc W₁ a b:=by obtain⟨⟩:=a<;>obtain⟨⟩:=b<;>first|rwa[trivial]|rwa[VR.monoF d c r]|rwa[r]
def bx(sc:e6)(x:Str):Prop:=sc.names.lookup x=some .cell\/sc.names.lookup x=some .free
structure aT(W:St)(σ:ae)(env:Env)(sc:e6)(ls:Ls)(h:Heap):Prop where
 sco:env.scope=sc
 fn:sc.kind=.function
 gl:env.globals=ef
 bu:env.builtins=hW
 ns:∃m,h.Ns env.locals m/\∀x,sc.names.lookup x=some .local->lc W (getL x ls) (m x)
 cell:∀x,bx sc x->∃c cv,env.cells.lookup x=some c/\h.IsCell c cv/\lc W (getL x ls) cv
 inj:∀x y c,bx sc x->bx sc y->env.cells.lookup x=some c->env.cells.lookup y=some c->x=y
 priv:cz W σ (· =env.locals)
 cpriv:∀x c,bx sc x->env.cells.lookup x=some c->W.F.get? c=none/\ ¬live σ W.ρ c/\c≠env.locals
theorem pb{o:Obj}(k:Kept o i)(hd:o.data=.dict d n):∃a,i=some a/\a.data=.dict d n:=by obtain⟨sl,rfl⟩:=k.some;rwa[m_12 _ rfl hd]
theorem gS{o:Obj}(k:Kept o d)(hd:∀es n,o.data≠.dict es n):d=some o:=by
 rwa[ag0 k (λh=>h) λa=>fi a λes n sl q Y=>absurd q (hd es n)]
theorem aT.step(f:aT W σ env sc ls h)(S:Step W σ h W' σ' h' eC):aT W' σ' env sc ls h':=by
 erw[ba λi=>x_12 f.ns λm y u=>bw y λo E v s hd w=>x_12 (pb (S.keep _ o s (f.priv _ rfl).2 λz=>z) hd) λF j k=>i ⟨f.sco,f.fn,f.gl,f.bu,m_12 m (m_33 F E v j k w) λx a=>(u x a).step S,λx a=>?_,f.inj,f.priv.step S λb q=>⟨o,(q)▸s⟩,λx c a A=>?_⟩]; ·erw[ba λi=>fw (f.cell x a) λc t g l r=>x_12 l λC D p=>?_];have e:=f.cpriv x c a g;have:=gS (S.keep _ C D e.2.1 λz=>z) (by intro E n q;replace q:=Vn (am p) q;cases q);rwa[i (rF c t g (m_12 C this p) (r.step S))]
 ·erw[fw (f.cell x a) λB t g d r=>x_12 d λC D p=>(Vp (g.symm.trans A))▸?_];have e:=f.cpriv x B a g;have:cz W' σ' (· =B):=cz.step (P:=(· =B)) (λb q=>(q)▸⟨e.1,e.2.1⟩) S λb q=>⟨C,(q)▸D⟩;rwa[m_03 (this B rfl).1 (this B rfl).2 e.2.2]
theorem hH:∀{ls:Ls},f9 d ls=true->getL d (gK d v ls)=some v:=by intro c;induction c with|nil=>rwa[λh=>gm h]|cons a r b=>obtain⟨k,w⟩:=a;intro h;dsimp![f9]at h;dsimp![gK];cases q:d==k with|true=>dsimp![getL];rw[q]|false=>rw[q]at h;dsimp![getL];rwa[(q)▸b h]
theorem gh(a:y≠d):∀{ls:Ls},getL y (gK d v ls)=getL y ls:=by
 intro e;induction e with
 |nil=>rwa[rfl]
 |cons b r c=>
  obtain⟨k,w⟩:=b;dsimp![gK];cases q:d==k with
  |true=>
   have:(y==k)=false:=by rw[WE];rwa[(Wb.mp q)▸a]
   dsimp![getL];rw[this]
  |false=>dsimp![getL];cases y==k with|true=>rfl|false=>rwa[c]
section
structure Tr(P:jS):Prop where
 name:∀x d,sN P x=some d->∀(sc:e6)(env:Env),env.scope=sc->sc.kind=.function->env.globals=ef->env.builtins=hW->sc.names.lookup x=some .globalImplicit->∃v,(∀F,bG.StaysIn F->DR F d v)/\∀(A:kx)(s:eN)(Q:a8)(E:a8),bG.StaysIn s.heap->Q v s->ed MG A (KX env x) Q E s
theorem Ir(l:Tr P)(I:Inv W σ s.heap)(f:aT W σ env sc ls s.heap):Ref A L X W σ s (eval (.Name D F) env) (Ea P sc D ls σ) RV:=by
 injections P _ X A env ls sc s W σ L D F;delta Ea;cases hd:D==`__debug__ with
 |true=>rwa[b7]
 |false=>
  have n:env.scope.kind=.function:=(f.sco)▸f.fn
  have j:∀{k},sc.names.lookup D=some k->env.kindOf D=some k:=λh=>by delta x8;rwa[(f.sco)▸h]
  cases i:sc.names.lookup D with
  |none=>rwa[b7]
  |some k=>
   cases k with
   | «local» =>dsimp only;erw[x_12 f.ns λm B y=>?_];have r:=y D i;cases g:getL D ls with|none=>rwa[b7]|some v=>replace r:=(g)▸r;cases hv:m D with|none=>rw[hv]at r;rwa[r.elim]|some c=>simp![hv]at r;rwa[b8 I λQ E q=>W8 (WZ n (j i) B hv (q _ s.toks r)) hd]
   |globalImplicit=>dsimp only;cases g:sN P D with|none=>rwa[b7]|some d=>rwa[x_12 (l.name D d g sc env f.sco f.fn f.gl f.bu i) λv hv z=>b8 I λQ E q=>W8 (z A s Q E (λa o e=>I.stays a o (I.based a o e)) (q _ s.toks (hv _ I.based))) hd]
   |cell=>dsimp only;erw[fw (f.cell D (.inl i)) λc t w x b=>?_];cases g:getL D ls with|none=>rwa[b7]|some v=>replace b:=(g)▸b;cases t with|none=>rwa[b.elim]|some u=>rwa[b8 I λQ E q=>W8 (wpAny_loadName_cell n (j i) w x (q _ s.toks b)) hd]
   |free=>dsimp only;cases p:D==`__classdict__ with|true=>rwa[b7]|false=>erw[fw (f.cell D (.inr i)) λc t w x b=>?_];cases g:getL D ls with|none=>rwa[b7]|some v=>rw[g]at b;cases t with|none=>rwa[b.elim]|some u=>rwa[b8 I λQ E q=>W8 (wpAny_loadName_free n (j i) w x (q _ s.toks b) p) hd]
   |_=>rwa[b7]
theorem aT.store{c:ea}(I:Inv W σ s.heap)(f:aT W σ env sc ls s.heap)(S:Step W₀ σ₀ h₀ W σ s.heap eC)(J:f9 Z ls=true)(hk:sc.names.lookup Z=some .local\/sc.names.lookup Z=some .cell)(hv:VR W v c)(V:h₀.get? env.locals=none)(T:∀a,sc.names.lookup Z=some .cell->env.cells.lookup Z=some a->h₀.get? a=none)(q:∀W' h' tk,Inv W' σ h'->Step W₀ σ₀ h₀ W' σ h' eC->aT W' σ env sc (gK Z v ls) h'->VR W' v c->W'.ρ=W.ρ->W.F.StaysIn W'.F->(∀b o,b≠env.locals->(sc.names.lookup Z=some .cell->env.cells.lookup Z≠some b)->s.heap.get? b=some o->h'.get? b=some o)->(∀b,W.F.get? b=none->(∃o,s.heap.get? b=some o)->W'.F.get? b=none)->Q () {s with heap:=h',toks:=tk}):ed MG A (storeName env Z c) Q E s:=by
 injections A env h₀ ls sc s W σ Q v E W₀ σ₀ Z c;have H:∀{k},sc.names.lookup Z=some k->env.kindOf Z=some k:=λh=>by delta x8;rwa[(f.sco)▸h]
 have p:env.scope.kind=.function:=(f.sco)▸f.fn
 erw[x_12 f.ns λm hn G=>?_];rcases hk with hk|hk
 ·erw[wpAny_storeName_local (H hk) hn (λh' hn' hs=>?_) (by erw[(p)▸?_];rfl)];have g:=I.priv (h':=h') f.priv λb o j e=>(hs.2 b j).trans e;erw[q (b0 W s.heap h' (· =env.locals)) h' _ g.2.1 (S.priv I (P:=(· =env.locals)) (h':=h') f.priv (λb o j e=>(hs.2 b j).trans e) λb q=>(q)▸V) ⟨f.sco,f.fn,f.gl,f.bu,m_12 _ hn' λy x=>?_,λy x=>?_,f.inj,g.2.2.2,λy a x ha=>?_⟩ ?_ rfl g.1 (λb o j Y e=>(hs.2 b j).trans e) (λb w⟨o0,B⟩=>by
   cases e:(b0 W s.heap h' (· =env.locals)).F.get? b with
   |none=>rfl
   |some o=>
    rcases da e with⟨⟨o',e1⟩|q,L⟩; ·replace e1:=(w)▸e1;rwa[k_nn e1]
    ·replace q:=(B)▸q;rwa[k_sn q.1])]
  ·by_cases d:y=Z; ·cases d;rw[hH J];simp![Zq];rwa[lc.monoF (W:=W) (a:=some v) (b:=some c) g.1 rfl hv]
   ·rw[gh d];rwa[(WO d)▸(G y x).monoF g.1 rfl]
  ·erw[ba λn=>fw (f.cell y x) λa D i r h4=>x_12 r λoc h2 N=>?_];have pc:=f.cpriv y a x i;have d:y≠Z:=λz=>by rw[z]at x;rcases x with x|x<;>(replace x:=Vn (am hk) x;cases x)
   erw[n ?_];rw[gh d];rwa[rF a D i (m_12 oc ((hs.2 a pc.2.2).trans h2) N) (h4.monoF g.1 rfl)]
  ·erw[fw (f.cell y x) λt D i q183 h4=>x_12 q183 λoc h2 N=>?_];have l:t=a:=Vp (i.symm.trans ha);erw[l▸?_];have pc:=f.cpriv y t x i;erw[m_03 ?_ pc.2.1 pc.2.2];cases e:(b0 W s.heap h' (· =env.locals)).F.get? t with
   |none=>rfl
   |some o=>
    rcases da e with⟨⟨o',e1⟩|q,L⟩; ·replace e1:=Vn (am pc.1) e1;rwa[k_nn e1]
    ·replace q:=(h2)▸q;rwa[k_sn q.1]
  ·rwa[lc.monoF (W:=W) (a:=some v) (b:=some c) g.1 rfl hv]
 ·erw[fw (f.cell Z (.inl hk)) λa D i hcell h4=>?_];have pc:=f.cpriv Z a (.inl hk) i;erw[wpAny_storeName_cell p (H hk) i hcell λh' hc' hs=>?_];have M:cz W σ (· =a):=λb q=>(q)▸⟨pc.1,pc.2.1⟩
  have g:=I.priv (h':=h') M λb o j e=>(hs.2 b j).trans e;have C:∀b,W.F.get? b=none->(∃o,s.heap.get? b=some o)->(b0 W s.heap h' (· =a)).F.get? b=none:=λb w⟨o0,B⟩=>by
   cases e:(b0 W s.heap h' (· =a)).F.get? b with
   |none=>rfl
   |some o=>
    rcases da e with⟨⟨o',e1⟩|q,L⟩; ·replace e1:=(w)▸e1;rwa[k_nn e1]
    ·replace q:=(B)▸q;rwa[k_sn q.1]
  erw[q (b0 W s.heap h' (· =a)) h' s.toks g.2.1 (S.priv I (P:=(· =a)) (h':=h') M (λb o j e=>(hs.2 b j).trans e) λb q=>(q)▸T a hk i) ⟨f.sco,f.fn,f.gl,f.bu,m_12 m (hn.sameBut hs (hg pc.2.2)) λy x=>?_,λy x=>?_,f.inj,λb q=>?_,λy t x ha=>?_⟩ ?_ rfl g.1 (λb o j R e=>(hs.2 b λz=>R hk (z▸i)).trans e) C]
  ·have d:y≠Z:=λz=>by rw[z,hk]at x;rwa[absurd x nofun]
   rw[gh d];rwa[(G y x).monoF g.1 rfl]
  ·erw[ba λn=>?_];by_cases d:y=Z; ·erw[n ?_];rw[d];rwa[(hH J)▸rF a (some c) i hc' (lc.monoF (W:=W) (a:=some v) (b:=some c) g.1 rfl hv)]
   ·erw[n ?_];rw[gh d];rwa[fw (f.cell y x) λa2 cv2 g1 u K=>x_12 u λoc F O=>rF a2 cv2 g1 (m_12 oc ((hs.2 a2 λz=>d (f.inj y Z a x (.inl hk) (z▸g1) i)).trans F) O) (K.monoF g.1 rfl)]
  ·rwa[ba λn=>fi hn λo es X U Y=>n ⟨C b (f.priv b q).1 ⟨o,(q)▸U⟩,(f.priv b q).2⟩]
  ·erw[fw (f.cell y x) λa2 cv2 g1 q423 K=>x_12 q423 λoc F O=>?_];have l:a2=t:=Vp (g1.symm.trans ha);erw[l▸?_];have p2:=f.cpriv y a2 x g1;rwa[m_03 (C a2 p2.1 ⟨oc,F⟩) p2.2.1 p2.2.2]
  ·rwa[lc.monoF (W:=W) (a:=some v) (b:=some c) g.1 rfl hv]
end
end
section
open Builtin
def bC(W:St)(σ:ae)(h:Heap)(l:List Env):Prop:=∀e∈l,e.scope.kind≠.module/\∃f o es n,e.frame=some f/\h.get? f=some o/\o.data=.dict es n/\W.F.get? f=none/\ ¬live σ W.ρ f
theorem bC.step(k:bC W σ h l)(S:Step W σ h W' σ' h' eC):bC W' σ' h' l:=λe g=>by erw[ba λj=>?_];obtain⟨r,f,o,t,n,u,c,d,m,a⟩:=k e g;erw[x_12 (pb (S.keep f o c a λz=>z) d) λv s i=>?_];have p:cz W' σ' (· =f):=cz.step (P:=(· =f)) (λb q=>(q)▸⟨m,a⟩) S λb q=>⟨o,(q)▸c⟩;rwa[j ⟨r,f,v,t,n,u,s,i,(p f rfl).1,(p f rfl).2⟩]
structure qE(A:kx)(k n:Nat)(stk:List Env)(L:Nat):Prop where
 hh:A.handled=none
 un:A.units+200*k+300+4*n<ah2
 dp:A.depth+4*k<=900
 fr:A.frames=some stk
 hd:∃e r,stk=e::r/\e.frame=some L
structure Here(W:St)(σ:ae)(env:Env)(sc:e6)(ls:Ls)(stk:List Env)(L:Nat)(h:Heap):Prop where
 fa:aT W σ env sc ls h
 stk:bC W σ h stk
 fid:env.frame=some L
theorem Here.step(x:Here W σ env sc ls stk L h)(S:Step W σ h W' σ' h' eC):Here W' σ' env sc ls stk L h':=⟨x.fa.step S,x.stk.step S,x.fid⟩
def pd(f:ea):Prop:=∀(A:kx)(s:eN)(pos:Pos)(first:List ea)(trees:List (Bool×Sem ea))(Q:a8)(E:a8),trees.any (·.1)=false->trees.length<30->bG.StaysIn s.heap->ed MG A (evalArgs f true trees []) (λa s₁=>bG.StaysIn s₁.heap/\ed MG A (ec f (first++a.pos) a.kw) Q E s₁) E s->ed MG A (callWith pos f first trees []) Q E s
structure Ctx(P:jS)(k:Nat):Prop where
 ok:vH
 mok:Th P.meths
 bok:Se
 iok:∀c C,cG c=some C->Af kG C
 nok:Tr P
 big:∃a o,xd<a/\bG.get? a=some o
 cw:∀q f,fG q=some f->pd f
 its:∀T:String,T="range"\/T="zip"\/T="enumerate"->∀(sc:e6)(env:Env),env.scope=sc->sc.kind=.function->env.globals=ef->env.builtins=hW->sc.names.lookup (S T)=some .globalImplicit->∀(A:kx)(s:eN)(Q:a8)(E:a8),bG.StaysIn s.heap->Q (.type T) s->ed MG A (KX env (S T)) Q E s
 user:∀(A:kx)(n:Nat)(stk:List Env)(L:Nat)(W:St)(σ:ae)(s:eN)(q:Str)(f:ea)(vs:List V)(cs:List ea),qE A k n stk L->Inv W σ s.heap->bC W σ s.heap stk->fG q=some f->jY W vs cs->Ref A L eC W σ s (ec f cs) (P.user q vs σ) RV
section
noncomputable abbrev RTst:St->ae->Bool->a9 Bool:=λY Y b b' Y=>b'=b
def EV(A:kx)(stk:List Env)(L:Nat)(env:Env)(sc:e6)(ls:Ls)(e:Expr)(m:M V):Prop:=∀W σ s,Inv W σ s.heap->Here W σ env sc ls stk L s.heap->Ref A L eC W σ s (eval e env) (m σ) RV
def ET(A:kx)(stk:List Env)(L:Nat)(env:Env)(sc:e6)(ls:Ls)(e:Expr)(m:M Bool):Prop:=∀W σ s,Inv W σ s.heap->Here W σ env sc ls stk L s.heap->Ref A L eC W σ s (isTrue e env (eval e env)) (m σ) RTst
def EI(A:kx)(stk:List Env)(L:Nat)(env:Env)(sc:e6)(ls:Ls)(e:Expr)(m:M Src):Prop:=∀W σ s,Inv W σ s.heap->Here W σ env sc ls stk L s.heap->Ref A L eC W σ s (eval e env) (m σ) (RS s.heap)
theorem jJ(a:kZ e=true):v7 (e::es) env=(false,eval e env)::v7 es env:=by obtain⟨⟩:=e<;>first|rfl|(rwa[gm a])
theorem jK:ae9 d ((false,t)::r)=(false,t)::ae9 d r:=rfl
theorem js{pos:Pos}:∀{es:List Expr}{m:Expr->M V},es.all kZ=true->(∀e∈es,EV A stk L env sc ls e (m e))->∀W σ s,Inv W σ s.heap->Here W σ env sc ls stk L s.heap->Ref A L eC W σ s (spliced (ae9 pos (v7 es env))) (ao (es.map m) σ) λW' Y vs cs Y=>jY W' vs cs:=by intro y;induction y with|nil=>intro m _ _;rwa[λW σ s I f=>Ref.ret (a:=[]) (b:=[]) I trivial]|cons e es j=>intro m d H;rwa[λW σ s I f=>by simp![a6,Vq]at d;simp![jJ d.1,jK];rwa[bl (H e (.head _) W σ s I f) λc v w W' z t n i Y r=>b6 (bl (b3 (j d.2 (λx h=>H x (.tail _ h)) W' w z n (f.step i))) λcs vs o q u p g l Y k=>Ref.ret g ⟨r.step l,k⟩)]]
theorem s9:∀{es:List Expr},es.all kZ=true->(ae9 d (v7 es env)).any (·.1)=false:=by intro c;induction c with|nil=>rwa[λY=>rfl]|cons e es b=>intro a;simp![a6,Vq]at a;rw[jJ a.1];simp![jK,as5,b a.2];rfl
theorem Al{pos:Pos}{m:Expr->M V}(c:es.all kZ=true)(H:∀e∈es,EV A stk L env sc ls e (m e))(I:Inv W σ s.heap)(x:Here W σ env sc ls stk L s.heap):Ref A L eC W σ s (evalArgs f true (ae9 pos (v7 es env)) []) (ao (es.map m) σ) λW' Y vs a Y=>a.kw=[]/\jY W' vs a.pos:=by cases es with|nil=>rwa[λl Q E q e=>evalArgs_nil3 (q ⟨[],[]⟩ [] σ W s rfl I (Step.refl ..) (Rest.refl s) ⟨rfl,trivial⟩)]|cons a es=>erw[λl Q E q e=>?_];have b:=c;simp![a6,Vq]at b;have:=js (pos:=pos) c H W σ s I x;rw[jJ b.1,jK]at this⊢;rwa[evalArgs_plain (this l _ _ (λn vs k W' o i j d g h=>q ⟨n,[]⟩ vs k W' o i j d g ⟨rfl,h⟩) e)]
end
end
section
open Builtin
section
theorem Ref.map{f:β->γ}{R:St->ae->β->a9 α}(h:Ref A L X W σ s j (m σ) R)(k:∀W' σ' b a s',R W' σ' b a s'->R' W' σ' (f b) a s'):Ref A L X W σ s j (aa m (λb=>RG.Internal.ret (f b)) σ) R':=λl Q E q e=>h (dr l) Q E (λa b σ' W' s' g i st r d=>q a (f b) σ' W' s' (bX g) i st r (k _ _ _ _ _ d)) λx c σ' W' s' g i st r d=>e x c σ' W' s' (cU g) i st r d
theorem Am:EV A stk L env sc ls (.Constant d kk i) (lift ((Hw d).map .d)):=λW a s I x=>by
 obtain⟨⟩:=d<;>first|rwa[b7]|rwa[Ref.ret (b:=V.d .none) I .none]|rwa[Ref.ret (b:=V.d (.bool _)) I .bool]|rwa[b8 I λQ E q=>wpAny_mkInt (q _ (s.toks+1) .int)]|skip
 ·rename Str=>d;erw[b8 I λQ E q=>?_];have:cg d.cps.toList=d:=by delta cg;trivial
  rwa[λY Y Y=>q (.str d s.toks) (s.toks+1) (DR.str)]
 ·rwa[b8 I λQ E q=>λY Y Y=>q _ (s.toks+1) .bytes]
theorem It(f:EV A stk L env sc ls z m₁)(k:EV A stk L env sc ls r m₂):EV A stk L env sc ls (.BinOp z B r D) (aa m₁ λa=>aa m₂ λb=>aa (af B a b) λd=>ret (.d d)):=λW E s I x=>bl (f W E s I x) λc v e C l t g i Y n=>bl (b3 (k C e l g (x.step i))) λd u p q y w m o Y j=>b4 (Ref.operate (Ref.map (Fl m (n.step o) j) λY Y Y Y Y h=>h))
theorem PE(h:EV A stk L env sc ls y m):EV A stk L env sc ls (.UnaryOp .USub y j) (aa m λa=>optM (oJ a) λi=>ret (.d (.int (-i)))):=λW o s I x=>by erw[bl (h W o s I x) λc v b l k f d g Y e=>Ref.optM λi n=>OI n (P:=λv=>Ref A L eC l b k (z3 j>>=λY=>x9 [v] (unaryOp .USub v)) _ _) (λt=>b4 (b3 (Mf d))) c e]
theorem PF(h:EV A stk L env sc ls y m):EV A stk L env sc ls (.UnaryOp .Not y i) (aa m λa=>aa (lift (truth a)) λt=>ret (.d (.bool !t))):=λW l s I x=>bl (h W l s I x) λc v e k j f b g Y d=>b4 (b3 (Me b d))
theorem Si(l:ET A stk L env sc ls m mt)(j:EV A stk L env sc ls n i)(k:EV A stk L env sc ls o q):EV A stk L env sc ls (.IfExp m n o p) (aa mt λc=>match c with|true=>i|false=>q):=λW r s I x=>by
 erw[bl (l W r s I x) λc v g h b e a d Y f=>?_];clear e;cases f;obtain⟨⟩:=c; ·rwa[k _ _ _ a (x.step d)]
 ·rwa[j _ _ _ a (x.step d)]
theorem Sj(l:ET A stk L env sc ls m mt)(j:ET A stk L env sc ls n i)(k:ET A stk L env sc ls o q):ET A stk L env sc ls (.IfExp m n o p) (aa mt λc=>match c with|true=>i|false=>q):=λW r s I x=>by
 erw[bl (l W r s I x) λc v g h b e a d Y f=>?_];clear e;cases f;obtain⟨⟩:=c; ·rwa[k _ _ _ a (x.step d)]
 ·rwa[j _ _ _ a (x.step d)]
theorem PG(h:ET A stk L env sc ls y m):ET A stk L env sc ls (.UnaryOp .Not y i) (aa m λt=>ret !t):=λW k s I x=>bl (h W k s I x) λc v d j g e a f Y b=>Ref.ret a (VT _ b)
theorem Em{m:Expr->M V}:∀{es:List Expr},(∀e∈es,EV A stk L env sc ls e (m e))->∀W σ s,Inv W σ s.heap->Here W σ env sc ls stk L s.heap->Ref A L eC W σ s (boolOp w op (al8 es env)) (zR op (es.map m) σ) RV|[],_=>λY Y Y Y Y=>b7|[e],H=>λW σ s I x=>H e (.head _) W σ s I x|e::r::es,H=>λW σ s I x=>by erw[bl (H e (.head _) W σ s I x) λc v p W₁ s₁ q j k Y h=>b4 (bl (b3 (nE j h)) λt b a d g l f i Y n=>?_)];have o:Ref A L eC d a g (boolOp w op (eval r env::al8 es env)) (zR op ((r::es).map m) a) RV:=Em (λz u=>H z (.tail _ u)) d a g f ((x.step k).step i);clear l;cases n;obtain⟨⟩:=op<;>obtain⟨⟩:=t<;>first|rwa[o]|rwa[Ref.ret f (h.step i)]
theorem Mz{m:Expr->M Bool}:∀{es:List Expr},(∀e∈es,ET A stk L env sc ls e (m e))->∀W σ s,Inv W σ s.heap->Here W σ env sc ls stk L s.heap->Ref A L eC W σ s (allTrue op es env) (Eb op (es.map m) σ) RTst:=by intro l;induction l with|nil=>rwa[λY=>λW σ s I x=>by obtain⟨⟩:=op<;>rwa[Ref.ret I rfl]]|cons e es j=>rwa[λH=>λW σ s I x=>by erw[bl (H e (.head _) W σ s I x) λt b c d h f a i Y g=>?_];clear f;cases g;obtain⟨⟩:=op<;>obtain⟨⟩:=t<;>first|rwa[j (λz k=>H z (.tail _ k)) d c h a (x.step i)]|rwa[Ref.ret a rfl]]
theorem C0:Po [] d ts=ts:=rfl
theorem FL:Po (d::ops) [] ts=ts:=by obtain⟨⟩:=ops<;>obtain⟨⟩:=ts<;>first|rfl|(cases b<;>rfl)
theorem FM:Po (d::ops) (e::es) []=[]:=by obtain⟨⟩:=ops<;>obtain⟨⟩:=es<;>rfl
theorem lg:∀{d:List CmpOp}{cs:List Expr}{ts:List (Sem ea)},lastMarks d cs=false->Po d cs ts=ts
|[],_,_,_=>C0
|_::_,[],_,_=>FL
|_::_,_::_,[],_=>FM
|[op],[e],[t],h=>by show [markedBehindIn op e t]=[t];dsimp![markedBehindIn];rw[show behindInMarks op e=false from h]
|op::f::d,e::es,t::ts,h=>by
 have a:Po (op::f::d) (e::es) (t::ts)=t::Po (f::d) es ts:=by obtain⟨⟩:=es<;>obtain⟨⟩:=ts<;>rfl
 erw[Vn a ?_];rw[lg (by obtain⟨⟩:=es<;>first|rfl|rwa[h])]
|[op],e::b::es,t::ts,h=>by rfl
|[op],[e],t::c::ts,h=>by rfl
theorem Iu(F:vH)(r:A.units+10<ah2){N:Pos}{m:Expr->M V}:∀{K:List CmpOp}{es:List Expr},(∀e∈es,EV A stk L env sc ls e (m e))->∀W σ s v c,Inv W σ s.heap->Here W σ env sc ls stk L s.heap->VR W v c->Ref A L eC W σ s (compareChain N c K (al8 es env)) (iQ v K (es.map m) σ) Px
|[],es,_=>λY Y Y Y Y Y Y Y=>by obtain⟨⟩:=es<;>rwa[b7]
|[op],[],_=>λY Y Y Y Y Y Y Y=>b7
|op::O::K,[],_=>λY Y Y Y Y Y Y Y=>b7
|[op],[e],H=>λW σ s v c I x hv=>bl (b3 (H e (.head _) W σ s I x)) λd w l W₁ s₁ o a f Y g=>b4 (Ref.operate (mf (λc C B x dx y t D hd Q E q=>iN F a B D hd r Q E q) a r (hv.step f) g))
|[op],e::J::es,H=>λW σ s v c I x hv=>by
 erw[bl (b3 (H e (.head _) W σ s I x)) λd w l W₁ s₁ o a f Y g=>b4 (bl (b3 (mf (λc C B x dx y t D hd Q E q=>iN F a B D hd r Q E q) a r (hv.step f) g)) λd b i n p u h k Y j=>?_)];cases show d=.bool b from j;erw[Ref.look (λQ E q=>XI q) (Ref.look (λQ E q=>VX (W6 q)) ?_)];obtain⟨⟩:=b; ·rwa[Ref.ret h rfl]
 ·rwa[b7]
|op::O::K,e::es,H=>λW σ s v c I x hv=>by
 erw[bl (b3 (H e (.head _) W σ s I x)) λd w l W₁ s₁ o a f Y g=>b4 (bl (b3 (mf (λc C B x dx y t D hd Q E q=>iN F a B D hd r Q E q) a r (hv.step f) g)) λd b i n p u h k Y j=>?_)];cases show d=.bool b from j;erw[Ref.look (λQ E q=>XI q) (Ref.look (λQ E q=>VX (W6 q)) ?_)];obtain⟨⟩:=b; ·rwa[Ref.ret h rfl]
 ·rwa[Iu F r (λz G=>H z (.tail _ G)) n i p w _ h ((x.step f).step k) (g.step k)]
theorem Iv(F:vH)(u:A.units+10<ah2){N:Pos}{m:Expr->M V}:∀{K:List CmpOp}{es:List Expr},(∀e∈es,EV A stk L env sc ls e (m e))->∀W σ s v c,Inv W σ s.heap->Here W σ env sc ls stk L s.heap->VR W v c->Ref A L eC W σ s (testChain N c K (al8 es env)) (iQ v K (es.map m) σ) RTst
|[],es,_=>λY Y Y Y Y Y Y Y=>by obtain⟨⟩:=es<;>rwa[b7]
|[op],[],_=>λY Y Y Y Y Y Y Y=>b7
|op::O::K,[],_=>λY Y Y Y Y Y Y Y=>b7
|[op],[e],H=>λW σ s v c I x hv=>by
 erw[bl (b3 (H e (.head _) W σ s I x)) λd w f W₁ s₁ r a g Y i=>b4 ?_];have:=mf (X:=eC) (A:=A) (L:=L) (op:=op) (λc C B x dx y t D hd Q E q=>iN F a B D hd u Q E q) a u (hv.step g) i;erw[Ref.eq rfl (?_:cmp op v w f=aa (cmp op v w) (λb=>RG.Internal.ret b) f) (bl (Ref.operate this) λd b k n p o h l Y j=>?_)]; ·delta aa;cases cmp op v w f<;>rfl
 ·cases show d=.bool b from j;rwa[b3 λY Q E q Y=>W6 (q _ _ _ _ _ rfl h (Step.refl ..) (Rest.refl _) rfl)]
|[op],e::J::es,H=>λW σ s v c I x hv=>by
 erw[bl (b3 (H e (.head _) W σ s I x)) λd w f W₁ s₁ r a g Y i=>b4 (bl (b3 (mf (λc C B x dx y t D hd Q E q=>iN F a B D hd u Q E q) a u (hv.step g) i)) λd b k n p o h l Y j=>?_)];cases show d=.bool b from j;erw[Ref.look (λQ E q=>XI q) (Ref.look (λQ E q=>VX (W6 q)) ?_)];obtain⟨⟩:=b; ·rwa[Ref.ret h rfl]
 ·rwa[b7]
|op::O::K,e::es,H=>λW σ s v c I x hv=>by
 erw[bl (b3 (H e (.head _) W σ s I x)) λd w f W₁ s₁ r a g Y i=>b4 (bl (b3 (mf (λc C B x dx y t D hd Q E q=>iN F a B D hd u Q E q) a u (hv.step g) i)) λd b k n p o h l Y j=>?_)];clear o;cases j;erw[Ref.look (λQ E q=>XI q) (Ref.look (λQ E q=>VX (W6 q)) ?_)];obtain⟨⟩:=b; ·rwa[Ref.ret h rfl]
 ·rwa[Iv F u (λz G=>H z (.tail _ G)) n k p w _ h ((x.step g).step l) (i.step l)]
end
end
section
open Builtin
section
theorem fN{f:α->M β}{g:β->M γ}:aa (aa m f) g=aa m λa=>aa (f a) g:=by funext σ;delta aa;cases m σ<;>rfl
theorem jY.len{b:List V}(h:jY W b cs):cs.length=b.length:=by
 induction b generalizing cs with
 |nil=>cases cs with|nil=>rfl|cons=>rwa[h.elim]
 |cons v b a=>cases cs with|nil=>rwa[h.elim]|cons c cs=>rwa[VT ah6 (a h.2)]
theorem pe:∀{ms:List (M α)}{vs:List α}{σ σ':ae},ao ms σ=.ok vs σ'->vs.length=ms.length:=by
 intro i;induction i with
 |nil=>intro vs σ σ' h;obtain⟨rfl,rfl⟩:=Res.ok.inj h;rfl
 |cons m ms f=>
  intro vs σ σ' h;dsimp![ao,aa]at h;cases e:m σ with
  |ok a b=>replace h:=(e)▸h;cases c:ao ms b with|ok j d=>simp![c]at h;injection h with g;subst g;rwa[VT (· +1) (f c)]|exc=>simp![c]at h;rwa[absurd h nofun]|stuck=>simp![c]at h;rwa[nomatch h]
  |exc=>replace h:=(e)▸h;cases h
  |stuck=>replace h:=(e)▸h;cases h
theorem FN{f:List Dat->M β}:aa (RG.Internal.frzs (v::vs)) f=aa (RG.Internal.frz v) λd=>aa (RG.Internal.frzs vs) λds=>f (d::ds):=by erw[Vn fN ?_];congr 1;funext d;erw[Vn fN ?_];rfl
theorem ta{R:St->ae->β->a9 α}:∀{cs:List ea}{f:List Dat->M β}{W:St}{σ:ae},Inv W σ s.heap->jY W vs cs->(∀ds σ' W',Inv W' σ' s.heap->Step W σ s.heap W' σ' s.heap X->c9 W'.F ds cs->Ref A L X W' σ' s m (f ds σ') R)->Ref A L X W σ s m (aa (RG.Internal.frzs vs) f σ) R:=by
 induction vs with
 |nil=>intro cs f W σ I hv h;cases cs with|nil=>rwa[h [] σ W I (Step.refl ..) .nil]|cons=>rwa[hv.elim]
 |cons v vs k=>intro cs f W σ I hv h;cases cs with|nil=>rwa[hv.elim]|cons c cs=>rw[FN];rwa[Ref.frz I hv.1 λd σ' W' l e hd=>k l (jY.step e hv.2) λds b j i g a=>h (d::ds) b j i (e.trans g) (.cons (hd.mono g.F) a)]
theorem An:∀{es:List Expr},es.all kZ=true->(ae9 d (v7 es env)).length=es.length:=by intro c;induction c with|nil=>rwa[λY=>rfl]|cons e es b=>intro a;simp![a6,Vq]at a;rw[jJ a.1];simp![jK,ar,b a.2,ar]
theorem fD(h:bF es=true):es.all kZ=true/\es.length<30:=by delta bF at h;simp![Vq]at h;rwa[⟨h.1,W9.mp h.2⟩]
theorem qF{m:Expr->M V}(p:pd f)(t:bF es=true)(H:∀e∈es,EV A stk L env sc ls e (m e))(I:Inv W σ s.heap)(x:Here W σ env sc ls stk L s.heap)(n:∀vs cs σ' W' s',Inv W' σ' s'.heap->Step W σ s.heap W' σ' s'.heap eC->jY W' vs cs->Ref A L eC W' σ' s' (ec f (first++cs)) (g vs σ') R):Ref A L eC W σ s (callWith u f first (ae9 u (v7 es env)) []) (aa (ao (es.map m)) g σ) R:=λv Q E q e=>by have d:=fD t;erw[p A s u first _ Q E (s9 d.1) ((An d.1)▸d.2) (λa o z=>I.stays a o (I.based a o z)) (Al d.1 H I x (dr v) _ _ (λa b σ' W' s' j k st r h=>⟨λa o z=>k.stays a o (k.based a o z),?_⟩) λx c σ' W' s' j i st r h=>e x c σ' W' s' (cU j) i st r h)];rw[bX j]at q e v;obtain⟨cs,l⟩:=a;cases show l=[]from h.1;rwa[(n b cs σ' W' s' k st h.2).after st r v q e]
theorem En{Q:a8}(b:k6 o=true)(h:ed MG A t Q E s):ed MG A (af4 o a env t) Q E s:=by
 have:af4 o a env t=t:=by
  clear h;obtain⟨⟩:=o<;>try rfl
  rename Expr=>f;rename List Expr=>args;rename List Keyword=>ks;obtain⟨⟩:=f<;>try rfl
  rename Str=>x;cases args<;>try rfl
  cases ks<;>try rfl
  have:(x !=("super":Str))=true:=b;dsimp![af4];rw[this];rfl
 rw[this];rwa[h]
theorem Ao(b:k6 o=true)(h:Ref A L X W σ s t m R):Ref A L X W σ s (af4 o a env t) m R:=Ref.of (g:=λz=>z) (λY Y x=>En b x) h
theorem MA(j:vH)(k:k6 o=true)(h:EV A stk L env sc ls o m):EV A stk L env sc ls (.Attribute o a n) (aa m λl=>bp l a):=λW u s I x=>by erw[bl (Ao k (h W u s I x)) λc v e t p f b i Y d=>b4 (Ref.of (g:=λz=>z) (λQ E z=>Vm (WI z (λr w q=>Vm (wpAny_letTemporaryGo (Vs q))) λY Y z=>z)) (b3 (HW j b d)))]
theorem Iw  :eval (.Subscript d j m) env=(do
    let o <-eval d env
    let i <-x9 [o] (eval j env)
    z3 m
    af3 d j o i):=rfl
theorem PH(b:EV A stk L env sc ls o m₁)(j:EV A stk L env sc ls i m₂):EV A stk L env sc ls (.Subscript o i z) (aa m₁ λw=>aa m₂ λy=>aa (ay w y) λd=>ret (.d d)):=λW D s I x=>bl (b W D s I x) λc v a C B q e f Y l=>bl (b3 (j C a B e (x.step f))) λd u n p t r k m Y g=>b4 (Ref.map (Mh k (l.step m) g) λY Y Y Y Y h=>h)
theorem Eo{m:Expr->M V}:∀{o:Option Expr},(∀e,o=some e->EV A stk L env sc ls e (m e))->∀W σ s,Inv W σ s.heap->Here W σ env sc ls stk L s.heap->Ref A L eC W σ s (valueOrNone (evalOpt o env)) ((match o with|some e=>m e|none=>ret (V.d .none)) σ) RV|some e,H=>λW σ s I x=>H e rfl W σ s I x|none,_=>λW σ s I x=>Ref.ret (b:=V.d .none) I .none
theorem Iy{m:Expr->M V}(D:EV A stk L env sc ls o m₁)(hl:∀e,lo=some e->EV A stk L env sc ls e (m e))(hh:∀e,hi=some e->EV A stk L env sc ls e (m e)):EV A stk L env sc ls (.Subscript o (.Slice lo hi none p) δ) (aa m₁ λC=>aa (match lo with|some e=>m e|none=>ret (V.d .none)) λl=>aa (match hi with|some e=>m e|none=>ret (V.d .none)) λh=>aa (bq C l h) λd=>ret (.d d)):=λW σ s I x=>by
 simp![(by congr 1;funext C;erw[Vn ?_ (am fN)];congr 1;funext l;simp![fN];rfl:(aa m₁ λC=>aa (match lo with|some e=>m e|none=>ret (V.d .none)) λl=>aa (match hi with|some e=>m e|none=>ret (V.d .none)) λh=>aa (bq C l h) λd=>ret (V.d d))=aa m₁ λC=>aa (aa (match lo with|some e=>m e|none=>ret (V.d .none)) λl=>aa (match hi with|some e=>m e|none=>ret (V.d .none)) λh=>ret (l,h)) λp=>aa (bq C p.1 p.2) λd=>ret (V.d d)),Iw,arm_eval_Slice];erw[bl (D W σ s I x) λc v B W₁ s₁ U F w Y J=>bl (R:=λW' Y b r s'=>∃l u a,r=.ref a/\s'.heap.get? a=some (CF l u)/\VR W' b.1 l/\VR W' b.2 u) (b3 ?_) λd p g n y G i k Y f=>b4 ?_]; ·erw[bl (Eo hl W₁ B s₁ F (x.step w)) λl lv g n y G i k Y f=>bl (b3 (Eo hh n g y i ((x.step w).step k))) λu uv O X j T z K Y H=>Ref.look (a:=.none) (λQ E q=>VX (Vs q)) (cI z λQ E q=>Yc (q _ _ j.toks (λb o' e=>Vr _ e) ?_))];have t:=Step.grow z (h':=j.heap.push (CF l u)) (λb o' e=>Vr _ e) eC;rwa[gO l u j.heap.objs.size rfl (VH _ rfl) ((f.step K).step t) (H.step t)]
 ·erw[ba λhG=>x_34 f λl u a N Z S P=>?_];clear f;subst N;rwa[hG (Ref.map (Fo i (J.step k) S P Z) λY Y Y Y Y h=>h)]
theorem C1(e:f=.builtin n):pd f:=e▸λA s c first a Q E b Y Y h=>ZV b (WI h (λY Y z=>z.2) λY Y z=>z)
theorem MB(K:vH)(z:Ctx P k)(O:qE A k n stk L){m:Expr->M V}(p:oN o D U es=true)(t:EV A stk L env sc ls o m₁)(H:∀e∈es,EV A stk L env sc ls e (m e)):EV A stk L env sc ls (.Call (.Attribute o w D) es [] U) (aa m₁ λF=>aa (reads (dO P w F)) λmt=>aa (ao (es.map m)) λas=>d5 mt F as P.user):=λW σ s I x=>by
 delta oN at p;rw[Vq,Vq]at p;erw[ba λN=>?_];obtain⟨⟨S,R⟩,G⟩:=p;have y:=fD G;erw[N (bl (Ao S (t W σ s I x)) λc v a W₁ Z C d g Y i=>b4 ?_)];dsimp![methodCall];erw[(((by delta ai3;simp![((by simp![List.all_eq_not_any_not,Bool.not_not,s9 y.1];rfl:(ae9 U (v7 es env)).all (!·.1)=true))];show(true&&true&&decide (es.length+0+0<30))=true;simp;rwa[y.2]:ai3 (es.length+([]:List Keyword).length) (ae9 U (v7 es env)) (backToKw U (keywordEach [] env))=true)))▸?_];dsimp![calleeOf,methodCallPos];simp![R,Bool.not_true,as8,Zq];rwa[Co (dO P w v a) (λb=>Ref.eq rfl (show aa (reads (dO P w v)) _ a=.stuck by dsimp![aa,reads];rw[b]) b7) λmt b=>Ref.eq rfl (show aa (reads (dO P w v)) _ a=aa (ao (es.map m)) (λas=>d5 mt v as P.user) a by dsimp![aa,reads];rw[b]) λns Q E q e=>Vm (VX (CL K z.mok rfl d i b λf first J=>qF (by have p:=J.2;clear b;cases mt with|user q=>rwa[z.cw _ _ p]|_=>rwa[C1 p]:pd f) G H d (x.step g) (λvs X l r u h j hs=>Ac h (i.step j) hs J λq f vs X T B=>z.user A n stk L r l u q f vs X O h ((x.step g).step j).stk T B) ns Q E q e))]
theorem Iz{m:Expr->M V}(B:bF es=true)(H:∀e∈es,EV A stk L env sc ls e (m e)):EV A stk L env sc ls (.Tuple es kk G) (aa (ao (es.map m)) λvs=>aa (frzs vs) λds=>ret (.d (.tuple ds))):=λW S s I x=>by erw[b4 (bl (js (fD B).1 H W S s I x) λN vs p O K g j w Y f=>ta j f λds l v k z hd=>?_)];have:=jG (A:=A) (L:=L) (X:=eC) (t:=newTuple N) (o:=dA N 0) (d:=.tuple ds) rfl k (λT F e=>.tuple (vs:=N) (n:=0) e (hd.mono F)) λQ E q=>YO (q K.toks) (by simp![Wr];rwa[a_1 (by simp![f.len,pe g,Vo];rwa[(fD B).2]:N.length<30)]);rwa[λY Q E q e=>this (by intro h;cases h) Q E (λa b J P R u i st r y=>q a (.d b) J P R (by injection u with D C;subst D C;rfl) i st r y) λx c J P R u i st r y=>by cases u]
theorem MC{m:Expr->M V}(B:bF es=true)(H:∀e∈es,EV A stk L env sc ls e (m e)):EV A stk L env sc ls (.List es G) (aa (ao (es.map m)) λvs=>aa (frzs vs) λds=>ret (.d (.list ds))):=λW S s I x=>by erw[b4 (bl (js (fD B).1 H W S s I x) λN vs p O K g j w Y f=>ta j f λds l v k z hd=>?_)];have:=jG (A:=A) (L:=L) (X:=eC) (t:=newList N) (o:=cM N 0) (d:=.list ds) rfl k (λT F e=>.list (vs:=N) (n:=0) e (hd.mono F)) λQ E q=>ac5 (q K.toks) (by simp![Wr];rwa[a_1 (by simp![f.len,pe g,Vo];rwa[(fD B).2]:N.length<30)]);rwa[λY Q E q e=>this (by intro h;cases h) Q E (λa b J P R u i st r y=>q a (.d b) J P R (by injection u with D C;subst D C;rfl) i st r y) λx c J P R u i st r y=>by cases u]
theorem IB{m:Expr->M V}(k:bF es=true)(H:∀e∈es,EV A stk L env sc ls e (m e)):EV A stk L env sc ls (.List es n) (aa (ao (es.map m)) λvs=>aa (frzs vs) λds=>aM (.list ds)):=λW r s I x=>b4 (bl (js (fD k).1 H W r s I x) λp vs g o l b c i Y a=>ta c a λds f h d j hd=>Ref.newList d hd λQ E q=>ac5 (q l.toks) (by simp![Wr];rwa[a_1 (by simp![a.len,pe b,Vo];rwa[(fD k).2]:p.length<30)]))
end
end
section
open Builtin
section
def notAttr(f:Expr):Bool:=Cp (Hy f)
theorem FO(a:notAttr d=true):eval (.Call d es [] i) env=eval d env>>=λv=>callWith i v [] (ae9 i (v7 es env)) []:=by obtain⟨⟩:=d<;>first|rfl|(rwa[gm a])
theorem MD(C:vH)(i:Ctx P k)(B:qE A k n stk L){f:Expr}{m:Expr->M V}(G:notAttr f=true)(J:bF es=true)(l:EV A stk L env sc ls f m₁)(H:∀e∈es,EV A stk L env sc ls e (m e)):EV A stk L env sc ls (.Call f es [] N) (aa m₁ λT=>optM (Tg T) λx=>aa (ao (es.map m)) λas=>oM P x as):=λW S s I x=>by simp![FO G];erw[bl (l W S s I x) λc v u Q O z p d Y r=>Ref.optM λy E=>?_];have w:=Ia r E;erw[qF (i.cw _ _ w) J H p (x.step d) λU R g j q b t K=>?_];delta oM;cases P.fns.contains y with|true=>rwa[i.user A n stk L j g q y c U R B b ((x.step d).step t).stk w K]|false=>rwa[Ref.map (PD C i.bok i.iok B.hh (let⟨a,o,D,F⟩:=i.big;m_22 a o D (b.based _ _ F)) b w K) λY Y Y Y Y h=>h]
def qG(e:Expr):Bool:=!(mn e.ctorIdx 0||Nat.beq e.ctorIdx 5||Nat.beq e.ctorIdx 15||sl 3 e.ctorIdx (λh=>ao5 e h λop Y Y=>mn op.ctorIdx 1) false)
theorem isTrue_plain(h:qG e=true):isTrue e env t=t>>=λv=>z3 e.pos>>=λY=>x9 [v] (truthy v):=by
 obtain⟨⟩:=e<;>first|rfl|(rwa[gm h])|skip
 rename UnaryOp=>op;obtain⟨⟩:=op<;>first|rfl|(rwa[gm h])
theorem PI(i:qG e=true)(h:EV A stk L env sc ls e m):ET A stk L env sc ls e (aa m λv=>lift (truth v)):=λW l s I x=>by erw[(isTrue_plain i)▸(bl (h W l s I x) λc v d k j f a g Y b=>b4 (b3 (nE a b)))]
theorem ME(k:EV A stk L env sc ls U m₁)(t:EV A stk L env sc ls r m₂):EV A stk L env sc ls (.BinOp U .Add r Z) (aa m₁ λa=>aa m₂ λb=>Hz a b):=λW S s I x=>by erw[bl (k W S s I x) λc v h l s₁ F n p Y g=>bl (b3 (t l h s₁ n (x.step p))) λd u z D y G e w Y f=>b4 (Ref.operate (dy λX J=>dy λV N=>dy λR P=>ba λM=>bw (di e (g.step w) J) λa vs i C K m=>?_))];clear g;subst C;erw[bw (di e f N) λb T j B H o=>?_];clear f;subst B;erw[hJ (λO h2=>M ?_) (eD P)];erw[h2▸Ref.newList e (vs:=vs++T) (m.append o) λQ E q=>sR K H ?_ (q y.toks)];simp![m.length,o.length];rwa[O]
theorem IC (g:Ctx P k) :EV A stk L env sc ls (.Dict [] [] n) (aM (.dict [] [])):=λW r s I x=>by
  simp! [eval_Dict_empty]
  refine b4 λY Q E q Y=>Yc ?_
  have c:(s.heap.push {cls:=.type "dict",data:=.dict #[] }).DictOf (qn pG wG) s.heap.objs.size []:=ar4 s.heap
  obtain ⟨l,i⟩:=I.make (h':=s.heap.push {cls:=.type "dict",data:=.dict #[] }) (p:=(s.heap.objs.size,s.heap.objs.size)) (o:=.dict [] []) (X:=eC) (λb x e=>Vr _ e) (bb _) (bb _) (λh=>by cases h)
    λm=>.dict rfl c ((by
    refine d6 (g.big) λa o d j=>?_
    have f:=Wm (I.stays _ _ (I.based _ _ j))
    rw [WE]
    intro z
    rw [z] at f
    exact Xs _ (Xq f d):(s.heap.objs.size==xd)=false)) .nil
  refine q _ (.cell r.length) _ _ {s with heap:=s.heap.push {cls:=.type "dict",data:=.dict #[] } } rfl l i ⟨rfl,rfl,rfl⟩ (m_12 ((s.heap.objs.size,s.heap.objs.size)) ?_ rfl)
  refine Vn (VU (by rw [I.len];exact VM _)) ?_;rw [I.len,Ym]
  rfl
theorem PJ(h:EV A stk L env sc ls e m):EI A stk L env sc ls e (aa m bf):=λW t s I x=>by erw[λp Q E q e=>h W t s I x (dr p) Q E (λa b k l o g i st r f=>?_) λx c k l o g i st r f=>e x c k l o (cU g) i st r f];rw[bX g]at q p;clear g;cases b with|cell n=>rwa[q a (.cell n) k l o rfl i st r (.cell f)]|d y=>cases j:itemsOf k (.d y)with|none=>rwa[absurd (show bf (.d y) k=.stuck by dsimp![bf];erw[(j)▸?_];rfl) p]|some u=>rwa[q a (.items u) k l o (by dsimp![bf];erw[(j)▸?_];rfl) i st r (.items f j)]
theorem SrcR.le{d:Heap}(k:∀a,d.get? a=none->h₀.get? a=none)(H:SrcR W σ d h r i):SrcR W σ h₀ h r i:=by cases H with|items a b=>rwa[.items a b]|cell a=>rwa[.cell a]|range a b i=>rwa[.range a b i]|own a b i=>rwa[.own a b λx e=>k x (i x e)]
theorem MF(h:isIt sc d=true):(d=`range\/d=`zip\/d=`enumerate)/\sc.names.lookup d=some .globalImplicit:=by
 delta isIt at h;simp![Vq,Wz,Wz]at h;erw[⟨?_,WA h.2⟩];rcases h.1 with(h|h)|h; ·rwa[.inl (WA h)]
 ·rwa[.inr (.inl (WA h))]
 ·rwa[.inr (.inr (WA h))]
theorem Sl(v:Ctx P k){m:Expr->M V}(t:isIt sc y=true)(w:bF es=true)(H:∀e∈es,EV A stk L env sc ls e (m e)):EI A stk L env sc ls (.Call (.Name y p) es [] B) (aa (ao (es.map m)) λas=>bI y as):=λW G s I x=>by
 obtain⟨l,f⟩:=MF t;clear t;obtain⟨T,rfl,j⟩:∃T:String,y=S T/\(T="range"\/T="zip"\/T="enumerate"):=by
  rcases l with rfl|rfl|rfl; ·rwa[m_12 _ rfl (.inl rfl)]
  ·rwa[m_12 _ rfl (.inr (.inl rfl))]
  ·rwa[m_12 _ rfl (.inr (.inr rfl))]
 erw[Ref.look (a:=.type T) (λQ E q=>W8 ((v.its T j) sc env x.fa.sco x.fa.fn x.fa.gl x.fa.bu f A s Q E (λa o z=>I.stays a o (I.based a o z)) q) (by clear f;clear q;rcases j with rfl|rfl|rfl<;>decide +kernel)) ?_];rwa[qF (λA s B first i Q E l Y Y h=>PySem.callWith_type l (WI h (λY Y z=>z.2) λY Y z=>z)) w H I x λK F g n u c d C=>Ref.mono (CZ j c C) λJ D b a N Y Y Y Y r=>r.le λY=>d.dead]
end
end
section
open Builtin
section
variable{P:Addr->Prop}
theorem Inv.notLive(I:Inv W σ h)(a:h.get? u=some oe)(hd:oe.data=.fields vs): ¬live σ W.ρ u:=by
 erw[λg=>x_34 g λn o p l v k d=>?_];cases I.cell n o p l k v with
 |list q f e=>
  have:u=p.1:=by rcases d with h|h;rwa[h];rwa[h.trans q]
  rw[this,f]at a;injection a with b;subst b;cases hd
 |dict q f s w=>
  erw[fi f λy x t j r=>?_];have:u=p.1:=by rcases d with h|h;rwa[h];rwa[h.trans q]
  rw[this,j]at a;injection a with b;subst b;replace hd:=Vn (am r.2.1) hd;cases hd
 |inst c m i e=>
  rcases d with h|h; ·rw[h,m]at a;injection a with b;subst b;cases hd
  ·rw[h,i]at a;injection a with b;subst b;cases hd
theorem Step.priv2(S:Step W₀ σ₀ h₀ W σ h X)(I:Inv W σ h)(f:cz W σ P)(k:∀b o,¬P b->h.get? b=some o->h'.get? b=some o)(c:∀b,P b->h₀.get? b=none\/∀o,h.get? b=some o->Kept o (h'.get? b)):Step W₀ σ₀ h₀ (b0 W h h' P) σ h' X where
 F:=λa o e=>(I.priv f k).1 a o (S.F a o e)
 ρ:=S.ρ
 newF:=λa o e=>by
  rcases da e with⟨⟨n,g⟩|q,m⟩; ·have:=(I.priv f k).1 a n g;replace this:=Vn (am e) this;injection this with j;subst j;rwa[S.newF a o g]
  ·rwa[.inr (.inr (S.dead q.1))]
 liv:=S.liv
 keep:=λb o e l i=>by
  erw[(S.keep b o e l i).trans λn d=>?_];by_cases q:P b
  ·rcases c b q with r|r; ·replace e:=Vn (am r) e;rwa[k_nn e]
   ·rwa[r n d]
  ·rwa[(k b n q d)▸Kept.refl n]
 alive:=λb o e=>by
  obtain⟨n,d⟩:=S.alive b o e;by_cases q:P b
  ·rcases c b q with r|r; ·replace e:=(r)▸e;rwa[k_nn e]
   ·obtain⟨sl,h⟩:=(r n d).some;rwa[⟨_,h⟩]
  ·rwa[⟨n,k b n q d⟩]
def kJ(W:St)(h₀:Heap)(fl:ea)(x:ea)(c:Str)(h:Heap):Prop:=∃e oe vs T oT ts,x=.ref e/\h₀.get? e=none/\W.F.get? e=none/\h.get? e=some oe/\(∃C,eG c=some C/\oe.cls=.ref C)/\oe.data=.fields vs/\vs[1]?=some (.ref T)/\h₀.get? T=none/\W.F.get? T=none/\T≠e/\h.get? T=some oT/\oT.data=.fields ts/\ts[3]?=some fl
theorem kJ.at(H:kJ W h₀ r x c h):ExcAt W h₀ L x c h:=by injections h h₀ W c x r L;erw[ba λj=>?_];obtain⟨e,t,v,T,i,s,p,u,q,g,n,k,m,l,o,b,d,f,a⟩:=H;rwa[j (LQ e t v p u q g n k (.inr (TN T i s r m l o b d f a)))]
noncomputable def noHeap:Heap:={objs:=#[]}
theorem noHeap_get(a:Addr):noHeap.get? a=none:=rfl
theorem bC.fun(k:bC W σ h l)(b:Heap)(d:∀a,b.get? a=none):h.FunFrames b l:=by induction l with|nil=>trivial|cons e l j=>erw[ba λi=>?_];obtain⟨m,f,o,u,n,t,p,c,s,r⟩:=k e (.head _);rwa[i (m_03 m (Hg f o t (d f) p λv q=>by replace q:=(c)▸q;cases q) (j λx g=>k x (.tail _ g)))]
theorem bC.mem(k:bC W σ h l)(d:b∈l.filterMap (·.frame)):∃o es n,h.get? b=some o/\o.data=.dict es n/\W.F.get? b=none/\ ¬live σ W.ρ b:=by injections l _ b h W σ;erw[x_12 (Wh.mp d) λe j a=>?_];obtain⟨q,f,o,es,n,r,m,c,p,g⟩:=k e j;replace a:=Vn (am r) a;injection a with i;rwa[i▸(gO o es n m c p g)]
theorem C3{c:Env}{Q:a8}(d:A.frames=some (c::outer))(f:s.heap.FunFrames j (c::outer))(e:c.frame=some L)(g:env.frame=some L)(h:∀h',Heap.SlotsOnly ((c::outer).filterMap (·.frame)) s.heap h'->Q (.ref L) {s with heap:=h'}):ed i A (as1 env) Q E s:=by erw[Vm (wpAny_frameEnvs d ?_)];rw[(by simp[List.dropWhile,e,g]:(c::outer).dropWhile λx=>x.frame !=env.frame=c::outer)];rwa[Vm (Vm (wpAny_readyFrames_fun f λb a=>Vs ((e)▸Vs (h b a))))]
theorem Ap{e:Addr}{vs:Array ea}(w:A.frames=some stk)(t:∃e r,stk=e::r/\e.frame=some L)(y:bC W σ s.heap stk)(J:env.frame=some L)(G:s.heap.get? e=some oe)(hd:oe.data=.fields vs)(C:1<vs.size)(h:∀h' T,T≠e->s.heap.get? T=none->(∀b o,b≠e->b∉stk.filterMap (·.frame)->s.heap.get? b=some o->h'.get? b=some o)->(∀b o,b∈stk.filterMap (·.frame)->s.heap.get? b=some o->Kept o (h'.get? b))->(∃k,h'.get? e=some k/\k.cls=oe.cls/\k.data=.fields (vs.setIfInBounds 1 (.ref T)))->(∃F ts,h'.get? T=some F/\F.data=.fields ts/\ts[3]?=some (m5 L))->Q () {s with heap:=h'}):ed U A (do let a<-as1 env;let pl<-entryPlaceOf L hadNext;let b<-EntryCells.newEntry head a .none (m5 L) .none pl;setField (.ref e) 1 b) Q E s:=by
 injections A env stk oe s W σ Q E L U hadNext head e vs;erw[ba λH=>d6 t λN outer D K=>?_];clear t;subst D;have j:e∉(N::outer).filterMap (·.frame):=λO=>by erw[bw (y.mem O) λo es n m l Y=>?_];replace m:=Vn (am G) m;injection m with I;subst I;replace l:=Vn (am hd) l;cases l
 erw[H (Vm (C3 w (y.fun noHeap noHeap_get) K J λh₁ c=>Vm (wpAny_entryPlaceOf λpl v=>Vm (Yc ?_ (v.sizeOk5 _ _ _ _ _)))))];have d:h₁.get? e=some oe:=(c.2.1 e j).trans G;have g:=Vr (h:=h₁) {cls:=.type "traceback",dict:=none,data:=.fields ([head,.ref L,.none,m5 L,.none]++if pl.isEmpty then ew 6 q0 else pl).toArray} d;erw[Xz g hd C ?_];have p:h₁.objs.size≠e:=WQ (Wm d);have f:=XA hd (·.setIfInBounds 1 (e0 h₁.objs.size));erw[h _ h₁.objs.size p ((c.1)▸bb _) (λb o B i u=>?_) (λb o i u=>?_) (ia _ ((WH (qq (·.setIfInBounds 1 (e0 h₁.objs.size))) g (X9 f))) (ZJ _ _) f) (rF _ _ (((V6 (h₁.push {cls:=.type "traceback",dict:=none,data:=.fields ([head,.ref L,.none,m5 L,.none]++if pl.isEmpty then ew 6 q0 else pl).toArray}) (qq (·.setIfInBounds 1 (e0 h₁.objs.size))) (hg p)).trans (VH h₁ rfl))) rfl (by trivial))]; ·rwa[Vn (V6 _ _ (hg B)) (Vr _ ((c.2.1 b i).trans u))]
 ·erw[bw (y.mem i) λo' es n m z Y=>?_];replace m:=Vn (am u) m;obtain rfl:=Vp m;obtain⟨sl,x⟩:=c.2.2 b o u;rwa[.inr (m_32 es n sl z (Vn (V6 _ _ (hg λq=>j (q▸i))) (Vr _ x)))]
theorem turned(g:bC W σ h stk)(I:Inv W σ h)(S:Step W₀ σ₀ h₀ W σ h X)(U:Addr->Prop)(a:∀b,U b->W.F.get? b=none/\ ¬live σ W.ρ b/\h₀.get? b=none)(F:∀b o,¬U b->b∉stk.filterMap (·.frame)->h.get? b=some o->h'.get? b=some o)(E:∀b o,b∈stk.filterMap (·.frame)->h.get? b=some o->Kept o (h'.get? b)):∃W',Inv W' σ h'/\Step W₀ σ₀ h₀ W' σ h' X/\W'.ρ=W.ρ/\bC W' σ h' stk/\∀b,W.F.get? b=none->W'.F.get? b=none:=by
 injections X W₀ σ₀ g I S _ h h' h₀ stk W σ U;have c:cz W σ λb=>U b\/b∈stk.filterMap (·.frame)\/h.get? b=none:=λb q=>by
  erw[Pg q (λq=>?_) (λq=>?_) λq=>?_]; ·rwa[⟨(a b q).1,(a b q).2.1⟩]
  ·rwa[x_34 (g.mem q) λo es n Y Y B m=>⟨B,m⟩]
  ·erw[⟨?_,λl=>?_⟩]; ·cases e:W.F.get? b with|none=>rfl|some o=>replace q:=Vn (am (I.stays b o e)) q;rwa[k_sn q]
   ·obtain⟨o,e⟩:=I.lt l;replace q:=Vn (am e) q;rwa[k_sn q]
 have k:∀b o,¬(U b\/b∈stk.filterMap (·.frame)\/h.get? b=none)->h.get? b=some o->h'.get? b=some o:=λb o q e=>F b o (λz=>q (.inl z)) (λz=>q (.inr (.inl z))) e;erw[rG (I.priv c k) λp1 G D C=>?_];have d:∀b,W.F.get? b=none->(b0 W h h' λb=>U b\/b∈stk.filterMap (·.frame)\/h.get? b=none).F.get? b=none:=λb p=>fe (by
  rintro(⟨o,e⟩|⟨q1,q2⟩); ·replace e:=(p)▸e;rwa[k_nn e]
  ·rwa[q2 (.inr (.inr q1))]);erw[Rz _ G (S.priv2 I c k λb q=>?_) rfl (λy i=>?_) d]
 ·rwa[Pg q (λq=>.inl (a b q).2.2) (λq=>.inr λo e=>E b o q e) λq=>.inl (S.dead q)]
 ·erw[ba λv=>?_];obtain⟨s,f,o,es,n,j,x,t,w,r⟩:=g y i;rwa[x_12 (pb (E f o (Wh.mpr (m_12 y i j)) x) t) λo' A u=>v ⟨s,f,o',es,n,j,A,u,d f w,r⟩]
theorem sv(u:A.frames=some stk)(F:∃e r,stk=e::r/\e.frame=some L)(B:bC W σ s.heap stk)(hf:env.frame=some L)(I:Inv W σ s.heap)(S:Step W₀ σ₀ h₀ W σ s.heap X)(hx:ExcAt W h₀ L x c s.heap)(q:∀W' h',Inv W' σ h'->Step W₀ σ₀ h₀ W' σ h' X->bC W' σ h' stk->kJ W' h₀ (m5 L) x c h'->Q () {s with heap:=h'}):ed MG A (noteFrame x env) Q E s:=by
 injections X A env h₀ stk s W σ c Q x E L W₀ σ₀;erw[RI hx λe oe vs q03 h2 D m h5 l C=>?_];clear hx;subst q03;dsimp![noteFrame];erw[(hf)▸(ba λp=>?_)];rcases C with C|⟨T,M,ts,fl,J,a2,a3,a4,w,v,a7⟩
 ·erw[p (Vm (V5 m l C (Ap u F B hf m l (WM.mp C).1 λh' T hT a k1 k2⟨h,P,R,U⟩⟨M,ts,N,b5,O⟩=>Hi (turned B I S (· =e) (λb z=>(z)▸m_03 D (I.notLive m l) h2) (λb o f j e=>k1 b o f j e) k2) λW' I' Z Y k y=>?_)))];have hTF:W.F.get? T=none:=by cases e:W.F.get? T with|none=>rfl|some o=>replace a:=Vn (am (I.stays T o e)) a;rwa[k_sn a]
  rwa[q W' h' I' Z k ⟨e,h,_,T,M,ts,rfl,h2,y _ D,P,(R)▸h5,U,Vn (Xe (WM.mp C).1) rfl,S.dead a,y _ hTF,hT,N,b5,O⟩]
 ·erw[p (Vm (V5 m l J (Vm (V5 w v a7 ?_))))];cases g:fl==m5 L
  ·erw[Vm (Xz w v (WM.mp a7).1 ?_)];have d:∀b,b≠T->(s.heap.update T (qq (·.setIfInBounds 3 q0))).get? b=s.heap.get? b:=λb f=>V6 _ _ (hg f);erw[ba λp=>Hi (turned (h':=s.heap.update T (qq (·.setIfInBounds 3 q0))) B I S (· =T) (λb z=>(z)▸m_03 a3 (I.notLive w v) a2) (λb o f Y e=>(d b f).trans e) λb o f e=>(d b λz=>(λhm=>by erw[bw (B.mem hm) λo es n ho i Y=>?_];replace ho:=(w)▸ho;injection ho with h9;subst h9;replace i:=Vn (am v) i;cases i) (z▸f)).trans e▸Kept.refl o) λW1 V S1 r1 H t=>?_];have G:=(d e (hg a4)).trans m;rwa[p (Ap (s:={s with heap:=s.heap.update T (qq (·.setIfInBounds 3 q0))}) u F H hf G l (WM.mp J).1 λh' T' hT a k1 k2⟨h,P,R,U⟩⟨K,ts',N,b5,O⟩=>ba λp=>Hi (turned H V S1 (· =e) (λb z=>(z)▸m_03 (t _ D) (V.notLive G l) h2) (λb o f j e=>k1 b o f j e) k2) λW' I' Z Y k y=>p (q W' h' I' Z k ⟨e,h,_,T',K,ts',rfl,h2,y _ (t _ D),P,(R)▸h5,U,Xe (WM.mp J).1,S1.dead a,y _ (by cases e:W1.F.get? T' with|none=>rfl|some o=>replace a:=Vn (am (V.stays T' o e)) a;rwa[k_sn a]),hT,N,b5,O⟩))]
  ·have g:fl=m5 L:=WA g;subst g;rwa[Vs (q W s.heap I S B ⟨e,oe,vs,T,M,ts,rfl,h2,D,m,h5,l,J,a2,a3,a4,w,v,a7⟩)]
theorem jL(w:bC W σ s.heap stk)(I:Inv W σ s.heap)(S:Step W₀ σ₀ h₀ W σ s.heap X)(D:kJ W h₀ fl x c s.heap){fr:Option Addr}(q:∀W' h',Inv W' σ h'->Step W₀ σ₀ h₀ W' σ h' X->bC W' σ h' stk->kJ W' h₀ (fr.elim .none λf=>m5 f) x c h'->Q () {s with heap:=h'}):ed MG A (setFlight x fr) Q E s:=by injections X A stk Q x E W₀ σ₀ w I S D _ h₀ s W σ c fl fr;erw[ba λm=>?_];obtain⟨e,oe,vs,T,N,ts,rfl,h2,M,t,H,v,u,a2,B,y,l,k,J⟩:=D;erw[m (Vm (V5 t v u ?_))];have j:=(WM.mp J).1;erw[Xz l k j ?_];have a:∀b,b≠T->(s.heap.update T (qq (·.setIfInBounds 3 (fr.elim .none λf=>m5 f)))).get? b=s.heap.get? b:=λb i=>V6 _ _ (hg i);have d:=XA k (·.setIfInBounds 3 (fr.elim .none λf=>m5 f));erw[ba λm=>Hi (turned (h':=s.heap.update T (qq (·.setIfInBounds 3 (fr.elim .none λf=>m5 f)))) w I S (· =T) (λb z=>(z)▸m_03 B (I.notLive l k) a2) (λb o i Y e=>(a b i).trans e) λb o i e=>(a b λz=>(λC=>by erw[bw (w.mem C) λo es n p g Y=>?_];replace p:=Vn (am l) p;injection p with K;subst K;replace g:=(k)▸g;cases g) (z▸i)).trans e▸Kept.refl o) λL F G O r h=>?_];rwa[m (q L _ F G r ⟨e,oe,vs,T,_,_,rfl,h2,h _ M,(a e (hg y)).trans t,H,v,u,a2,h _ B,y,WH _ l (X9 d),d,Vn (Xe j) rfl⟩)]
theorem FP(l:bC W σ s.heap stk)(I:Inv W σ s.heap)(S:Step W₀ σ₀ h₀ W σ s.heap X)(d:kJ W h₀ fl x c s.heap){Q:a9 α}(q:∀W' h',Inv W' σ h'->Step W₀ σ₀ h₀ W' σ h' X->bC W' σ h' stk->kJ W' h₀ (env.frame.elim .none λf=>m5 f) x c h'->E x {s with heap:=h'}):ed MG A (PySem.passOn y x env:Sem α) Q E s:=by injections α X stk σ x E W₀ σ₀ y _ A env h₀ s W c fl;erw[ba λj=>?_];obtain⟨e,B,C,T,n,ts,rfl,h2,w,g,r,k,h,z,v,u,p,o,t⟩:=id d;rwa[j (Vm (V5 g k h (Vm (jL l I S d λW' h' m i a b=>ab0 (q W' h' m i a b)))))]
theorem C4(a:A.frames=some stk)(f:∃e r,stk=e::r/\e.frame=some L)(m:bC W σ s.heap stk)(n:env.frame=some L)(I:Inv W σ s.heap)(S:Step W₀ σ₀ h₀ W σ s.heap X)(j:ExcAt W h₀ L x c s.heap)(q:∀W' h',Inv W' σ h'->Step W₀ σ₀ h₀ W' σ h' X->bC W' σ h' stk->kJ W' h₀ .none x c h'->Q () {s with heap:=h'}):ed MG A (leaving env x) Q E s:=Vm (sv a f m n I S j λW' h' p k b h=>jL (s:={s with heap:=h'}) b p k h λl h2 i o d g=>q l h2 i o d g)
end
end
end
section
variable{α β γ δ:Type}{a a2:Addr}{p:Addr×Addr}{X YY P:Addr->Prop}{A:kx}{b pr:Bool}{cd:ClassData}{d y:Dat}{env:Env}{mean:ExcName->Option ea}{t elt iter iter' e l:Expr}{fd:as0}{h h' h₀:Heap}{fp:List Addr}{ds xs acc ys:List Dat}{stk:List Env}{hs:List ag2}{ts ifs es args:List Expr}{ss:List Stmt}{mv ps:List Str}{cs:List ea}{ls:Ls}{inner:Ls->List Dat->M (Ls×List Dat)}{mt:Ls->M Bool}{me:Ls->M V}{kn kc:Ls->M α}{o:aX}{k n i tk k1 k2 N:Nat}{oe:Obj}{od:Option Addr}{z:Option Dat}{os:ap9}{prog:ap8}{res:Res (Ls×List Dat)}{r:Res β}{R:a9 Result}{sc scope:e6}{tsf:e6->Expr->Ls->M Bool}{itf:e6->Expr->Ls->M Src}{evf:e6->Expr->Ls->M V}{s s₀ s' s₁:eN}{Xt:eN->Bool}{Yf:eN->α}{W W':St}{σ σ₀ σ':ae}{x c cn q:Str}{U:Str->List V->M V}{kindOf:Str->Option hP}{mb mg:Str->Option ea}{tb:String->Option Builtin}{kr:V->M α}{v oc:ea}{RR:ea->Addr->a9 Result}{E Q:a8}{f:β->M α}{g:β->δ->Sem (ForInStep δ)}{Q':a9 γ}
section
open Builtin
structure Turn(p:Str->Bool)(env:Env)(sc:e6)(W:St)(h:Heap)(W':St)(h':Heap):Prop where
 ρ:W'.ρ=W.ρ
 F:W.F.StaysIn W'.F
 same:∀b o,b≠env.locals->(∀y,p y=true->sc.names.lookup y=some .cell->env.cells.lookup y≠some b)->h.get? b=some o->h'.get? b=some o
 nF:∀b,W.F.get? b=none->(∃o,h.get? b=some o)->W'.F.get? b=none
 alive:∀b o,h.get? b=some o->∃o',h'.get? b=some o'
structure OQ(env:Env)(sc:e6)(h₀:Heap)(p:Str->Bool):Prop where
 hL:h₀.get? env.locals=none
 hC:∀x a,p x=true->sc.names.lookup x=some .cell->env.cells.lookup x=some a->h₀.get? a=none
 hp:∀x,p x=true->sc.names.lookup x=some .local\/sc.names.lookup x=some .cell
section
variable{p:Str->Bool}
theorem Turn.refl:Turn p env sc W h W h:=⟨rfl,λY Y e=>e,λY Y Y Y e=>e,λY e Y=>e,λY o e=>⟨o,e⟩⟩
theorem Turn.trans(a:Turn p env sc W h W' h')(b:Turn p env sc W' h' W'' h''):Turn p env sc W h W'' h'':=⟨b.ρ.trans a.ρ,λx o e=>b.F x o (a.F x o e),λx o c f e=>b.same x o c f (a.same x o c f e),λx c⟨o,f⟩=>b.nF x (a.nF x c ⟨o,f⟩) (a.alive x o f),λx o e=>let⟨g,d⟩:=a.alive x o e;b.alive x g d⟩
theorem Turn.of{sc':e6}(f:aT W' σ env sc ls' h')(i:W'.ρ=W.ρ)(s:W.F.StaysIn W'.F)(B:∀b o,b≠env.locals->(∀y,p y=true->sc.names.lookup y=some .cell->env.cells.lookup y≠some b)->h.get? b=some o->h'.get? b=some o)(l:∀b,W.F.get? b=none->(∃o,h.get? b=some o)->W'.F.get? b=none):Turn p env sc W h W' h':=⟨i,s,B,l,λb o e=>by
 by_cases j:b=env.locals; ·rwa[x_12 f.ns λm g Y=>fi g λo E x n Y=>⟨o,j▸n⟩]
 ·by_cases C:∃y,p y=true/\sc.names.lookup y=some .cell/\env.cells.lookup y=some b; ·erw[gJ C λy Y w a=>fw (f.cell y (.inl w)) λc A k d Y=>x_12 d λD u z=>?_];replace a:=Vn (am k) a;injection a with r;rwa[r▸⟨D,u⟩]
  ·rwa[⟨o,B b o j (λy t q v=>C (ia y t q v)) e⟩]⟩
theorem Turn.grow(I:Inv W σ h)(k:∀b o,h.get? b=some o->h'.get? b=some o):Turn p env sc W h (grown W h h') h':=by
 erw[⟨rfl,(I.grow k).1,λb o Y Y e=>k b o e,λb c f=>?_,λb o e=>⟨o,k b o e⟩⟩];obtain⟨o,e⟩:=f;cases q:(grown W h h').F.get? b with
 |none=>rfl
 |some i=>
  rcases da q with⟨⟨d,a⟩|z,g⟩; ·replace a:=Vn (am c) a;rwa[k_nn a]
  ·replace z:=(e)▸z;rwa[k_sn z]
theorem nI:(RG.Internal.stq:M α)≠ret j:=λh=>by have:=Wd h [];cases this
theorem yv(h:(ret j:M α)=ret m):j=m:=by have:=Wd h [];clear h;cases this;rfl
theorem pf(O:OQ env sc h₀ p){v:V}(I:Inv W σ s.heap)(f:aT W σ env sc ls s.heap)(S:Step W₀ σ₀ h₀ W σ s.heap eC)(d:(f9 u ls&&p u)=true)(hv:VR W v B){Q:a9 Unit}{E:a8}(q:∀W' h' tk,Inv W' σ h'->Step W₀ σ₀ h₀ W' σ h' eC->aT W' σ env sc (gK u v ls) h'->Turn p env sc W s.heap W' h'->Q () {s with heap:=h',toks:=tk}):ed MG A (ad6 (.Name u w) env B) Q E s:=by simp![Vq]at d;rwa[am9 (f.store I S d.1 (O.hp u d.2) hv O.hL (λa l t=>O.hC u a d.2 l t) λW' h' tk n h c Y m i k j=>q W' h' tk n h c (Turn.of (sc':=sc) c m i (λb o g r e=>k b o g (r u d.2) e) j))]
theorem pg{C:Prop}(h:optM j f=ret m)(k:∀a,j=some a->f a=ret m->C):C:=by cases j with|none=>rwa[absurd h nI]|some a=>rwa[k a rfl h]
theorem yw{C:Prop}(h:ng b m=ret j)(k:b=true->m=ret j->C):C:=by cases b with|false=>rwa[absurd h nI]|true=>rwa[k rfl h]
theorem yx(h:∀a,f a=RG.Internal.stq\/∃x,f a=ret x):optM j f=RG.Internal.stq\/∃x,optM j f=ret x:=by cases j with|none=>rwa[.inl rfl]|some a=>rwa[h a]
theorem ID(h:m=RG.Internal.stq\/∃x,m=ret x):ng b m=RG.Internal.stq\/∃x,ng b m=ret x:=by cases b with|false=>rwa[.inl rfl]|true=>rwa[h]
theorem FQ(O:OQ env sc h₀ p){Q:a9 Unit}(a:qp p ts ds ls=ret ls')(hd:c9 W.F ds cs)(I:Inv W σ s.heap)(f:aT W σ env sc ls s.heap)(S:Step W₀ σ₀ h₀ W σ s.heap eC)(q:∀W' h' tk,Inv W' σ h'->Step W₀ σ₀ h₀ W' σ h' eC->aT W' σ env sc ls' h'->Turn p env sc W s.heap W' h'->Q () {s with heap:=h',toks:=tk}):ed MG A (af5 ((hX ts env).map (·.2)) cs) Q E s:=by
 induction ts generalizing ds cs ls W s with
 |nil=>cases ds with|nil=>rwa[Vs (q W s.heap s.toks I S (yv a▸f) Turn.refl)]|cons _ _=>rwa[absurd a nI]
 |cons t ts w=>cases ds with|nil=>rwa[absurd a nI]|cons d ds=>rwa[pg a λx F a=>yw a λk a=>fw hd.co λc b e hd C=>(e)▸(nB F (P:=λt=>ed MG A (af5 ((hX (t::ts) env).map (·.2)) (c::b)) Q E s) λG=>Vm (VX (pf O I f S k (v:=.d d) hd λB y g l n o i=>w (s:={s with heap:=y,toks:=g}) a (C.mono i.F) l o n λm D h j z u r=>q m D h j z u (i.trans r))))]
theorem yy(c:qp p ts ds ls=ret ls'):(hX ts env).length=ds.length/\(hX ts env).findIdx? (·.1)=none:=by
 induction ts generalizing ds ls with
 |nil=>cases ds with|nil=>rwa[⟨rfl,rfl⟩]|cons _ _=>rwa[absurd c nI]
 |cons t ts e=>cases ds with|nil=>rwa[absurd c nI]|cons d ds=>erw[pg c λx h c=>yw c λf c=>hJ (λa b=>nB h (P:=λt=>(hX (t::ts) env).length=(d::ds).length/\(hX (t::ts) env).findIdx? (·.1)=none) λg=>⟨VT ah6 a,Vn ac9 ?_⟩) (e c)];simp[b]
theorem tc(O:OQ env sc h₀ p)(C:A.handled=none){c:ea}(g:gN p t d ls=ret ls')(hd:DR W.F d c)(I:Inv W σ s.heap)(f:aT W σ env sc ls s.heap)(S:Step W₀ σ₀ h₀ W σ s.heap eC){Q:a9 Unit}(q:∀W' h' tk,Inv W' σ h'->Step W₀ σ₀ h₀ W' σ h' eC->aT W' σ env sc ls' h'->Turn p env sc W s.heap W' h'->Q () {s with heap:=h',toks:=tk}):ed MG A (ad6 t env c) Q E s:=by delta gN at g;cases K:vK t with|some x=>rw[K]at g;rwa[yw g λm g=>nB K (P:=λt=>ed MG A (ad6 t env c) Q E s) λL=>pf O I f S m (v:=.d d) hd ((yv g)▸q)]|none=>replace g:=(K)▸g;erw[pg g λT B g=>pg g λU J g=>bw (k7 (v:=.d d) hd J) λa R n e r M=>(e)▸(yh B (P:=λt=>ed MG A (ad6 t env (.ref a)) Q E s) λk L=>hJ (λG u=>ad0 C (items:=R.toArray) ⟨_,I.stays _ _ r,rfl,_,rfl⟩ (by erw[Vn G ?_];simp![VV,M.length]) u λi y=>?_) (yy (env:=env) g))];have k:∀b o,s.heap.get? b=some o->i.get? b=some o:=λb o e=>y b o (λz=>by rw[z,bb]at e;rwa[k_nn e]) e;have j:=Step.grow I k eC;rwa[FQ (s:={s with heap:=i}) (W:=grown W s.heap i) O g (M.mono (I.grow k).1) (I.grow k).2 (f.step j) (S.trans j) λw N h l H F D=>q w N h l H F ((Turn.grow I k).trans D)]
theorem FR:qp p ts ds ls=RG.Internal.stq\/∃ls',qp p ts ds ls=ret ls':=by
 induction ts generalizing ds ls with
 |nil=>cases ds with|nil=>rwa[.inr ⟨ls,rfl⟩]|cons _ _=>rwa[.inl rfl]
 |cons t ts a=>cases ds with|nil=>rwa[.inl rfl]|cons d ds=>rwa[yx λx=>ID a]
theorem td:gN p t d ls=RG.Internal.stq\/∃ls',gN p t d ls=ret ls':=by delta gN;cases vK t with|some x=>rwa[ID (.inr ⟨_,rfl⟩)]|none=>rwa[yx λY=>yx λY=>FR]
end
end
section
open Builtin
section
variable{p:Str->Bool}
theorem Step.joinX(a:Step W₀ σ₀ h₀ W σ h YY)(b:Step W σ h W' σ' h' X)(f:∀x,X x->YY x\/h₀.get? x=none):Step W₀ σ₀ h₀ W' σ' h' YY where
 F:=λx o e=>b.F x o (a.F x o e)
 ρ:=let⟨r,g⟩:=a.ρ;let⟨q,i⟩:=b.ρ;⟨r++q,by simp![i,g,VA]⟩
 newF:=λx o e=>by
  rwa[Pg (b.newF x o e) (λh=>a.newF x o h) (λh=>.inr (a.liv x h)) λh=>.inr (.inr (a.dead h))]
 liv:=λx e=>by
  rcases b.liv x e with h|h; ·rwa[a.liv x h]
  ·rwa[.inr (a.dead h)]
 keep:=λx o e n d=>by
  erw[(a.keep x o e n d).trans λj c=>b.keep x j c (λl=>?_) λq=>?_]
  ·rcases a.liv x l with h|h; ·rwa[n h]
   ·rw[e]at h;rwa[k_sn h]
  ·rcases f x q with h|h; ·rwa[d h]
   ·rw[e]at h;rwa[k_sn h]
 alive:=λx o e=>let⟨j,c⟩:=a.alive x o e;b.alive x j c
theorem Step.self(I:Inv W σ h)(c:cz W σ P)(k:∀b o,¬P b->h.get? b=some o->h'.get? b=some o)(g:∀b o,P b->h.get? b=some o->∃l,h'.get? b=some l):Step W σ h (b0 W h h' P) σ h' P where
 F:=(I.priv c k).1
 ρ:=⟨[],by simp[b0]⟩
 newF:=λa o e=>by
  rcases da e with⟨⟨l,d⟩|q,j⟩; ·have:=(I.priv c k).1 a l d;replace this:=Vn (am e) this;injection this with i;rwa[i▸(.inl d)]
  ·rwa[.inr (.inr q.1)]
 liv:=λY e=>.inl e
 keep:=λb o e Y f=>(k b o f e)▸Kept.refl o
 alive:=λb o e=>by
  by_cases q:P b; ·rwa[g b o q e]
  ·rwa[⟨o,k b o q e⟩]
theorem Turn.step(t:Turn p env sc W h W' h')(i:∀y,p y=true->sc.names.lookup y≠some .cell):Step W σ h W' σ h' (· =env.locals)where
 F:=t.F
 ρ:=⟨[],by simp[t.ρ]⟩
 newF:=λa o e=>by cases q:h.get? a with|none=>rwa[.inr (.inr rfl)]|some k=>cases r:W.F.get? a with|none=>replace e:=Vn (am (t.nF a r ⟨k,q⟩)) e;rwa[k_nn e]|some c=>have:=t.F a c r;replace this:=Vn (am e) this;injection this with j;rwa[(j)▸.inl rfl]
 liv:=λa l=>.inl (t.ρ▸l)
 keep:=λb o e Y g=>(t.same b o g (λy f d=>absurd d (i y f)) e)▸Kept.refl o
 alive:=t.alive
theorem aT.stepX(f:aT W σ env sc ls h)(S:Step W σ h W' σ' h' X)(y: ¬X env.locals)(B:∀x c,bx sc x->env.cells.lookup x=some c-> ¬X c):aT W' σ' env sc ls h':=by
 erw[ba λi=>x_12 f.ns λm A v=>bw A λo F w t hd z=>x_12 (pb (S.keep _ o t (f.priv _ rfl).2 y) hd) λG j k=>i ⟨f.sco,f.fn,f.gl,f.bu,m_12 m (m_33 G F w j k z) λx a=>(v x a).step S,λx a=>?_,f.inj,f.priv.step S λb q=>⟨o,(q)▸t⟩,λx c a p=>?_⟩]; ·erw[ba λi=>fw (f.cell x a) λc u d l s=>x_12 l λD E r=>?_];have g:=f.cpriv x c a d;have:=gS (S.keep _ D E g.2.1 (B x c a d)) (by intro F n q;replace q:=Vn (am r) q;cases q);rwa[i (rF c u d (m_12 D this r) (s.step S))]
 ·erw[fw (f.cell x a) λC u d e s=>x_12 e λD E r=>(Vp (d.symm.trans p))▸?_];have g:=f.cpriv x C a d;have:cz W' σ' (· =C):=cz.step (P:=(· =C)) (λb q=>(q)▸⟨g.1,g.2.1⟩) S λb q=>⟨D,(q)▸E⟩;rwa[m_03 (this C rfl).1 (this C rfl).2 g.2.2]
theorem bC.stepX(k:bC W σ h stk)(S:Step W σ h W' σ' h' X)(m:∀f∈stk.filterMap (·.frame),¬X f):bC W' σ' h' stk:=λe a=>by erw[ba λj=>?_];obtain⟨p,f,o,t,n,s,d,g,l,c⟩:=k e a;erw[x_12 (pb (S.keep f o d c (m f (Wh.mpr (m_12 e a s)))) g) λu r i=>?_];have q:cz W' σ' (· =f):=cz.step (P:=(· =f)) (λb q=>(q)▸⟨l,c⟩) S λb q=>⟨o,(q)▸d⟩;rwa[j ⟨p,f,u,t,n,s,r,i,(q f rfl).1,(q f rfl).2⟩]
noncomputable def Aq(W:St)(h:Heap)(D:Addr):St:=⟨only h λa=>(∃o,W.F.get? a=some o)\/a=D,W.ρ⟩
theorem Inv.take(I:Inv W σ h)(k:cz W σ (· =D))(p:h.get? D=some u):W.F.StaysIn (Aq W h D).F/\(Aq W h D).F.get? D=some u/\Inv (Aq W h D) σ h:=by
 injections u _ h W σ D;have b:W.F.StaysIn (Aq W h D).F:=λa x e=>fz (.inl ⟨x,e⟩) (I.stays a x e);erw[m_03 b (fz (.inr rfl) p) ⟨λa x e=>b a x (I.known a x e),λa x e=>b a x (I.based a x e),λa x e=>(da e).2,I.len,λm x q s j n=>?_,λa l=>fe ?_,I.apart⟩]; ·cases I.cell m x q s j n with|list e c hd=>rwa[.list e c (hd.mono b)]|dict e c g i=>rwa[.dict e c g (i.mono b)]|inst o d f hd=>rwa[.inst o d f (hd.mono b)]
 ·rintro(⟨y,e⟩|r); ·replace e:=Vn (am (I.off a l)) e;rwa[k_nn e]
  ·rwa[(k a r).2 l]
theorem Step.take(S:Step W₀ σ₀ h₀ W σ h X)(I:Inv W σ h)(d:h₀.get? D=none):Step W₀ σ₀ h₀ (Aq W h D) σ h X where
 F:=λa o e=>fz (.inl ⟨o,S.F a o e⟩) (I.stays a o (S.F a o e))
 ρ:=S.ρ
 newF:=λa o e=>by
  rcases da e with⟨⟨g,b⟩|q,c⟩; ·have:=I.stays a g b;replace this:=Vn (am c) this;injection this with f;subst f;rwa[S.newF a o b]
  ·rwa[.inr (.inr ((q)▸d))]
 liv:=S.liv
 keep:=S.keep
 alive:=S.alive
noncomputable def jZ(W:St)(D:Addr):St:=⟨W.F,W.ρ++[(D,D)]⟩
theorem j0(d:W.ρ.length=σ.length)(l:live (σ++[o]) (jZ W D).ρ a):live σ W.ρ a\/a=D:=by
 erw[x_34 l λm x q e g b c=>?_];have b:(W.ρ++[(D,D)])[m]?=some q:=b;by_cases f:m<σ.length; ·replace e:=Vn (am (VS f)) e;rw[VS (by rw[d];rwa[f])]at b;rwa[.inl (gO m x q e g b c)]
 ·replace b:=Vn (am (VU (by rw[d];rwa[a_1 (WP f)]))) b;replace b:=Vn (am ZW) b;split at b; ·injection b with h;subst h;rcases c with c|c<;>rwa[.inr c]
  ·rwa[k_nn b]
theorem Inv.adopt(I:Inv W σ h)(s:cz W σ (· =D))(c:CR W.F h (D,D) o):Inv (jZ W D) (σ++[o]) h:=by
 injections h _ o W σ D;have d:∀m(x:aX)(q:Addr×Addr),(σ++[o])[m]?=some x->(W.ρ++[(D,D)])[m]?=some q->σ[m]?=some x/\W.ρ[m]?=some q\/m=σ.length/\x=o/\q=(D,D):=λm x q e g=>by
  by_cases n:m<σ.length; ·replace e:=Vn (am (VS n)) e;rw[VS ((I.len)▸n)]at g;rwa[.inl ⟨e,g⟩]
  ·rw[VU (a_1 (WP n))]at e;rw[VU ((I.len)▸(a_1 (WP n)))]at g;have:m-σ.length=0:=by cases hd:m-σ.length with|zero=>rfl|succ i=>rw[hd]at e;contradiction
   rw[this]at e;rw[I.len,this]at g;simp at e g;rwa[.inr (m_03 (by grind) e.symm g.symm)]
 have u:∀{m:Nat}{x:aX}{q:Addr×Addr},σ[m]?=some x->x≠.dead->W.ρ[m]?=some q->q.1≠D/\q.2≠D:=λk f b=>⟨λz=>(s D rfl).2 (z▸cF k f b (.inl rfl)),λz=>(s D rfl).2 (z▸cF k f b (.inr rfl))⟩;erw[⟨I.known,I.based,I.stays,by simp[jZ,I.len],λm x q k f b=>?_,λa l=>?_,λi j q r x y t k f b A C B=>?_⟩]
 ·rcases d m x q k f with⟨p,F⟩|⟨_,rfl,rfl⟩; ·rwa[I.cell m x q p F b]
  ·rwa[c]
 ·clear c;rcases j0 I.len l with l|rfl; ·rwa[I.off a l]
  ·rwa[(s _ rfl).1]
 ·clear c;rcases d i x q k C with⟨p,F⟩|⟨G,rfl,rfl⟩<;>rcases d j y r f B with⟨v,w⟩|⟨E,rfl,rfl⟩; ·rwa[I.apart i j q r x y t p v b A F w]
  ·have:=u p b F;rwa[kS this.1 this.1 this.2 this.2]
  ·have:=u v A w;rwa[kS this.1.symm this.2.symm this.1.symm this.2.symm]
  ·lia
theorem Step.adopt(S:Step W₀ σ₀ h₀ W σ h X)(b:W.ρ.length=σ.length)(c:h₀.get? D=none):Step W₀ σ₀ h₀ (jZ W D) (σ++[o]) h X where
 F:=S.F
 ρ:=let⟨r,d⟩:=S.ρ;⟨r++[(D,D)],by show W.ρ++_=_;rw[d,VA]⟩
 newF:=S.newF
 liv:=λa l=>by
  rcases j0 b l with l|rfl; ·rwa[S.liv a l]
  ·rwa[.inr c]
 keep:=S.keep
 alive:=S.alive
end
end
section
open Builtin
section
structure CS(h₀:Heap)(env:Env)(sc:e6)(stk:List Env)(fp wr:List Addr)(D:Addr):Prop where
 wf:∀b∈wr,h₀.get? b=none
 df:h₀.get? D=none
 cf:h₀.get? env.locals=none
 dfp:D∉fp
 cfp:env.locals∉fp
 dc:D≠env.locals
 ce:∀x c,bx sc x->env.cells.lookup x=some c->∃o,h₀.get? c=some o
 fr:∀f∈stk.filterMap (·.frame),∃o,h₀.get? f=some o
structure CT(W₀:St)(σ₀:ae)(h₀:Heap)(env:Env)(sc:e6)(stk:List Env)(a:Addr)(fp wr:List Addr)(pr:Bool)(D:Addr)(xs:List Dat)(ls:Ls)(acc:List Dat)(W:St)(σ:ae)(h:Heap):Prop where
 inv:Inv W σ h
 st:Step W₀ σ₀ h₀ W σ h eC
 fa:aT W σ env sc ls h
 sk:bC W σ h stk
 it:fu W.F h a fp wr pr xs
 ip:cz W σ (· ∈fp)
 acc:∃vs n,h.get? D=some (cM vs n)/\c9 W.F acc vs
 dp:cz W σ (· =D)
noncomputable abbrev CX(env:Env)(D:Addr)(wr:List Addr):Addr->Prop:=λb=>b=D\/b=env.locals\/b∈wr
theorem CT.step(C:CS h₀ env sc stk fp wr D)(c:CT W₀ σ₀ h₀ env sc stk a fp wr pr D xs ls acc W σ h)(g:Inv W' σ' h')(S:Step W σ h W' σ' h' eC):CT W₀ σ₀ h₀ env sc stk a fp wr pr D xs ls acc W' σ' h':=by erw[ba λi=>d6 c.acc λk n f l=>?_];have j:=c.it;rwa[i ⟨g,c.st.trans S,c.fa.step S,c.sk.step S,j.keep S.F λb d o e=>gS (S.keep b o e (c.ip b d).2 λz=>z) (j.noDict b d o e),c.ip.step S λb d=>j.there b d,m_22 k n (gS (S.keep D _ f (c.dp D rfl).2 λz=>z) (by intro m n q;cases q)) (l.mono S.F),c.dp.step S λb q=>⟨cM k n,(q)▸f⟩⟩]
theorem CS.notWr(C:CS h₀ env sc stk fp wr D)(g:∀b∈wr,b∈fp):env.locals∉wr/\D∉wr/\(∀x c,bx sc x->env.cells.lookup x=some c->c∉wr)/\(∀f∈stk.filterMap (·.frame),f∉wr):=kS (λz=>C.cfp (g _ z)) (λz=>C.dfp (g _ z)) (λx c a h z=>by obtain⟨o,e⟩:=C.ce x c a h;replace e:=Vn (am (C.wf c z)) e;rwa[k_nn e]) λf d z=>by obtain⟨o,e⟩:=C.fr f d;replace e:=Vn (am (C.wf f z)) e;rwa[k_nn e]
theorem CT.next(C:CS h₀ env sc stk fp wr D)(c:CT W₀ σ₀ h₀ env sc stk a fp wr pr D (B::xs) ls acc W σ s.heap)(w:pr=true->isTup tgt=true)(q:∀v W' h' tk,CT W₀ σ₀ h₀ env sc stk a fp wr pr D xs ls acc W' σ h'->Step W σ s.heap W' σ h' (CX env D wr)->DR W'.F B v->Q v {s with heap:=h',toks:=tk}):ed MG A (z2 (.ref a)) (λr s'=>∃v,r=some v/\ed MG A (j3 tgt (.ref a) v) (λY i=>Q v i) E s') E s:=by have x:=c.it;erw[rG (C.notWr x.sub) λu l p m=>x.turn c.inv.stays (λb d=>(c.ip b d).1) w λv h' tk k h=>?_];have g:cz W σ (· ∈wr):=λb d=>c.ip b (x.sub b d);have y:∀b o,¬b∈wr->s.heap.get? b=some o->h'.get? b=some o:=k;have P:=c.inv.priv (P:=(· ∈wr)) g y;obtain⟨hd,f⟩:=h _ P.1 λb o e t=>P.2.2.1 b o e (λz=>by obtain⟨H,q⟩:=x.there b (x.sub b z);replace q:=Vn (am e) q;rwa[k_nn q]) t;have S:=Step.self c.inv (P:=(· ∈wr)) g y λb o d Y=>f.there b (x.sub b d);erw[d6 c.acc λF n j G=>q v _ h' tk ⟨P.2.1,c.st.priv c.inv g y C.wf,c.fa.stepX S u p,c.sk.stepX S m,f,c.ip.step S λb d=>x.there b d,m_22 F n (y D _ l j) (G.mono S.F),c.dp.step S λb q=>⟨cM F n,(q)▸j⟩⟩ (S.mono λb d=>.inr (.inr d)) hd]
theorem CT.bind(C:CS h₀ env sc stk fp wr D)(p:A.handled=none)(c:CT W₀ σ₀ h₀ env sc stk a fp wr pr D xs ls acc W σ s.heap)(i:gN (jT sc) t d ls=ret ls')(hd:DR W.F d v){Q:a9 Unit}(q:∀W' h' tk,CT W₀ σ₀ h₀ env sc stk a fp wr pr D xs ls' acc W' σ h'->Step W σ s.heap W' σ h' (CX env D wr)->Q () {s with heap:=h',toks:=tk}):ed MG A (ad6 t env v) Q E s:=by
 have j:∀y,jT sc y=true->sc.names.lookup y=some .local:=λy h=>WA h;erw[tc ⟨C.cf,λy b g w Y=>(by replace w:=Vn (am (j y g)) w;rwa[nomatch w]),λy h=>.inl (j y h)⟩ p i hd c.inv c.fa c.st λW' h' tk u l G x=>?_];have S:Step W σ s.heap W' σ h' (· =env.locals):=x.step λy g w=>by replace w:=Vn (am (j y g)) w;rwa[nomatch w]
 erw[d6 c.acc λF n g w=>?_];have B:=c.it;have k:∀b o,b≠env.locals->s.heap.get? b=some o->h'.get? b=some o:=λb o e m=>x.same b o e (λy g w=>by replace w:=Vn (am (j y g)) w;rwa[nomatch w]) m;erw[q W' h' tk ⟨u,l,G,c.sk.stepX S λf r z=>by obtain⟨o,e⟩:=C.fr f r;rw[z,C.cf]at e;rwa[k_nn e],B.keep S.F λb i o e=>k b o (λz=>C.cfp (z▸i)) e,c.ip.step S λb i=>B.there b i,m_22 F n (k D _ C.dc g) (w.mono S.F),c.dp.step S λb q=>⟨cM F n,(q)▸g⟩⟩ (S.mono λb i=>.inr (.inl i))]
end
end
section
open Builtin
section
theorem CT.push(C:CS h₀ env sc stk fp wr D)(c:CT W₀ σ₀ h₀ env sc stk a fp wr pr D xs ls acc W σ s.heap)(hd:DR W.F d v)(u:acc.length<=SL)(q:∀r W' h',CT W₀ σ₀ h₀ env sc stk a fp wr pr D xs ls (acc++[d]) W' σ h'->Step W σ s.heap W' σ h' (CX env D wr)->Q r {s with heap:=h'}):ed MG A (ec (.builtin "list.append") [.ref D,v]) Q E s:=by
 erw[d6 c.acc λw n j B=>?_];have F:=c.it;have i:=am7 (h:=s.heap) (l:=D) (items:=w.toArray) (n:=n) j λy=>y.push v;replace i:=(show w.toArray.push v=(w++[v]).toArray by simp)▸i;erw[Xx ZQ (m_12 _ j rfl) an2 (ap1 _ _) (list_append _ _ _ _ ?_) ⟨j,?_⟩]; ·rw[<-oS];simpa[B.length]using u
 have k:∀b o,¬b=D->s.heap.get? b=some o->(s.heap.update D (x7 λy=>y.push v)).get? b=some o:=λb o g e=>(V6 _ _ (hg g)).trans e;have P:=c.inv.priv (P:=(· =D)) c.dp k;have S:=Step.self c.inv (P:=(· =D)) c.dp k λb o g Y=>by cases g;rwa[⟨_,i⟩]
 erw[q _ _ _ ⟨P.2.1,c.st.priv c.inv c.dp k λb g=>(g)▸C.df,c.fa.stepX S (hg C.dc) λx b m t z=>by obtain⟨o,e⟩:=C.ce x b m t;rw[z,C.df]at e;rwa[k_nn e],c.sk.stepX S λf p z=>by obtain⟨o,e⟩:=C.fr f p;rw[z,C.df]at e;rwa[k_nn e],F.keep S.F λb g o e=>k b o (λz=>C.dfp (z▸g)) e,c.ip.step S λb g=>F.there b g,m_22 (w++[v]) _ i ((B.mono S.F).snoc (hd.mono S.F)),P.2.2.2⟩ (S.mono λb g=>.inl g)]
theorem IE{Q:a9 Bool}(q:Q false s):∀es:List Expr,ed MG A (forIn es false λc r=>if r=true then do let ok<-isTrue c env (eval c env);pure (nD ok)else pure (nD r)) Q E s:=by intro b;induction b with|nil=>rwa[Vs q]|cons e es a=>simp![Yy,Zv,if_false];rwa[Vm (Vs a)]
theorem FS{m:Expr->M Bool}(o:∀e,tsf sc e ls=m e):∀{es:List Expr},(∀e∈es,ET A stk L env sc ls e (m e))->∀W σ s,Inv W σ s.heap->Here W σ env sc ls stk L s.heap->Ref A L eC W σ s (forIn es true λc r=>if r=true then do let ok<-isTrue c env (eval c env);pure (nD ok)else pure (nD r)) (compIfs tsf sc es ls σ) RTst:=by
 intro p;induction p with
 |nil=>rwa[λY=>λW σ s I x=>Ref.ret (b:=true) I rfl]
 |cons e es l=>
  rwa[λH=>λW σ s I x=>by
   simp![Yy,Zq];show Ref A L eC W σ s _ (aa (tsf sc e ls) (λt=>match t with|true=>compIfs tsf sc es ls|false=>ret false) σ) _;erw[(o e)▸(bl (R:=λY Y b r Y=>r=nD b) (Ref.of (g:=nD) (λQ E z=>Vm (WI z (λY Y q=>Vs q) λY Y y=>y)) (Ref.mono (H e (.head _) W σ s I x) λY Y b t Y Y Y Y Y(r:t=b)=>VT _ r)) λt b d f j h a k Y i=>?_)];clear h;cases i;obtain⟨⟩:=b; ·rwa[λY Q E q Y=>IE (q _ _ _ _ _ rfl a (Step.refl ..) (Rest.refl _) rfl) es]
   ·rwa[l (λz n=>H z (.tail _ n)) f d j a (x.step k)]]
end
end
section
open Builtin
noncomputable def tf (e:Expr) (depth:Nat) (body:Sem Unit) (t:Expr) (ifs:List Expr) (it acc:ea) (env:Env) (v:ea):Sem aq0:=do
  ad6 t env v
  let mut ok:=true
  for c in ifs do
    if ok then ok <-PySem.isTrue c env (j1 c env)
  if ok then body
  again (.compLoop e depth it acc env)
def j4 (e:Expr) (depth:Nat) (body:Sem Unit) (t iter:Expr) (ifs:List Expr) (it acc:ea) (env:Env):Sem aq0:=do
  z3 iter.pos
  match <-z2 it with
  |none=>pure (.done .next)
  |some v=>
    j3 t it v
    tf e depth body t ifs it acc env v
theorem yz:ah4 (.ListComp elt [⟨t,iter,ifs,0⟩] scope j) 0 it m env=j4 (.ListComp elt [⟨t,iter,ifs,0⟩] scope j) 0 (do let _<-ec (.builtin "list.append") [m,<-j1 elt env]) t iter ifs it m env:=rfl
section
theorem CT.here(c:CT W₀ σ₀ h₀ env sc stk a fp wr pr D xs ls acc W σ h)(b:env.frame=some L):Here W σ env sc ls stk L h:=⟨c.fa,c.sk,b⟩
def XO(W₀:St)(σ₀:ae)(h₀:Heap)(env:Env)(sc:e6)(stk:List Env)(W':St)(σ':ae)(h':Heap)(K:Heap->Prop):Prop:=∃W1 σ1 h1 ls1,aT W1 σ1 env sc ls1 h1/\bC W1 σ1 h1 stk/\Step W₀ σ₀ h₀ W1 σ1 h1 eC/\Step W1 σ1 h1 W' σ' h' eC/\K h1
def BodyOk(A:kx)(L:Nat)(W₀:St)(σ₀:ae)(h₀:Heap)(env:Env)(sc:e6)(stk:List Env)(a:Addr)(fp wr:List Addr)(pr:Bool)(D:Addr)(body:Sem Unit)(inner:Ls->List Dat->M (Ls×List Dat)):Prop:=∀xs ls acc W σ(s:eN),CT W₀ σ₀ h₀ env sc stk a fp wr pr D xs ls acc W σ s.heap->inner ls acc σ≠.stuck->∀(Q:a9 Unit)(E:a8),(∀ls' acc' W' σ'(s':eN),inner ls acc σ=.ok (ls',acc') σ'->CT W₀ σ₀ h₀ env sc stk a fp wr pr D xs ls' acc' W' σ' s'.heap->Step W σ s.heap W' σ' s'.heap (CX env D wr)->Rest s s'->Q () s')->(∀x cn W' σ'(s':eN),inner ls acc σ=.exc cn σ'->Inv W' σ' s'.heap->XO W₀ σ₀ h₀ env sc stk W' σ' s'.heap (λh1=>ExcAt W' h1 L x cn s'.heap)->Rest s s'->E x s')->ed MG A body Q E s
theorem Ar(C:CS h₀ env sc stk fp wr D)(H:env.frame=some L)(B:∀ls,EV A stk L env sc ls elt (evf sc elt ls)):BodyOk A L W₀ σ₀ h₀ env sc stk a fp wr pr D (do let _<-ec (.builtin "list.append") [.ref D,<-j1 elt env]) (compElt evf sc elt):=λP ls M W N s c K Q E e h=>by
 delta compElt at K e h;erw[Vm (B ls W N s c.inv (c.here H) (dr K) _ _ (λv b f p m n j l g hv=>?_) λx O f p m n j l g w=>?_)];rotate_left; ·rwa[h x O p f m (cU n) j (oI W N s.heap ls c.fa c.sk c.st l w) g]
 rw[bX n]at K e;dsimp![aa]at K e;cases k:RG.Internal.frz b f with
 |ok d i=>rw[k]at K e;erw[ba λy=>gJ (yi (X:=eC) j hv k) λJ t q hd=>y ?_];cases o:er M.length SL with|false=>rw[o]at K;rwa[absurd rfl K]|true=>rw[o]at K e;rwa[Vm (((c.step C j l).step C t q).push C hd (Vu o) λr u I F G=>Vs (e ls (M++[d]) u i {m with heap:=I} rfl F (((l.mono λY z=>z.elim).trans (q.mono λY z=>z.elim)).trans G) ⟨g.gens,g.drawn,g.os⟩))]
 |exc O i=>rwa[absurd k qv]
 |stuck=>rw[k]at K;rwa[absurd rfl K]
end
end
section
open Builtin
section
theorem fE(c:W.F.get? j=none)(a:h.get? j=some m):(b0 W h h' P).F.get? j=none:=fe (by
 rintro(⟨b,e⟩|q); ·replace e:=Vn (am c) e;rwa[k_nn e]
 ·replace q:=(a)▸q;rwa[k_sn q.1])
theorem aT.privX(I:Inv W σ h)(y:cz W σ P)(k:∀b o,¬P b->h.get? b=some o->h'.get? b=some o)(f:aT W σ env sc ls h)(A: ¬P env.locals)(C:∀x c,bx sc x->env.cells.lookup x=some c-> ¬P c):aT (b0 W h h' P) σ env sc ls h':=by
 have u:=I.priv y k;erw[ba λn=>x_12 f.ns λm i w=>bw i λo G z s hd B=>n ⟨f.sco,f.fn,f.gl,f.bu,m_12 m (m_33 o G z (k _ _ A s) hd B) λx a=>(w x a).monoF u.1 rfl,λx a=>?_,f.inj,λb q=>?_,λx c a e=>?_⟩]; ·rwa[ba λn=>fw (f.cell x a) λc t g l r=>x_12 l λF D v=>n (rF c t g (m_12 F (k _ _ (C x c a g) D) v) (r.monoF u.1 rfl))]
 ·subst q;rwa[⟨fE (f.priv _ rfl).1 s,(f.priv _ rfl).2⟩]
 ·erw[fw (f.cell x a) λE t g d r=>x_12 d λF D v=>?_];have j:E=c:=Vp (g.symm.trans e);clear e;subst j;have p:=f.cpriv x E a g;rwa[m_03 (fE p.1 D) p.2.1 p.2.2]
theorem bC.privX(k:∀b o,¬P b->h.get? b=some o->h'.get? b=some o)(f:bC W σ h stk)(l:∀f∈stk.filterMap (·.frame),¬P f):bC (b0 W h h' P) σ h' stk:=λe a=>by erw[ba λi=>?_];obtain⟨d,f,o,q,n,p,c,g,m,j⟩:=f e a;rwa[i ⟨d,f,o,q,n,p,k _ _ (l f (Wh.mpr (m_12 e a p))) c,g,fE m c,j⟩]
theorem CT.stop(C:CS h₀ env sc stk fp wr D)(m:A.handled=none)(c:CT W₀ σ₀ h₀ env sc stk a fp wr pr D [] ls acc W σ s.heap){Q:a9 (Option ea)}(q:∀W' h' tk,Inv W' σ h'->Step W₀ σ₀ h₀ W' σ h' eC->aT W' σ env sc ls h'->bC W' σ h' stk->(∃vs n,h'.get? D=some (cM vs n)/\c9 W'.F acc vs)->cz W' σ (· =D)->(∀r o hs(f:Addr->Prop),Step r o hs W σ s.heap f->(∀b∈wr,hs.get? b=none)->Step r o hs W' σ h' f)->Q none {s with heap:=h',toks:=tk}):ed MG A (z2 (.ref a)) Q E s:=by have t:=c.it;erw[rG (C.notWr t.sub) λk h j i=>t.stop m c.inv.stays (λb d=>.inr (c.ip b d).1) λh' tk p=>?_];have e:cz W σ (· ∈wr):=λb d=>c.ip b (t.sub b d);have P:=c.inv.priv (P:=(· ∈wr)) e p;rwa[d6 c.acc λvs n g u=>q _ h' tk P.2.1 (c.st.priv c.inv e p C.wf) (c.fa.privX c.inv e p k j) (c.sk.privX p i) (m_22 vs n (p _ _ h g) (u.mono P.1)) (λb d=>d▸⟨fE (c.dp _ rfl).1 g,(c.dp _ rfl).2⟩) λr o hs f S l=>S.priv c.inv e p l]
end
end
section
open Builtin
section
noncomputable abbrev DX(env:Env)(D:Addr):Addr->Prop:=λb=>b=D\/b=env.locals
theorem xg (P:qE A k n stk L) (hf:env.frame=some L) (C:CS h₀ env sc stk fp wr D)  {depth:Nat}  (hpr:pr=true->isTup t=true)
    (G:ah4 (.ListComp elt gens scope ε) depth (.ref a) (.ref D) env=j4 (.ListComp elt gens scope ε) depth ζ t iter ifs (.ref a) (.ref D) env)
    (hT:∀ls,∀e∈ifs,ET A stk L env sc ls e (tsf sc e ls)) (hB:BodyOk A L W₀ σ₀ h₀ env sc stk a fp wr pr D ζ inner)  {hs:Heap} (hw:∀b∈wr,hs.get? b=none) (ns:res≠.stuck)
    (qok:∀ls' u W' σ' s',res=.ok (ls',u) σ'->Inv W' σ' s'.heap->Step W₀ σ₀ h₀ W' σ' s'.heap eC->aT W' σ' env sc ls' s'.heap->bC W' σ' s'.heap stk->(∃vs n,s'.heap.get? D=some (cM vs n)/\c9 W'.F u vs)->cz W' σ' (·=D) →
      Step Ws σs hs W' σ' s'.heap (DX env D)->Rest s₀ s'->R (.ok .next) s')
    (qex:∀x cn W' σ' s',res=.exc cn σ'->Inv W' σ' s'.heap->XO W₀ σ₀ h₀ env sc stk W' σ' s'.heap (λy=>kJ W' y (m5 L) x cn s'.heap)->Rest s₀ s'->R (.error x) s')
    (c:CT W₀ σ₀ h₀ env sc stk a fp wr pr D xs ls acc W σ s.heap) (T:Step Ws σs hs W σ s.heap (DX env D)) (o:Rest s₀ s) (I:aD tsf t ifs sc inner xs ls acc σ=res) :
    p7 MG A (.compLoop (.ListComp elt gens scope ε) depth (.ref a) (.ref D) env) R s:=by
  injections A elt iter xs acc ls k n res R scope s s₀ W σ L gens ε ζ Ws σs depth hs _ a pr env t h₀ fp stk ifs inner sc tsf σ₀ wr D W₀;refine codeAny_loop rfl (λn s=>∃W σ ls acc xs,n=xs.length/\CT W₀ σ₀ h₀ env sc stk a fp wr pr D xs ls acc W σ s.heap/\Step Ws σs hs W σ s.heap (DX env D)/\Rest s₀ s/\aD tsf t ifs sc inner xs ls acc σ=res) (λn s hI=>?_) xs.length (TR W σ ls acc xs rfl c T o I)
  refine ba λX=>?_
  refine T9 (hI) λW σ ls acc xs q15 c T o I=>?_;subst q15
  refine X ?_
  refine af8 ?_
  refine (G)▸?_
  refine Vm (We (Vm ?_))
  have cx:∀z,CX env D wr z->DX env D z\/hs.get? z=none:=λz q=>by
    refine Pg (q) (λq=>?_) (λq=>?_) (λq=>?_)
    · exact .inl (.inl q)
    · exact .inl (.inr q)
    · exact .inr (hw z q)
  have i:∀x cn W' σ' (s':eN),res=.exc cn σ'->Inv W' σ' s'.heap->XO W₀ σ₀ h₀ env sc stk W' σ' s'.heap (λy=>ExcAt W' y L x cn s'.heap)->Rest s₀ s'->ae2 MG A env (λe s'=>R (.error e) s') x s' :=
    λx cn W' σ' s' e I' q r'=>zQ q λW1 U y g f1 k1 S01 K hx=>sv P.fr P.hd (k1.step K) hf I' K hx λO h2 I2 S2 k2 x2=>qex x cn O σ' {s' with heap:=h2 } e I2 (oI W1 U y g f1 k1 S01 S2 x2) ⟨r'.gens,r'.drawn,r'.os⟩
  cases xs with
  |nil=>
    refine c.stop C P.hh λW' h' tk I' S' f' k' a' p' t'=>Vs ?_
    exact qok ls acc W' σ {s with heap:=h',toks:=tk } I.symm I' S' f' k' a' p' (t' _ _ _ _ T hw) ⟨o.gens,o.drawn,o.os⟩
  |cons x xs=>
    refine WI (c.next C hpr (Q:=λv s'=>ed MG A (tf (.ListComp elt gens scope ε) depth ζ t ifs (.ref a) (.ref D) env v) (λfin s'=>match fin with
      |.done f=>R (.ok f) s'
      |.again c'=>c'=.compLoop (.ListComp elt gens scope ε) depth (.ref a) (.ref D) env/\∃m,m < (x::xs).length/\∃W σ ls acc xs,m=xs.length/\CT W₀ σ₀ h₀ env sc stk a fp wr pr D xs ls acc W σ s'.heap/\Step Ws σs hs W σ s'.heap (DX env D)/\Rest s₀ s'/\aD tsf t ifs sc inner xs ls acc σ=res)
      (ae2 MG A env λe s'=>R (.error e) s') s') (E:=ae2 MG A env λe s'=>R (.error e) s') λv W1 y tk1 c1 K hd=>?_) (λr s1 hq=>?_) λY Y e=>e
    rotate_left
    · refine ba λX=>?_
      obtain ⟨v,rfl,hq⟩:=hq
      refine X ?_
      exact Vm hq
    rcases td (p:=jT sc) (t:=t) (d:=x) (ls:=ls) with M|⟨g,M⟩
    · exact absurd (show aD tsf t ifs sc inner (x::xs) ls acc σ=.stuck by dsimp! [aD];refine (M)▸?_;rfl) (I▸ns)
    have h:aa (compIfs tsf sc ifs g) (λok=>match ok with
      |true=>aa (inner g acc) λr=>aD tsf t ifs sc inner xs r.1 r.2
      |false=>aD tsf t ifs sc inner xs g acc) σ=res:=by
      rw [<-I];conv=>rhs;unfold aD
      rw [M];rfl
    refine Vm (c1.bind (s:={ s with heap:=y,toks:=tk1 }) C P.hh M hd λO h2 J B S2=>?_)
    have l:Rest s₀ {s with heap:=h2,toks:=J }:=⟨o.gens,o.drawn,o.os⟩
    refine Vm (FS (tsf:=tsf) (m:=λe=>tsf sc e g) (λY=>rfl) (λe he=>hT g e he) O σ {s with heap:=h2,toks:=J } B.inv (B.here hf) (dr (h▸ns)) _ _ (λb b' j N s3 e3 I3 S H Z=>?_) λx3 cn j N s3 e3 I3 S H V=>?_)
    rotate_left
    · exact i x3 cn N j s3 (by refine Vn (am (h)) ?_;exact cU e3) I3 (oI O σ h2 g B.fa B.sk B.st S V) (l.trans H)
    have c3:=B.step C I3 S
    have T3:=((T.joinX K cx).joinX S2 cx).joinX S λY z=>z.elim
    rw [bX e3] at h
    subst ((Z))
    cases b with
    |false=>
      exact Vs ⟨rfl,xs.length,by simp,N,j,g,acc,xs,rfl,c3,T3,l.trans H,h⟩
    |true=>
      have h:aa (inner g acc) (λr=>aD tsf t ifs sc inner xs r.1 r.2) j=res:=h
      refine Vm (hB xs g acc N j s3 c3 (dr (h▸ns)) _ _ (λls4 F W4 w s4 e4 c4 S4 r4=>?_) λx4 cn W4 w s4 e4 I4 hx4 r4=>?_)
      · rw [bX e4] at h
        exact Vs ⟨rfl,xs.length,by simp,W4,w,ls4,F,xs,rfl,c4,T3.joinX S4 cx,(l.trans H).trans r4,h⟩
      · exact i x4 cn W4 w s4 (by exact (h)▸cU e4) I4 hx4 ((l.trans H).trans r4)
end
end
section
open Builtin
noncomputable def cX(env:Env):List (Str×hP)->List (Str×Addr)->List (Str×Addr)|[],cs=>cs|(n,k)::r,cs=>match k==.free with|true=>cX env r ((n,(env.cells.lookup n).getD 0)::cs)|false=>cX env r cs
theorem tg:∀{names:List (Str×hP)} {cs:List (Str×Addr)},(∀x∈names,x.2=.free->(env.cells.lookup x.1).isSome=true) →
    (forIn names cs λx (cs:List (Str×Addr))=>do
      let mut cs:=cs
      if x.2==.free then cs:=(x.1,<-cellOf env x.1)::cs
      pure (nD cs):Sem (List (Str×Addr)))=pure (cX env names cs)
  |[],cs,_=>rfl
  |(n,k)::r,cs,H=>by
    have b:=λa=>tg (names:=r) (cs:=a) λx d=>H x (.tail _ d)
    rw [Yy]
    cases q:k==y5 with
    |true=>
      have:=H (n,k) (.head _) (WA q)
      refine V7 (V4.mp this) λc e=>?_
      dsimp! [cX]
      rw [q]
      simp! [((by delta cellOf;rw [e]:cellOf env n=pure c)),Zq,e,Y0]
      exact b _
    |false=>
      dsimp! [cX]
      simp! [q]
      exact b _
theorem C5(H:∀x∈scope.names,x.2=.free->(env.cells.lookup x.1).isSome=true):closureFor scope env=pure (cX env scope.names []):=by show forIn scope.names [] _>>=_=_;have:=tg (env:=env) (names:=scope.names) (cs:=[]) H;rw[this];rfl
theorem th:∀{i:List (Str×hP)}{cs:List (Str×Addr)},(∀x∈i,x.2=.free->(env.cells.lookup x.1).isSome=true)->(∀y c,cs.lookup y=some c->env.cells.lookup y=some c)->∀y c,(cX env i cs).lookup y=some c->env.cells.lookup y=some c:=by injections _ env;intro j;induction j with|nil=>intro cs _ h;rwa[h]|cons b r f=>obtain⟨n,k⟩:=b;intro cs H h;dsimp![cX];cases q:k==y5 with|false=>rwa[f (λx a=>H x (.tail _ a)) h]|true=>erw[f (λx a=>H x (.tail _ a)) λy c e=>?_];dsimp![hR]at e;cases z:y==n with|true=>rw[z]at e;obtain⟨l,d⟩:=V4.mp (H (n,k) (.head _) (WA q));replace e:=(d)▸e;injection e with g;subst g;rwa[(WA z)▸d]|false=>replace e:=(z)▸e;rwa[h y c e]
theorem C6:∀{f:List (Str×hP)}{cs:List (Str×Addr)},(∀x∈f,x.2=.free->(env.cells.lookup x.1).isSome=true)->(x,y5)∈f\/(cs.lookup x).isSome=true->((cX env f cs).lookup x).isSome=true:=by
 injections _ env x;intro g;induction g with
 |nil=>intro cs _ h;rcases h with h|h;rwa[k_mn h];rwa[h]
 |cons c r d=>
  obtain⟨n,k⟩:=c;intro cs H h;dsimp![cX];cases q:k==y5 with
  |false=>
   erw[d (λx a=>H x (.tail _ a)) ?_];rcases h with h|h
   ·rcases VD.mp h with h|h; ·injection h with b e;subst b e;rwa[k_tf q]
    ·rwa[.inl h]
   ·rwa[.inr h]
  |true=>
   erw[d (λx a=>H x (.tail _ a)) ?_];rcases h with h|h
   ·rcases VD.mp h with h|h; ·injection h with b;subst b;erw[.inr ?_];simp
    ·rwa[.inl h]
   ·erw[.inr ?_];dsimp![hR];cases x==n; ·rwa[h]
    ·rfl
end
section
open Builtin
section
theorem C7{g:Str->β->γ}:∀{l:List (Str×β)},(l.map λy=>(y.1,g y.1 y.2)).lookup x=(l.lookup x).map (g x):=by intro c;induction c with|nil=>rwa[rfl]|cons a r b=>obtain⟨n,k⟩:=a;simp![V3];dsimp![hR,hR];cases q:x==n with|true=>simp![WA q];rfl|false=>rwa[b]
theorem mem_lookup:∀{l:List (Str×β)},l.lookup x=some m->(x,m)∈l:=by intro c;induction c with|nil=>rwa[λh=>k_nn h]|cons a r b=>obtain⟨n,j⟩:=a;intro h;dsimp![hR]at h;cases q:x==n with|true=>replace h:=(q)▸h;obtain rfl:=Vp h;rwa[(WA q)▸.head _]|false=>replace h:=(q)▸h;rwa[.tail _ (b h)]
theorem xh:getL x ((j,m)::u)=match x==j with|true=>m|false=>getL x u:=rfl
theorem FT:∀{l:List (Str×hP)}{ls:Ls},l.lookup x≠some .local->(∀y∈l,y.1=x->l.lookup x=some y.2)->getL x (((l.filter λx=>x.2==.local).map λx=>(x.1,none))++ls)=getL x ls:=by
 intro l ls d f;have:∀b:List (Str×hP),(∀y∈b,y∈l)->getL x (((b.filter λx=>x.2==.local).map λx=>(x.1,none))++ls)=getL x ls:=by intro b;induction b with|nil=>intro _;rfl|cons y r a=>intro c;have a:=a λz e=>c z (.tail _ e);erw[(Xa)▸?_];cases q:y.2==NameKind.local with|false=>rwa[a]|true=>erw[Vn xh ?_];cases z:x==y.1 with|true=>have:=f y (c y (.head _)) (WA z).symm;rw[WA q]at this;rwa[absurd this d]|false=>rwa[a]
 rwa[this l λY h=>h]
theorem IF:∀{l:List (Str×hP)}{ls:Ls},(x,NameKind.local)∈l->getL x (((l.filter λx=>x.2==.local).map λx=>(x.1,none))++ls)=none:=by
 intro b;induction b with
 |nil=>intro ls h;rwa[k_mn h]
 |cons y r a=>
  intro ls h;rw[Xa];cases q:y.2==NameKind.local with
  |false=>
   rcases VD.mp h with h|h; ·simp![<-h]at q;rwa[k_tf q]
   ·rwa[a h]
  |true=>
   erw[Vn xh ?_];cases z:x==y.1 with
   |true=>rfl
   |false=>
    rcases VD.mp h with h|h; ·rw[<-h]at z;simp at z
    ·rwa[a h]
theorem C8(f:aT W σ env sc ls h):relabel scope env=ai sc scope:=by delta relabel ai x8;rw[f.sco]
theorem compScope_lookup:(ai sc scope).names.lookup x=(scope.names.lookup x).map λk=>if(k==.free&&sc.kind==.function&&sc.names.lookup x==some .cell)=true then .cell else k:=by have:=C7 (g:=λn k=>if(k==y5&&sc.kind==.function&&sc.names.lookup n==some .cell)=true then as2 else k) (x:=x) (l:=scope.names);simp![<-this];congr 1;erw[WR λy Y=>?_];dsimp only;split<;>rfl
theorem mj(a:kW sc scope=true):scope.kind=.function/\∀x k,(x,k)∈scope.names->scope.names.lookup x=some k/\k≠.cell/\(k=.free->bx sc x):=by injections sc scope;delta kW at a;rw[Vq,VK]at a;erw[⟨WA a.1,λx k b=>?_⟩];have:=a.2 (x,k) b;obtain⟨⟩:=k<;>simp![Vq,Wz,Wb,Zv]at this;all_goals first|rwa[m_03 this (λh=>by cases h) λh=>by cases h]|rwa[m_03 this.1 (λh=>by cases h) λY=>this.2]
theorem C9(f:aT W σ env sc ls h)(o:kW sc scope=true)(w:h.Ns C λY=>none)(u:cz W σ (· =C))(i:∀x c,bx sc x->env.cells.lookup x=some c->c≠C):aT W σ (us scope (cX env scope.names []) C env) (ai sc scope) (ik scope ls) h:=by
 injections σ _ env h ls sc scope W C;erw[hJ (λv l=>?_) (mj o)];have d:∀x∈scope.names,x.2=.free->(env.cells.lookup x.1).isSome=true:=λx a E=>by obtain⟨n,k⟩:=x;cases show k=.free from E;erw[d6 (f.cell n ((l n _ a).2.2 rfl)) λc r b Y=>(b)▸?_];rfl
 have g:=th (cs:=[]) d λY Y h=>k_nn h
 have G:∀x,bx (ai sc scope) x->scope.names.lookup x=some .free/\bx sc x:=λx a=>by
  have:∃k,scope.names.lookup x=some k/\(k=.free\/k=.cell):=by
   rcases a with a|a<;>rw[compScope_lookup]at a<;>erw[x_12 (Ww.mp a) λk b F=>?_]<;>erw[m_12 k b ?_]
   ·split at F; ·rename_i q;rw[Vq,Vq]at q;rwa[.inl (WA q.1.1)]
    ·rwa[.inr F]
   ·split at F; ·rwa[nomatch F]
    ·rwa[.inl F]
  erw[x_12 this λk b F=>?_];have:=l x k (mem_lookup b);rcases F with rfl|rfl; ·rwa[⟨b,this.2.2 rfl⟩]
  ·rwa[absurd rfl this.2.1]
 erw[⟨C8 f,v,f.gl,f.bu,m_12 _ w λx a=>?_,λx a=>?_,λx y c a m b F=>f.inj x y c (G x a).2 (G y m).2 (g _ _ b) (g _ _ F),u,λx c a s=>?_⟩]
 ·rw[compScope_lookup]at a;erw[x_12 (Ww.mp a) λk b F=>?_];have:k=.local:=by
   split at F; ·rwa[nomatch F]
   ·rwa[F]
  subst this;have e:=IF (ls:=ls) (mem_lookup b);erw[(e)▸?_];trivial
 ·obtain⟨b,F⟩:=G x a;erw[fw (f.cell x F) λc r t D B=>?_];obtain⟨H,e⟩:=V4.mp (C6 (cs:=[]) d (.inl (mem_lookup b)));have:=g _ _ e;replace this:=(t)▸this;injection this with A;subst A;rwa[rF c r e D (((FT (by erw[(b)▸?_];intro z;cases z) λy m j=>by rwa[(j)▸(l y.1 y.2 m).1]:getL x (ik scope ls)=getL x ls))▸B)]
 ·have F:=(G x a).2;have p:=f.cpriv x c F (g _ _ s);rwa[m_03 p.1 p.2.1 (i x c F (g _ _ s))]
end
end
section
open Builtin
section
theorem kK(b:p7 MG A (.compLoop (.ListComp elt [⟨t,iter,ifs,0⟩,⟨t',iter',ifs',0⟩] scope j) 1 it m env) R s)(h:ed MG A (SF it) (λa s'=>p7 MG A (.compLoop (.ListComp elt [⟨t,iter,ifs,0⟩,⟨t',iter',ifs',0⟩] scope j) 1 a m env) R s') (ae2 MG A env λx s'=>R (.error x) s') s):p7 MG A (.compStart (.ListComp elt [⟨t,iter,ifs,0⟩,⟨t',iter',ifs',0⟩] scope j) 1 it m env) R s:=by
 erw[Z6 (wpAny_notedAt (Vm (Y3 (wpAny_ite ?_))))];split; ·first|rwa[Vm (Vs (Vs (w7 rfl b)))]|rwa[Vs (w7 rfl b)]
 ·first|rwa[Vm (Xl (Vm (We (Vm (WI h (λa s' c=>Vs (w7 rfl c)) λY Y x=>x)))))]|(rwa[Vm (We (Vm (WI h (λa s' c=>Vs (w7 rfl c)) λY Y x=>x)))])
theorem vN:ah4 (.ListComp elt [⟨t,iter,ifs,0⟩,⟨t',iter',ifs',0⟩] scope j) 1 it m env=j4 (.ListComp elt [⟨t,iter,ifs,0⟩,⟨t',iter',ifs',0⟩] scope j) 1 (do let _<-ec (.builtin "list.append") [m,<-j1 elt env]) t' iter' ifs' it m env:=rfl
end
end
section
open Builtin
section
theorem qH(I:Inv W σ h)(S:Step W₀ σ₀ h₀ W σ h eC)(d:∀b o,h.get? b=some o->h'.get? b=some o)(a:h.get? D=none):Inv (b0 W h h' (· =D)) σ h'/\Step W₀ σ₀ h₀ (b0 W h h' (· =D)) σ h' eC/\cz (b0 W h h' (· =D)) σ (· =D)/\Step W σ h (b0 W h h' (· =D)) σ h' eC:=by
 have c:cz W σ (· =D):=λb q=>by
  subst q;erw[⟨?_,λl=>?_⟩]; ·cases e:W.F.get? b with|none=>rfl|some o=>replace a:=(I.stays b o e)▸a;rwa[k_sn a]
  ·obtain⟨o,e⟩:=I.lt l;replace a:=Vn (am e) a;rwa[k_sn a]
 have f:∀b o,¬b=D->h.get? b=some o->h'.get? b=some o:=λb o Y=>d b o;have P:=I.priv (P:=(· =D)) c f;rwa[kS P.2.1 (S.priv I c f λb q=>(q)▸S.dead a) P.2.2.2 ((Step.refl W σ h eC).priv I c f λb q=>(q)▸a)]
end
end
section
open Builtin
theorem vO:ah4 (.ListComp elt [⟨t,iter,ifs,0⟩,⟨t',iter',ifs',0⟩] scope j) 0 it m env=j4 (.ListComp elt [⟨t,iter,ifs,0⟩,⟨t',iter',ifs',0⟩] scope j) 0 (do let x<-j1 iter' env;z3 iter'.pos;let x<-m4 iter' env x;let i<-x9 [x] (SF x);let _<-runOwn (.compStart (.ListComp elt [⟨t,iter,ifs,0⟩,⟨t',iter',ifs',0⟩] scope j) 1 i m env) env) t iter ifs it m env:=by dsimp![j4,tf];simp![bind_assoc];rfl
end
section
open Builtin
section
theorem rn (i:bC W σ s.heap stk) (I:Inv W σ s.heap) (S:Step W₀ σ₀ h₀ W σ s.heap X)  (a:kJ W h₀ fl u c s.heap) {fr:Option Addr}
    {Q:a9 Unit} (q:∀W' h',Inv W' σ h'->Step W₀ σ₀ h₀ W' σ h' X->bC W' σ h' stk->kJ W' h₀ (fr.elim .none λf=>m5 f) u c h'->Q () {s with heap:=h' }) :
    ed MG A (do if (<-ak2 u 1)==.none then unsupported tag
                                   setFlight u fr) Q E s:=by
  injections X A stk σ σ₀ E W₀ tag i I S a Q _ h₀ s W c fl u fr;refine ba λg=>?_
  obtain ⟨e,oe,vs,T,j,ts,rfl,h2,r,b,m,h,d,a2,p,o,l,k,n⟩:=id a
  refine g ?_
  refine Vm (V5 b h d ?_)
  exact jL i I S a q
theorem IG (ak:qE A k n stk L) (C:CS h₀ env sc stk fp wr D) (I:env.frame=some L) 
    (hE:∀ls,EV A stk L env sc ls elt (evf sc elt ls)) (hT:∀ls,∀e∈ifs',ET A stk L env sc ls e (tsf sc e ls)) (hI:∀ls,EI A stk L env sc ls iter' (itf sc iter' ls)) (hS:∀ls σ,itf sc iter' ls σ≠.stuck->∀x,m4 iter' env x=pure x) :
    BodyOk A L W₀ σ₀ h₀ env sc stk a fp wr pr D
      (do let x <-j1 iter' env;z3 iter'.pos;let x <-m4 iter' env x;let i <-x9 [x] (SF x);let _ <-runOwn (.compStart (.ListComp elt [⟨t,iter,ifs,0⟩,⟨t',iter',ifs',0⟩] scope j) 1 i (.ref D) env) env)
      (λls acc=>aa (itf sc iter' ls) λF=>match F with
          |.items ys=>aD tsf t' ifs' sc (compElt evf sc elt) ys ls acc
          |_=>RG.Internal.stq):=λxs ls acc W σ s c ns Q E l d=>by
  dsimp only at ns l d
  refine Vm (hI ls W σ s c.inv (c.here I) (dr ns) _ _ (λv src σ1 W1 s1 e1 G B N hv=>?_) λx cn σ1 W1 s1 e1 G B N y=>?_)
  rotate_left
  · exact d x cn W1 σ1 s1 (cU e1) G (oI W σ s.heap ls c.fa c.sk c.st B y) N
  have K:=hS ls σ (dr ns) v
  rw [bX e1] at ns l d
  clear e1;cases src with
  |cell _=>exact absurd rfl ns
  |pairs _=>exact absurd rfl ns
  |items ys=>
    dsimp only at ns l d
    refine Vm (We (Vm ?_))
    rw [K]
    refine Vs (Vm (VX ?_))
    refine yu (X:=eC) (L:=L) G (λb=>B.dead) hv (.inl rfl) (by intro z;cases z) _ _ (λi Y σ2 W2 s2 S I2 S2 r2 hit=>?_) λx cn σ2 W2 s2 S Y Y Y Y=>by cases S
    obtain ⟨rfl,rfl⟩:=Res.ok.inj S
    obtain ⟨a2,fp2,pr2,rfl,hit,T,g,O⟩:=hit
    have w:=(c.step C G B).step C I2 S2
    have C2:CS h₀ env sc stk fp2 fp2 D:=⟨λb p=>c.st.dead (g b p),C.df,C.cf,((λz=>by
      refine d6 (c.acc) λvs n U h2=>?_
      replace U:=Vn (am (g _ z)) U;exact k_nn U)),(λz=>by
      refine x_12 (c.fa.ns) λm M Y=>?_;refine fi (M) λo es ep J Y=>?_
      replace J:=(g _ z)▸J;exact k_nn J),C.dc,C.ce,C.fr⟩
    have cn:CT W₀ σ₀ h₀ env sc stk a2 fp2 fp2 pr2 D ys ls acc W2 σ1 s2.heap:=⟨w.inv,w.st,w.fa,w.sk,hit,T,w.acc,w.dp⟩
    refine Vm (Q:=λY q=>Q () q) (WI (?_:ed _ A (runOwn _ env) (λY q=>Q () q) E s2) (λY Y z=>Vs z) λY Y z=>z)
    refine X8 (wpAny_run ?_)
    have loop:p7 MG A (.compLoop (.ListComp elt [⟨t,iter,ifs,0⟩,⟨t',iter',ifs',0⟩] scope j) 1 (.ref a2) (.ref D) env)
        (λr q=>match r with
          |.ok f=>Q () q
          |.error x=>ed MG A (do
              if (<-ak2 x 1)==.none then unsupported "frame.own-activation:exception-without-traceback"
              setFlight x env.frame) (λY s''=>E x s'') E q) s2:=by
      refine xg (s₀:=s) ak I C2 (elt:=elt) (t:=t') (iter:=iter') (ifs:=ifs') (depth:=1) (tsf:=tsf) ((λz=>by have:=O z;cases this)) vN hT (Ar (A:=A) (L:=L) (W₀:=W₀) (σ₀:=σ₀) (a:=a2) (pr:=pr2) C2 I (elt:=elt) (evf:=evf) hE) (Ws:=W) (σs:=σ) (hs:=s.heap) g ns
        (λls3 acc3 W3 u R Z P S3 f3 k3 a3 p3 H r3=>?_) (λx cn W3 u R Z P y r3=>?_) cn ((B.trans S2).mono λY z=>z.elim) (N.trans r2) rfl
      · refine l ls3 acc3 W3 u R Z ⟨P,S3,f3,k3,c.it.keep H.F λb p o e=>gS (H.keep b o e (c.ip b p).2 λz=>?_) (c.it.noDict b p o e),c.ip.step H λb p=>c.it.there b p,a3,p3⟩ (H.mono λb z=>z.elim .inl λz=>.inr (.inl z)) r3
        rcases z with z|z
        · exact C.dfp (z▸p)
        · exact C.cfp (z▸p)
      · refine ba λhG=>?_
        refine zQ (y) λW4 σ4 h4 V f4 k4 S04 S4 y=>?_
        refine hG ?_
        refine rn (k4.step S4) P S4 y λW5 h5 I5 S5 k5 x5=>?_
        exact d x cn W5 u {R with heap:=h5 } Z I5 (oI W4 σ4 h4 V f4 k4 S04 S5 x5.at) ⟨r3.gens,r3.drawn,r3.os⟩
    refine kK ?_ (hit.self ?_)
    · exact Z3 loop λr q h=>by cases r<;>exact h
    · exact Z3 loop λr q h=>by cases r<;>exact h
end
end
section
open Builtin
section
structure IH(W₀:St)(σ₀:ae)(h₀:Heap)(D C:Addr)(ds:List Dat)(W:St)(σ:ae)(h:Heap):Prop where
 inv:Inv W σ h
 st:Step W₀ σ₀ h₀ W σ h eC
 dl:∃vs n,h.get? D=some (cM vs n)/\c9 W.F ds vs
 dp:cz W σ (· =D)
 df:h₀.get? D=none
 cn:∃m,h.Ns C m
 cp:cz W σ (· =C)
 cf:h₀.get? C=none
 dc:D≠C
theorem II(f:aT W σ env sc ls h)(d:kW sc scope=true)(a:bx (ai sc scope) x)(g:(cX env scope.names []).lookup x=some m):bx sc x/\env.cells.lookup x=some m:=by
 erw[hJ (λj e=>?_) (mj d)];have:∃k,scope.names.lookup x=some k/\(k=.free\/k=.cell):=by
  rcases a with a|a<;>rw[compScope_lookup]at a<;>erw[x_12 (Ww.mp a) λk b c=>?_]<;>erw[m_12 k b ?_]
  ·split at c; ·rename_i q;rw[Vq,Vq]at q;rwa[.inl (WA q.1.1)]
   ·rwa[.inr c]
  ·split at c; ·rwa[absurd c nofun]
   ·rwa[.inl c]
 erw[x_12 this λk b c=>?_];have:=e x k (mem_lookup b);rcases c with rfl|rfl; ·rwa[⟨this.2.2 rfl,(th (cs:=[]) λx a i=>by obtain⟨n,k⟩:=x;cases show k=.free from i;erw[d6 (f.cell n ((e n _ a).2.2 rfl)) λm l b Y=>(b)▸?_];rfl λY Y h=>k_nn h) _ _ g⟩]
 ·rwa[absurd rfl this.2.1]
theorem ti(ak:qE A k n stk L)(x0:Here W₀ σ₀ env sc ls stk L h₀)(F:kW sc scope=true)(I:Inv W σ s.heap)(S:Step W₀ σ₀ h₀ W σ s.heap eC)(g:fu W.F s.heap a fp wr pr xs)(hpv:cz W σ (· ∈fp))(R:∀b∈wr,h₀.get? b=none){body:Addr->Addr->Sem Unit}(hpr:pr=true->isTup t=true)(O:∀C D,ah4 (.ListComp elt (⟨t,iter,ifs,0⟩::ε) scope ζ) 0 (.ref a) (.ref D) (us scope (cX env scope.names []) C env)=j4 (.ListComp elt (⟨t,iter,ifs,0⟩::ε) scope ζ) 0 (body C D) t iter ifs (.ref a) (.ref D) (us scope (cX env scope.names []) C env))(hT:∀C ls,∀e∈ifs,ET A stk L (us scope (cX env scope.names []) C env) (ai sc scope) ls e (tsf (ai sc scope) e ls))(hB:∀C D,CS h₀ (us scope (cX env scope.names []) C env) (ai sc scope) stk fp wr D->BodyOk A L W₀ σ₀ h₀ (us scope (cX env scope.names []) C env) (ai sc scope) stk a fp wr pr D (body C D) inner)(ns:res≠.stuck)(hr:aD tsf t ifs (ai sc scope) inner xs (ik scope ls) [] σ=res)(qok:∀D C ls' ds W' σ' s',res=.ok (ls',ds) σ'->IH W₀ σ₀ h₀ D C ds W' σ' s'.heap->Rest s s'->RR (.ref D) C (.ok .next) s')(qex:∀D C x cn W' σ' s',res=.exc cn σ'->Inv W' σ' s'.heap->Step W₀ σ₀ h₀ W' σ' s'.heap eC->bC W' σ' s'.heap stk->kJ W' h₀ (m5 L) x cn s'.heap->(∃m,s'.heap.Ns C m)->cz W' σ' (· =C)->h₀.get? C=none->Rest s s'->RR (.ref D) C (.error x) s'):ed MG A (ag1 []) (λacc J=>ed MG A (newFunctionEnv scope env.globals (cX env scope.names []) [] env.qual none .none (some env)) (λp K=>p7 MG A (.compStart (.ListComp elt (⟨t,iter,ifs,0⟩::ε) scope ζ) 0 (.ref a) acc {p with scope:=relabel scope env}) (RR acc p.locals) K) E J) E s:=by
 injections a A pr t elt iter fp xs ifs ls inner k n res tsf RR E wr ε ζ body _ env h₀ stk sc scope s W σ σ₀ L W₀;erw[ba λv=>?_];obtain⟨hk,ho⟩:=mj F;erw[v (ac5 ?_ (WK _))];have N:s.heap.get? s.heap.objs.size=none:=bb _;generalize hDe:s.heap.objs.size=D at N⊢;have k1:∀b o,s.heap.get? b=some o->(s.heap.push {cls:=.type "list",data:=.seq ([]:List ea).toArray}).get? b=some o:=λb o e=>Vr _ e;have d:(s.heap.push {cls:=.type "list",data:=.seq ([]:List ea).toArray}).get? D=some (cM [] 0):=(hDe)▸VH _ rfl
 generalize s.heap.push {cls:=.type "list",data:=.seq ([]:List ea).toArray}=h1 at k1 d⊢;erw[ba λv=>rG (qH I S k1 N) λI1 H P1 T1=>v (wpAny_newFunctionEnv (λy hy=>ho y.1 y.2 hy|>.2.1) (by intro y hy;simp at hy) (λh2 U Q=>?_) hk)];have h:h1.get? h1.objs.size=none:=bb _;generalize hCe:h1.objs.size=C at h U Q⊢;have k2:∀b o,h1.get? b=some o->h2.get? b=some o:=λb o e=>Q.extBut b o (λz=>by simp![z,h]at e;rwa[nomatch e]) (Vr _ e);erw[ba λv=>rG (qH I1 H k2 h) λI2 Z P2 T2=>v ?_];generalize hW1:b0 W s.heap h1 (· =D)=W1 at I1 H P1 T1 I2 Z P2 T2;generalize hW2:b0 W1 h1 h2 (· =C)=W2 at I2 Z P2 T2;have V:D≠C:=λz=>by simp![z,h]at d;rwa[k_nn d]
 have x2:=x0.step Z;have Cs:CS h₀ (us scope (cX env scope.names []) C env) (ai sc scope) stk fp wr D:=⟨R,S.dead N,H.dead h,λz=>by obtain⟨o,e⟩:=g.there _ z;replace e:=Vn (am N) e;rwa[k_nn e],λz=>by obtain⟨o,e⟩:=g.there _ z;rwa[absurd ((T1.dead h).symm.trans e) (λq=>k_nn q)],V,λx c u hc=>by obtain⟨g1,g2⟩:=II x0.fa F u hc;erw[fw (x0.fa.cell x g1) λc' cv B l Y=>x_12 l λoc e2 Y=>?_];replace B:=Vn (am g2) B;clear l;injection B with h9;subst h9;rwa[⟨oc,e2⟩],λf hf=>fi (x0.stk.mem hf) λo Y Y e Y=>⟨o,e⟩⟩;have M:=T1.trans T2;have r:=g.keep M.F λb hb o e=>k2 b o (k1 b o e);have c2:CT W₀ σ₀ h₀ (us scope (cX env scope.names []) C env) (ai sc scope) stk a fp wr pr D xs (ik scope ls) [] W2 σ h2:=⟨I2,Z,C9 x2.fa F (C:=C) U P2 λx c u hc=>by erw[fw (x0.fa.cell x u) λc' cv B j Y=>x_12 j λoc e2 Y=>?_];replace B:=Vn (am hc) B;clear j;injection B with h9;subst h9;intro z;simp![z,H.dead h]at e2;rwa[k_nn e2],x2.stk,r,hpv.step M λb hb=>g.there b hb,m_22 [] 0 (k2 _ _ d) .nil,P1.step T2 λb q=>⟨_,q▸d⟩⟩;have rs:∀tk,Rest s {s with heap:=h2,toks:=tk}:=λY=>⟨rfl,rfl,rfl⟩;have i:∀tk,p7 MG A (.compLoop (.ListComp elt (⟨t,iter,ifs,0⟩::ε) scope ζ) 0 (.ref a) (.ref D) (us scope (cX env scope.names []) C env)) (RR (.ref D) C) {s with heap:=h2,toks:=tk}:=λtk=>by
  erw[xg (env:=us scope (cX env scope.names []) C env) (sc:=ai sc scope) (s:={s with heap:=h2,toks:=tk}) (s₀:=s) ak x0.fid Cs (elt:=elt) (t:=t) (iter:=iter) (ifs:=ifs) (depth:=0) (tsf:=tsf) hpr (O C D) (hT C) (hB C D Cs) (Ws:=W₀) (σs:=σ₀) (hs:=h₀) R ns (λls3 X W3 G s3 e3 I3 S3 P k3 a3 p3 T3 r3=>?_) (λx cn W3 G s3 e3 I3 u r3=>?_) c2 (Z.mono λY z=>z.elim) (rs tk) hr]; ·rwa[x_12 P.ns λm hm Y=>qok D C ls3 X W3 G s3 e3 ⟨I3,S3,a3,p3,S.dead N,⟨m,hm⟩,P.priv,H.dead h,V⟩ r3]
  ·erw[ba λv=>zQ u λW4 σ4 h4 ls4 f4 k4 w S4 u=>?_];have P:=f4.step S4;erw[x_12 P.ns λm hm Y=>?_];obtain⟨e,oe,vs,T,oT,ts,g1,g2,g3,g4,g5,g6,g7,g8,g9⟩:=u;rwa[v (qex D C x cn W3 G s3 e3 I3 (w.trans S4) (k4.step S4) ⟨e,oe,vs,T,oT,ts,g1,w.dead g2,g3,g4,g5,g6,g7,w.dead g8,g9⟩ ⟨m,hm⟩ P.priv (H.dead h) r3)]
 rwa[codeAny_compStart_list (i _) (r.self (i _))]
end
end
section
open Builtin
section
theorem iE(e:(σ.set i .dead)[m]?=some j)(b:j≠.dead):i≠m/\σ[m]?=some j:=by
 by_cases a:i=m
 ·subst a;replace e:=Vn (am WS) e;simp![Zq]at e;split at e; ·injection e with c;subst c;rwa[absurd rfl b]
  ·rwa[k_nn e]
 ·rw[WJ a]at e;rwa[⟨a,e⟩]
theorem Inv.kill(I:Inv W σ h)i:Inv W (σ.set i .dead) h where
 known:=I.known
 based:=I.based
 stays:=I.stays
 len:=Vn I.len (am WN)
 cell:=λm x q d c b=>I.cell m x q (iE d b).2 c b
 off:=λa l=>I.off a (bP l)
 apart:=λj m q r x y e d c b f k g=>I.apart j m q r x y e (iE d b).2 (iE c f).2 b f k g
theorem Inv.killPriv(I:Inv W σ h)(f:σ[i]?=some o)(k:o≠.dead)(e:W.ρ[i]?=some p):cz W (σ.set i .dead) (· =p.1):=λb q=>by
 subst q;erw[⟨I.off _ (cF f k e (.inl rfl)),λd=>x_34 d λm x r c g l a=>?_⟩];obtain⟨n,c⟩:=iE c g;have j:=I.apart m i r p x o (hg n) c f g k l e;rcases a with a|a; ·rwa[j.1 a.symm]
 ·rwa[j.2.2.1 a.symm]
theorem aT.kill(f:aT W σ env sc ls h)i:aT W (σ.set i .dead) env sc ls h:=⟨f.sco,f.fn,f.gl,f.bu,f.ns,f.cell,f.inj,λb q=>⟨(f.priv b q).1,λl=>(f.priv b q).2 (bP l)⟩,λx c a d=>m_03 (f.cpriv x c a d).1 (λl=>(f.cpriv x c a d).2.1 (bP l)) (f.cpriv x c a d).2.2⟩
theorem Here.kill(x:Here W σ env sc ls stk L h)i:Here W (σ.set i .dead) env sc ls stk L h:=⟨x.fa.kill i,λe c=>hJ (λa q=>⟨a,zQ q λf o m n k g b j d=>oI f o m n k g b j λl=>d (bP l)⟩) (x.stk e c),x.fid⟩
theorem j5(g:W.ρ[i]?=some (D,D))(l:live (σ.set i o) W.ρ u):live σ W.ρ u\/u=D:=by
 erw[ba λh=>x_34 l λm x q d f c a=>h ?_];by_cases e:i=m; ·subst e;replace c:=Vn (am g) c;injection c with j;subst j;rcases a with a|a<;>rwa[.inr a]
 ·rw[WJ e]at d;rwa[.inl (gO m x q d f c a)]
theorem Inv.revive(I:Inv W σ h)(F:W.ρ[i]?=some (D,D))(s:cz W σ (· =D))(c:CR W.F h (D,D) o)(H:o≠.dead):Inv W (σ.set i o) h:=by
 injections h o _ i W σ D;have f:∀m(x:aX)(q:Addr×Addr),(σ.set i o)[m]?=some x->W.ρ[m]?=some q->i≠m/\σ[m]?=some x\/i=m/\x=o/\q=(D,D):=λm x q e t=>by
  by_cases A:i=m
  ·subst A;replace t:=Vn (am F) t;injection t with w;erw[w▸?_];replace e:=Vn (am WS) e;simp![Zq]at e;split at e; ·injection e with w;subst w;rwa[.inr (m_03 rfl rfl rfl)]
   ·rwa[k_nn e]
  ·rw[WJ A]at e;rwa[.inl ⟨A,e⟩]
 have B:∀{m:Nat}{x:aX}{q:Addr×Addr},σ[m]?=some x->x≠.dead->W.ρ[m]?=some q->q.1≠D/\q.2≠D:=λg b d=>⟨λz=>(s D rfl).2 (z▸cF g b d (.inl rfl)),λz=>(s D rfl).2 (z▸cF g b d (.inr rfl))⟩;erw[⟨I.known,I.based,I.stays,by simp![WN];rwa[I.len],λm x q g b d=>?_,λa l=>?_,λj m q r x y k g b d E v p=>?_⟩]
 ·rcases f m x q g b with⟨_,n⟩|⟨_,rfl,rfl⟩; ·rwa[I.cell m x q n b d]
  ·rwa[c]
 ·clear c;rcases j5 F l with l|rfl; ·rwa[I.off a l]
  ·rwa[(s _ rfl).1]
 ·erw[ba λu=>?_];clear c;clear H;rcases f j x q g v with⟨_,n⟩|⟨J,rfl,rfl⟩<;>rcases f m y r b p with⟨_,C⟩|⟨G,rfl,rfl⟩; ·rwa[u (I.apart j m q r x y k n C d E v p)]
  ·erw[u ?_];have:=B n d v;rwa[kS this.1 this.1 this.2 this.2]
  ·erw[u ?_];have:=B C E p;rwa[kS this.1.symm this.2.symm this.1.symm this.2.symm]
  ·rwa[absurd (J.symm.trans G) k]
theorem Step.revive(S:Step W₀ (σ₀.set i .dead) h₀ W σ h X)(f:σ₀[i]?=some o)(k:o≠.dead)(c:W₀.ρ[i]?=some (D,D)):W.ρ[i]?=some (D,D)/\Step W₀ σ₀ h₀ W (σ.set i o') h X:=by
 have d:W.ρ[i]?=some (D,D):=by obtain⟨r,m⟩:=S.ρ;rw[m,VS ((V2.mp c).1)];rwa[c]
 erw[⟨d,S.F,S.ρ,λa x e=>?_,λa l=>?_,λb x e j g=>S.keep b x e (λl=>j (bP l)) g,S.alive⟩]
 ·rwa[Pg (S.newF a x e) (λr=>.inl r) (λr=>.inr (.inl (bP r))) λr=>.inr (.inr r)]
 ·rcases j5 d l with l|rfl
  ·rcases S.liv a l with r|r; ·rwa[.inl (bP r)]
   ·rwa[.inr r]
  ·rwa[.inl (cF f k c (.inl rfl))]
theorem cz.revive(a:cz W σ (· =j))(d:W.ρ[i]?=some (D,D))(c:j≠D):cz W (σ.set i o) (· =j):=λb q=>⟨(a b q).1,λl=>by
 rcases j5 d l with l|z; ·rwa[(a b q).2 l]
 ·rwa[c (q.symm.trans z)]⟩
theorem bC.revive(k:bC W σ h stk)(p:W.ρ[i]?=some (D,D))(j:D∉stk.filterMap (·.frame)):bC W (σ.set i o) h stk:=λe a=>by
 erw[ba λc=>?_];obtain⟨m,f,o,s,n,r,q,b,g,d⟩:=k e a;erw[c ⟨m,f,o,s,n,r,q,b,g,λl=>?_⟩];rcases j5 p l with l|z; ·rwa[d l]
 ·rwa[j (z▸Wh.mpr (m_12 e a r))]
theorem kJ.privX(H:kJ W h₀ C G c h)(r:∃m,h.Ns I m)(x:pC I h h'):kJ (b0 W h h' (· =I)) h₀ C G c h':=by
 injections G _ h h' h₀ W c C I;erw[ba λu=>?_];obtain⟨e,K,L,T,q,J,s,E,B,g,w,k,v,t,D,j,a,d,f⟩:=H;erw[xY r λm o M F y hd Y=>?_];have n:∀b ob l,h.get? b=some ob->ob.data=.fields l->b≠I:=λb ob l p i z=>by rw[z,y]at p;injection p with A;subst A;replace i:=Vn (am hd) i;cases i
 rwa[u ⟨e,K,L,T,q,J,s,E,fE B g,(x.2 e (n _ _ _ g k)).trans g,w,k,v,t,fE D a,j,(x.2 T (n _ _ _ a d)).trans a,d,f⟩]
theorem rp{c:Option (ea->Sem Unit)}(I:Inv W σ s.heap)(S:Step W₀ σ₀ h₀ W σ s.heap X)(p:bC W σ s.heap stk)(j:kJ W h₀ fl D cn s.heap)(n:∃m,s.heap.Ns B m)(h:cz W σ (· =B))(k:h₀.get? B=none)(r:B∉stk.filterMap (·.frame))(q:∀W' h',Inv W' σ h'->Step W₀ σ₀ h₀ W' σ h' X->ExcAt W' h₀ L D cn h'->E D {s with heap:=h'}):ah5 MG A E c Q w B (.error D) s:=by
 have:∃m,s.heap.Ns B m/\∀h',pC B s.heap h'->∀a:Env,a.locals=B->ed MG A (passOn "comprehension.variables-let-go" D a:Sem ea) (λY Y=>False) E {s with heap:=h'}:=by erw[V7 n λm d=>m_12 m d λh' x a Y=>?_];have v:∀b o,¬b=B->s.heap.get? b=some o->h'.get? b=some o:=λb o t e=>(x.2 b t).trans e;erw[FP (s:={s with heap:=h'}) (p.privX v λf g z=>r (z▸g)) (I.priv (h':=h') h v).2.1 (S.priv I h v λb z=>(z)▸k) (j.privX ⟨m,d⟩ x) λl C i u F y=>q l C i u y.at]
 obtain⟨⟩:=c<;>rwa[this]
end
end
section
open Builtin
section
theorem As(ak:qE A k n stk L)(I:Inv W σ s.heap)(x:Here W σ env sc ls stk L s.heap)(hok:kW sc scope=true){rest:List qt}{body:Env->Addr->Sem Unit}{J:Option (ea->Sem Unit)}(S:∀a D d,ah4 (.ListComp elt (⟨t,iter,ifs,0⟩::rest) scope ε) 0 (.ref a) (.ref D) d=j4 (.ListComp elt (⟨t,iter,ifs,0⟩::rest) scope ε) 0 (body d D) t iter ifs (.ref a) (.ref D) d)(hT:∀d sc' ls,∀e∈ifs,ET A stk L d sc' ls e (tsf sc' e ls))(hB:∀W₀ σ₀ h₀ a fp wr pr d D,d.frame=some L->CS h₀ d (ai sc scope) stk fp wr D->BodyOk A L W₀ σ₀ h₀ d (ai sc scope) stk a fp wr pr D (body d D) inner)(hI:EI A stk L env sc ls iter (itf sc iter ls))(hS:∀σ,itf sc iter ls σ≠.stuck->∀x,m4 iter env x=pure x){res:Res (List Dat)}(ns:res≠.stuck)(f:aa (itf sc iter ls) (λsrc=>match L7 t src with|true=>aa (jU src λxs=>aD tsf t ifs (ai sc scope) inner xs (ik scope ls) []) λr=>ret r.2|false=>RG.Internal.stq) σ=res)(qok:∀D C ds W' σ' s',res=.ok ds σ'->IH W σ s.heap D C ds W' σ' s'.heap->Rest s s'->ah5 MG A E J Q (.ref D) C (.ok .next) s')(qex:∀x cn σ' W' s',res=.exc cn σ'->Inv W' σ' s'.heap->Step W σ s.heap W' σ' s'.heap eC->Rest s s'->ExcAt W' s.heap L x cn s'.heap->E x s'):ed MG A (comprehension (.ListComp elt (⟨t,iter,ifs,0⟩::rest) scope ε) scope env ppos (ag1 []) false (j1 iter env) J) Q E s:=by
 injections elt iter stk k n itf W σ E Q ε ppos rest body J res _ A env t ifs ls inner sc scope tsf s L;erw[hJ (λhk ho=>wpAny_comprehension_free (g:=⟨t,iter,ifs,0⟩) (gs:=rest) rfl (hS σ (dr (f▸ns))) (C5 λy hy hq=>by obtain⟨n,k⟩:=y;cases show k=.free from hq;erw[d6 (x.fa.cell n ((ho n _ hy).2.2 rfl)) λc cv h1 Y=>(h1)▸?_];rfl) hk (λy hy hq=>?_) ?_) (mj hok)]; ·obtain⟨n,k⟩:=y;cases show k=.local from hq;rwa[(ho n _ hy).1]
 have U:∀C:Addr,s.heap.get? C=none->C∉stk.filterMap (·.frame):=λC hC z=>by erw[fi (x.stk.mem z) λo Y Y e Y=>?_];replace e:=Vn (am hC) e;rwa[k_nn e]
 erw[hI W σ s I x (dr (f▸ns)) _ _ (λv src j W1 l e1 I1 B G hv=>?_) λy cn j W1 l e1 I1 B G hx=>qex y cn j W1 l (Vn (am f) (cU e1)) I1 B G hx];replace f:=Vn (am (bX e1)) f;erw[RP (L7 t src) (λO=>?_) λO=>?_]; ·replace f:=(O)▸f;rwa[absurd f.symm ns]
 ·replace f:=(O)▸f;dsimp only at f;have K:∀xs,src=.items xs\/src=.pairs xs->aa (λσ=>aD tsf t ifs (ai sc scope) inner xs (ik scope ls) [] σ) (λr=>ret r.2) j=res->ed MG A (SF v) (λit s₂=>ed MG A (ag1 []) (λacc s₃=>ed MG A (newFunctionEnv scope env.globals (cX env scope.names []) [] env.qual none .none (some env)) (λZ s₄=>p7 MG A (.compStart (.ListComp elt (⟨t,iter,ifs,0⟩::rest) scope ε) 0 it acc {Z with scope:=relabel scope env}) (ah5 MG A E J Q acc Z.locals) s₄) E s₃) E s₂) E l:=λxs hsrc f=>by
   erw[yu (X:=eC) (L:=L) I1 (λb=>B.dead) hv hsrc (by intro z;cases z) _ _ (λi Y σ2 W2 s2 e2 I2 S2 r2 H=>?_) λx cn σ2 W2 s2 e2 Y Y Y Y=>by cases e2]
   injection e2 with h9 h8;subst h9 h8;obtain⟨a2,fp2,pr2,rfl,H,hpv,hfr,hpr⟩:=H;rwa[ti (RR:=λacc C=>ah5 MG A E J Q acc C) (res:=aD tsf t ifs (ai sc scope) inner xs (ik scope ls) [] j) (body:=λC D=>body (us scope (cX env scope.names []) C env) D) ak x hok I2 (B.trans S2) H hpv hfr (λz=>by have:=hpr z;subst this;rwa[O]) (λC D=>S _ _ _) (λC ls=>hT _ _ ls) (λC D c=>hB _ _ _ _ _ _ _ _ _ x.fid c) (dr (f▸ns)) rfl (λD C R ds W3 h s3 e3 w F=>qok D C ds W3 h s3 (Vn (am f) (bX e3)) w ((G.trans r2).trans F)) λD C y cn W3 h s3 e3 I3 S3 k3 x3 n3 p3 f3 F=>rp I3 S3 k3 x3 n3 p3 f3 (U C f3) λW4 h4 I4 S4 x4=>qex y cn h W4 {s3 with heap:=h4} (Vn (am f) (cU e3)) I4 S4 ⟨(G.trans r2).gens.symm▸F.gens,(G.trans r2).drawn.symm▸F.drawn,(G.trans r2).os.symm▸F.os⟩ x4]
  cases src with
  |items xs=>rwa[K xs (.inl rfl) f]
  |pairs xs=>rwa[K xs (.inr rfl) f]
  |cell i=>
   erw[ba λhG=>?_];cases hv with
   |cell hv=>
    erw[hG (x_12 hv λp hp q1022=>q1022▸?_)];dsimp![jU]at f;erw[Co j[i]? (λhi=>?_) λob hi=>?_]; ·delta aa at f;simp![hi]at f;rwa[absurd f.symm ns]
    ·cases ob with
     |list xs=>
      have hok1:∀R ds h,aD tsf t ifs (ai sc scope) inner xs (ik scope ls) [] (j.set i .dead)=.ok (R,ds) h->res=.ok ds (h.set i (.list xs)):=λR ds h e=>by rw[<-f];delta aa;simp![hi,e];rfl
      have hex1:∀cn h,aD tsf t ifs (ai sc scope) inner xs (ik scope ls) [] (j.set i .dead)=.exc cn h->res=.exc cn (h.set i (.list xs)):=λcn h e=>by rw[<-f];delta aa;simp![hi,e]
      have nd:aX.list xs≠.dead:=by intro z;cases z
      cases I1.cell i _ p hi hp nd with
      | @list _ vs m hpe N hds=>
       obtain⟨p2,q2⟩:=p;cases hpe;have Pl:=I1.killPriv hi nd hp;erw[YJ (items:=vs.toArray) ⟨_,N,rfl,_,rfl⟩ ?_];have P:l.heap.get? l.heap.objs.size=none:=bb _;have k1:∀b o,l.heap.get? b=some o->(l.heap.push (Ak true p2)).get? b=some o:=λb o e=>Vr _ e;erw[rG (qH (I1.kill i) (Step.refl W1 (j.set i .dead) l.heap eC) k1 P) λI2 S2 P2 T2=>?_];have H:fu (b0 W1 l.heap (l.heap.push (Ak true p2)) (· =l.heap.objs.size)).F (l.heap.push (Ak true p2)) l.heap.objs.size [l.heap.objs.size,p2] [l.heap.objs.size] false xs:=.cell (vs:=vs) (n:=m) (i:=0) (ia _ (VH _ rfl) rfl rfl) (k1 _ _ N) (λz=>by rw[<-z]at P;replace N:=(P)▸N;rwa[k_nn N]) (hds.mono T2.F);have hpv:cz (b0 W1 l.heap (l.heap.push (Ak true p2)) (· =l.heap.objs.size)) (j.set i .dead) (· ∈[l.heap.objs.size,p2]):=λb hb=>by
        simp![VD,ap5,YQ]at hb;rcases hb with rfl|rfl; ·rwa[P2 _ rfl]
        ·rwa[(Pl.step T2 λb q=>⟨_,q▸N⟩) _ rfl]
       have M:∀{W':St}{σ':ae}{h':Heap},Inv W' σ' h'->Step W1 (j.set i .dead) l.heap W' σ' h' eC->W'.ρ[i]?=some (p2,p2)/\Inv W' (σ'.set i (.list xs)) h'/\Step W σ s.heap W' (σ'.set i (.list xs)) h' eC:=λ{W' σ' h'}I' V=>hJ (λu Sr=>m_03 u (I'.revive u (Pl.step V λb q=>⟨_,q▸N⟩) (.list rfl (gS (V.keep p2 _ N (Pl _ rfl).2 λz=>z) (by intro es n q;cases q)) (hds.mono V.F)) nd) (B.trans Sr)) (V.revive (o':=.list xs) hi nd hp)
       have neD:∀{D:Addr},l.heap.get? D=none->D≠p2:=λhD z=>by simp![z,N]at hD;rwa[k_sn hD]
       erw[ti (RR:=λacc C=>ah5 MG A E J Q acc C) (W₀:=W1) (σ₀:=j.set i .dead) (h₀:=l.heap) (s:={l with heap:=l.heap.push (Ak true p2)}) (res:=aD tsf t ifs (ai sc scope) inner xs (ik scope ls) [] (j.set i .dead)) (body:=λC D=>body (us scope (cX env scope.names []) C env) D) ak ((x.step B).kill i) hok I2 S2 H hpv (λb hb=>(Vy.mp hb)▸P) (λz=>gm z) (λC D=>S _ _ _) (λC ls=>hT _ _ ls) (λC D c=>hB _ _ _ _ _ _ _ _ _ x.fid c) λe=>by erw[ns ?_];rw[<-f];delta aa;simp![hi,e] rfl (λD C R ds W3 h s3 e3 w F=>?_) λD C y cn W3 h s3 e3 I3 S3 k3 x3 n3 p3 f3 F=>?_]; ·rwa[mL (M w.inv w.st) λu I' V=>qok D C ds W3 _ s3 (hok1 _ _ _ e3) ⟨I',V,w.dl,w.dp.revive u (neD w.df),B.dead w.df,w.cn,w.cp.revive u (neD w.cf),B.dead w.cf,w.dc⟩ ⟨F.gens.trans G.gens,F.drawn.trans G.drawn,F.os.trans G.os⟩]
       ·erw[mL (M I3 S3) λu I' V=>ba λhG=>?_];obtain⟨e,oe,vs',T,oT,ts,g1,g2,g3,g4,g5,g6,g7,g8,g9⟩:=x3;rwa[hG (rp I' V (k3.revive u λz=>by erw[bw ((x.step B).stk.mem z) λo es n e1 e2 Y=>?_];rw[N]at e1;injection e1 with h9;subst h9;cases e2) ⟨e,oe,vs',T,oT,ts,g1,B.dead g2,g3,g4,g5,g6,g7,B.dead g8,g9⟩ n3 (p3.revive u (neD f3)) (B.dead f3) (U C (B.dead f3)) λW4 h4 I4 S4 x4=>qex y cn _ W4 {s3 with heap:=h4} (hex1 _ _ e3) I4 S4 ⟨F.gens.trans G.gens,F.drawn.trans G.drawn,F.os.trans G.os⟩ x4)]
     |_=>delta aa at f;simp![hi]at f;rwa[absurd f.symm ns]
end
end
section
open Builtin
section
theorem IH.close(c:IH W₀ σ₀ h₀ D C ds W σ h)(i:pC C h h'):∃a,Inv a σ h'/\Step W₀ σ₀ h₀ a σ h' eC/\(∃vs n,h'.get? D=some (cM vs n)/\c9 a.F ds vs)/\cz a σ (· =D):=by have g:∀b o,¬b=C->h.get? b=some o->h'.get? b=some o:=λb o f e=>(i.2 b f).trans e;have P:=c.inv.priv (h':=h') c.cp g;rwa[d6 c.dl λvs n d j=>Fe _ P.2.1 (c.st.priv c.inv c.cp g λb z=>(z)▸c.cf) (m_22 vs n (g _ _ c.dc d) (j.mono P.1)) λb q=>q▸⟨fE (c.dp _ rfl).1 d,(c.dp _ rfl).2⟩]
theorem tj(I:Inv W σ h)(S:Step W₀ σ₀ h₀ W σ h X)(hd:∃vs n,h.get? D=some (cM vs n)/\c9 W.F ds vs)(d:cz W σ (· =D))(b:h₀.get? D=none):Inv (Aq W h D) σ h/\Step W₀ σ₀ h₀ (Aq W h D) σ h X/\DR (Aq W h D).F (.list ds) (.ref D):=d6 hd λvs n c g=>mL (I.take d c) λe f a=>m_03 a (S.take I b) (.list f (g.mono e))
theorem ph(I:Inv W σ h)(S:Step W₀ σ₀ h₀ W σ h X)(hd:∃vs n,h.get? D=some (cM vs n)/\c9 W.F ds vs)(c:cz W σ (· =D))(a:h₀.get? D=none):Inv (jZ W D) (σ++[.list ds]) h/\Step W₀ σ₀ h₀ (jZ W D) (σ++[.list ds]) h X/\VR (jZ W D) (.cell σ.length) (.ref D):=by erw[d6 hd λvs n b d=>⟨I.adopt c (.list rfl b d),S.adopt I.len a,(D,D),?_,rfl⟩];show(W.ρ++[(D,D)])[σ.length]?=_;erw[Vn (VU (by rw[I.len];rwa[VM _])) ?_];rw[I.len,Ym];rfl
structure yA(A:kx)(stk:List Env)L(evf:e6->Expr->Ls->M V)(tsf:e6->Expr->Ls->M Bool)(itf:e6->Expr->Ls->M Src)(elt:Expr)(gens:List qt):Prop where
 hE:∀env sc ls,EV A stk L env sc ls elt (evf sc elt ls)
 hT:∀g∈gens,∀env sc ls,∀e∈g.ifs,ET A stk L env sc ls e (tsf sc e ls)
 hI:∀g∈gens,∀env sc ls,EI A stk L env sc ls g.iter (itf sc g.iter ls)
 hS:∀e env sc ls σ,itf sc e ls σ≠.stuck->∀x,m4 e env x=pure x
theorem tm(o:qE A k n stk L)(I:Inv W σ s.heap)(x:Here W σ env sc ls stk L s.heap)(d:yA A stk L evf tsf itf elt gens){l:Option (ea->Sem Unit)}(w:u≠.stuck)(g:jk evf tsf itf sc elt gens scope ls σ=u)(h:∀D C ds W' σ' s',u=.ok ds σ'->IH W σ s.heap D C ds W' σ' s'.heap->Rest s s'->ah5 MG A E l Q (.ref D) C (.ok .next) s')(m:∀x cn σ' W' s',u=.exc cn σ'->Inv W' σ' s'.heap->Step W σ s.heap W' σ' s'.heap eC->Rest s s'->ExcAt W' s.heap L x cn s'.heap->E x s'):ed MG A (comprehension (.ListComp elt gens scope pos) scope env ppos (ag1 []) (firstAsync gens) (firstIter gens env) l) Q E s:=by
 injections A env stk k n s W σ E Q L gens u pos ppos l _ elt ls sc scope tsf itf evf;delta jk at g;cases f:kW sc scope with
 |false=>rw[f]at g;rwa[absurd g.symm w]
 |true=>
  rw[f]at g;dsimp only at g;rcases gens with _|⟨⟨t,v,ifs,(_|_)|_⟩,_|⟨⟨y,q,r,(_|_)|_⟩,_|_⟩⟩<;>first|rwa[absurd g.symm w]|skip
  ·rwa[As (rest:=[]) (body:=λb D=>do let _<-ec (.builtin "list.append") [.ref D,<-j1 elt b]) o I x f (λa D b=>yz) (λb sc' ls e j=>d.hT _ (.head _) b sc' ls e j) (λY Y Y Y Y Y Y b D p c=>Ar c p λls=>d.hE b _ ls) (d.hI _ (.head _) env sc ls) (λσ=>d.hS _ env sc ls σ) w g h m]
  ·rwa[As (rest:=[⟨y,q,r,0⟩]) (body:=λb D=>do let x<-j1 q b;z3 q.pos;let x<-m4 q b x;let i<-x9 [x] (SF x);let _<-runOwn (.compStart (.ListComp elt [⟨t,v,ifs,0⟩,⟨y,q,r,0⟩] scope pos) 1 i (.ref D) b) b) o I x f (λa D b=>vO) (λb sc' ls e j=>d.hT _ (.head _) b sc' ls e j) (λY Y Y Y Y Y Y b D p c=>IG o c p (λls=>d.hE b _ ls) (λls e j=>d.hT _ (.tail _ (.head _)) b _ ls e j) (λls=>d.hI _ (.tail _ (.head _)) b _ ls) λls σ=>d.hS _ b _ ls σ) (d.hI _ (.head _) env sc ls) (λσ=>d.hS _ env sc ls σ) w g h m]
theorem MH(i:qE A k n stk L)(p:yA A stk L evf tsf itf elt gens):EV A stk L env sc ls (.ListComp elt gens scope pos) (aa (jk evf tsf itf sc elt gens scope ls) λds=>ret (.d (.list ds))):=λW O s I x K Q E q e=>by erw[tm i I x p (dr K) rfl (λD C ds G B F a c r=>?_) λy N B G F a u g j d=>e y N B G F (cU a) u g j d];obtain⟨m,w⟩:=c.cn;rwa[m_12 m w λJ H=>ba λh=>LY (c.close H) λz b t v M=>mL (tj b t v M c.df) λo l f=>h (q (.ref D) (.d (.list ds)) B _ {F with heap:=J} (bX a) o l ⟨r.gens,r.drawn,r.os⟩ f)]
theorem IJ(i:qE A k n stk L)(p:yA A stk L evf tsf itf elt gens):EV A stk L env sc ls (.ListComp elt gens scope pos) (aa (jk evf tsf itf sc elt gens scope ls) λds=>aM (.list ds)):=λW O s I x K Q E q e=>by erw[tm i I x p (dr K) rfl (λD C ds G B F a c r=>?_) λy N B G F a u g j d=>e y N B G F (cU a) u g j d];obtain⟨m,w⟩:=c.cn;rwa[m_12 m w λJ H=>ba λh=>LY (c.close H) λz b t v M=>mL (ph b t v M c.df) λo l f=>h (q (.ref D) (.cell B.length) (B++[.list ds]) _ {F with heap:=J} (bX a) o l ⟨r.gens,r.drawn,r.os⟩ f)]
end
end
section
open Builtin
section
variable{P:jS}
theorem tn:EV A stk L env sc ls e RG.Internal.stq:=λY Y Y Y Y=>b7
theorem IK:ET A stk L env sc ls e RG.Internal.stq:=λY Y Y Y Y=>b7
theorem IL:EI A stk L env sc ls e RG.Internal.stq:=λY Y Y Y Y=>b7
theorem EV.grd(h:b=true->EV A stk L env sc ls e m):EV A stk L env sc ls e (ng b m):=by cases b with|true=>rwa[h rfl]|false=>rwa[tn]
theorem ET.grd(h:b=true->ET A stk L env sc ls e m):ET A stk L env sc ls e (ng b m):=by cases b with|true=>rwa[h rfl]|false=>rwa[IK]
theorem EI.grd(h:b=true->EI A stk L env sc ls e m):EI A stk L env sc ls e (ng b m):=by cases b with|true=>rwa[h rfl]|false=>rwa[IL]
theorem rq(h:ev P m .iter sc e ls σ≠.stuck)(x:ea):m4 e env x=pure x:=by
 cases m with
 |zero=>rwa[absurd rfl h]
 |succ m=>
  obtain⟨⟩:=e<;>first|rfl|skip
  rwa[absurd (by obtain⟨⟩:=m<;>rfl) h]
theorem MI(a:Ctx P k):EV A stk L env sc ls (.Name x j) (Ea P sc x ls):=λY Y Y I y=>Ir a.nok I y.fa
theorem FU{m:Expr->M V}(H:∀e∈es,EV A stk L env sc ls e (m e)):EV A stk L env sc ls (.BoolOp op es j) (zR op (es.map m)):=λW a s I x=>Em H W a s I x
theorem FV{m:Expr->M Bool}(H:∀e∈es,ET A stk L env sc ls e (m e)):ET A stk L env sc ls (.BoolOp op es j) (Eb op (es.map m)):=λW a s I x=>Mz H W a s I x
theorem PK(n:vH)(p:A.units+10<ah2){m:Expr->M V}(o:lastMarks ops es=false)(f:EV A stk L env sc ls l m₁)(H:∀e∈es,EV A stk L env sc ls e (m e)):EV A stk L env sc ls (.Compare l ops es u) (aa m₁ λa=>aa (iQ a ops (es.map m)) λt=>ret (.d (.bool t))):=λW w s I x=>by dsimp![arm_eval_Compare];rwa[(lg o)▸(bl (f W w s I x) λc v d r q k g i Y j=>Ref.map (Iu n p H r d q v c g (x.step i) j) λy Y b a Y(h:a=.bool b)=>by subst h;rwa[DR.bool])]
theorem PL(j:vH)(n:A.units+10<ah2){m:Expr->M V}(k:lastMarks ops es=false)(d:EV A stk L env sc ls l m₁)(H:∀e∈es,EV A stk L env sc ls e (m e)):ET A stk L env sc ls (.Compare l ops es u) (aa m₁ λa=>iQ a ops (es.map m)):=λW q s I x=>by dsimp![arm_isTrue_Compare];rwa[(lg k)▸(bl (d W q s I x) λc v b p o i f g Y h=>Iv j n H p b o v c f (x.step g) h)]
structure j6(P:jS)(A:kx)(stk:List Env)L(m:Nat):Prop where
 v:∀env sc ls e,EV A stk L env sc ls e (ev P m .val sc e ls)
 c:∀env sc ls e,EV A stk L env sc ls e (ev P m .cell sc e ls)
 t:∀env sc ls e,ET A stk L env sc ls e (ev P m .test sc e ls)
 i:∀env sc ls e,EI A stk L env sc ls e (ev P m .iter sc e ls)
theorem j6.parts(H:j6 P A stk L m)(f:Expr)(d:List qt):yA A stk L (ev P m .val) (ev P m .test) (ev P m .iter) f d:=⟨λa b c=>H.v a b c f,λg Y a b c e Y=>H.t a b c e,λg Y a b c=>H.i a b c g.iter,λe a b c i h x=>rq h x⟩
variable(ok:vH)(cx:Ctx P k)(ak:qE A k n stk L)
include ok cx ak
theorem MJ(H:j6 P A stk L m)(env:Env)(sc:e6)(ls:Ls)(e:Expr):EV A stk L env sc ls e (ev P (m+1) .val sc e ls):=by
 injections cx ak H _ L A stk k n P m env sc ls e;cases e with
 |Constant c _ _=>rwa[Am]
 |Name x _=>rwa[MI cx]
 |BinOp l op r _=>rwa[It (H.v env sc ls l) (H.v env sc ls r)]
 |UnaryOp op x _=>cases op with|USub=>rwa[PE (H.v env sc ls x)]|Not=>rwa[PF (H.v env sc ls x)]|_=>rwa[tn]
 |BoolOp op es _=>rwa[FU (m:=λe=>ev P m .val sc e ls) λe Y=>H.v env sc ls e]
 |Compare l ops cs _=>rwa[.grd λh=>PK ok (by have:=ak.un;rwa[a_1 this]) ((Wn _).mp h) (H.v env sc ls l) λe Y=>H.v env sc ls e]
 |IfExp t b o _=>rwa[Si (H.t env sc ls t) (H.v env sc ls b) (H.v env sc ls o)]
 |Tuple es _ _=>rwa[.grd λd=>Iz d λe Y=>H.v env sc ls e]
 |List es _=>rwa[.grd λd=>MC d λe Y=>H.v env sc ls e]
 |ListComp elt gens scope _=>rwa[MH ak (H.parts elt gens)]
 |Call f args ks pos=>erw[EV.grd λk=>(oR k)▸?_];cases g:Hy f with|some r=>rwa[Pr g (P:=λf=>EV A stk L env sc ls (.Call f args [] pos) (ng (oN r.1 r.2.2 pos args) _)) (.grd λn=>MB ok cx ak n (H.v env sc ls r.1) λe Y=>H.v env sc ls e)]|none=>rwa[.grd λd=>MD ok cx ak (show Cp (Hy f)=true by rw[g];rfl) d (H.v env sc ls f) λe Y=>H.v env sc ls e]
 |Attribute o a _=>rwa[.grd λj=>MA ok j (H.v env sc ls o)]
 |Subscript o i pos=>show EV A stk L env sc ls _ (match L8 i with|some r=>_|none=>_);cases hs:L8 i with|some r=>rwa[Pt hs (P:=λi=>EV A stk L env sc ls (.Subscript o i pos) (aa (ev P m .val sc o ls) _)) λp=>Iy (m:=λe=>ev P m .val sc e ls) (H.v env sc ls o) (λe Y=>H.v env sc ls e) λe Y=>H.v env sc ls e]|none=>rwa[PH (H.v env sc ls o) (H.v env sc ls i)]
 |_=>rwa[tn]
theorem IM(H:j6 P A stk L m)(c:Env)(d:e6)(f:Ls)(e:Expr):EV A stk L c d f e (ev P (m+1) .cell d e f):=by
 cases e with
 |List o _=>rwa[.grd λb=>IB b λe Y=>H.v c d f e]
 |Dict j i p=>
  have a:ev P (m+1) .cell d (.Dict j i p) f=ev P m .val d (.Dict j i p) f->EV A stk L c d f (.Dict j i p) (ev P (m+1) .cell d (.Dict j i p) f):=λe=>e▸H.v c d f _;cases j with
  |nil=>cases i with|nil=>rwa[IC cx]|cons _ _=>rwa[a rfl]
  |cons _ _=>rwa[a rfl]
 |ListComp n h k _=>rwa[IJ ak (H.parts n h)]
 |BinOp l g r p=>have a:ev P (m+1) .cell d (.BinOp l g r p) f=ev P m .val d (.BinOp l g r p) f->EV A stk L c d f (.BinOp l g r p) (ev P (m+1) .cell d (.BinOp l g r p) f):=λe=>e▸H.v c d f _;cases g with|Add=>rwa[ME (H.v c d f l) (H.v c d f r)]|_=>rwa[a rfl]
 |_=>rwa[H.v c d f _]
theorem IP(H:j6 P A stk L m)(f:Env)(g:e6)(h:Ls)(e:Expr):ET A stk L f g h e (ev P (m+1) .test g e h):=by
 have i:∀e,qG e=true->ev P (m+1) .test g e h=(aa (ev P m .val g e h) λv=>lift (truth v))->ET A stk L f g h e (ev P (m+1) .test g e h):=λe d a=>a▸PI d (H.v f g h e);cases e with
 |UnaryOp j x p=>cases j with|Not=>rwa[PG (H.t f g h x)]|_=>rwa[i _ rfl rfl]
 |BoolOp j q _=>rwa[FV (m:=λe=>ev P m .test g e h) λe Y=>H.t f g h e]
 |IfExp t b o _=>rwa[Sj (H.t f g h t) (H.t f g h b) (H.t f g h o)]
 |Compare l k n _=>rwa[.grd λc=>PL ok (by have:=ak.un;rwa[a_1 this]) ((Wn _).mp c) (H.v f g h l) λe Y=>H.v f g h e]
 |_=>rwa[i _ rfl rfl]
theorem IQ(H:j6 P A stk L m)(env:Env)(sc:e6)(ls:Ls)(e:Expr):EI A stk L env sc ls e (ev P (m+1) .iter sc e ls):=by injections cx ak H _ L A stk k n P m env sc ls e;show EI A stk L env sc ls e (match(yc e).bind λr=>(Uo sc r.1 r.2.2).map λx=>(x,r.2.1)with|some r=>_|none=>_);cases i:(yc e).bind λr=>(Uo sc r.1 r.2.2).map λx=>(x,r.2.1)with|none=>rwa[PJ (H.v env sc ls _)]|some r=>erw[ob i λq d a=>om a λx ex a=>ob ex λy c h=>d8 h λb h2=>?_];rw[Vq]at b;rw[<-a,<-Vp h2];erw[CB d (P:=λe=>EI A stk L env sc ls e (ng (bF q.2.1) _)) λp=>?_];rw[oR b.1];rwa[nB c (P:=λf=>EI A stk L env sc ls (.Call f q.2.1 [] p) (ng (bF q.2.1) _)) λq=>.grd λg=>Sl cx b.2 g λe Y=>H.v env sc ls e]
theorem IR:∀m,j6 P A stk L m:=by intro b;induction b with|zero=>rwa[⟨λY Y Y Y=>tn,λY Y Y Y=>tn,λY Y Y Y=>IK,λY Y Y Y=>IL⟩]|succ m a=>rwa[have H:=a;⟨MJ ok cx ak H,IM ok cx ak H,IP ok cx ak H,IQ ok cx ak H⟩]
end
end
section
open Builtin
noncomputable def FX(env:Env)(sc:e6):Addr->Prop:=λb=>b=env.locals\/∃y,sc.names.lookup y=some .cell/\env.cells.lookup y=some b
structure Mk where
 W:St
 σ:ae
 h:Heap
structure At(o m:Mk)(s₀:eN)(env:Env)(sc:e6)(ls:Ls)(stk:List Env)L(W:St)(σ:ae)(s:eN):Prop where
 inv:Inv W σ s.heap
 st:Step o.W o.σ o.h W σ s.heap eC
 mks:Step m.W m.σ m.h W σ s.heap (FX env sc)
 here:Here W σ env sc ls stk L s.heap
 rs:Rest s₀ s
structure PM(stk:List Env)L(env:Env)(sc:e6)(o m:Mk)(s₀:eN){α:Type}(res:Res α)(kn kc:Ls->M α)(kr:V->M α)(Q:a9 Flow)(E:a8):Prop where
 next:∀ls W σ s,At o m s₀ env sc ls stk L W σ s->kn ls σ=res->Q .next s
 cont:∀ls W σ s,At o m s₀ env sc ls stk L W σ s->kc ls σ=res->Q .cont s
 ret:∀v c W σ s,Inv W σ s.heap->Step o.W o.σ o.h W σ s.heap eC->Rest s₀ s->VR W v c->kr v σ=res->Q (.ret c) s
 exc:∀x cn W σ s,res=.exc cn σ->Inv W σ s.heap->XO o.W o.σ o.h env sc stk W σ s.heap (λh1=>ExcAt W h1 L x cn s.heap)->Rest s₀ s->E x s
def XS(A:kx)(stk:List Env)(L:Nat)(env:Env)(sc:e6)(tree:Sem Flow)(f:∀{α:Type},Ls->(Ls->M α)->(V->M α)->(Ls->M α)->M α):Prop:=∀{α:Type}(kn:Ls->M α)(kr:V->M α)(kc:Ls->M α)(res:Res α)(o m:Mk)(s₀:eN)(ls:Ls)(W:St)(σ:ae)(s:eN),OQ env sc o.h (aV sc)->At o m s₀ env sc ls stk L W σ s->res≠.stuck->f ls kn kr kc σ=res->∀(Q:a9 Flow)(E:a8),PM stk L env sc o m s₀ res kn kc kr Q E->ed MG A tree Q E s
section
variable{o m:Mk}{p:Str->Bool}
theorem Turn.stepF(t:Turn p env sc W h W' h'):Step W σ h W' σ h' (FX env sc)where
 F:=t.F
 ρ:=⟨[],by simp[t.ρ]⟩
 newF:=λa o e=>by cases q:h.get? a with|none=>rwa[.inr (.inr rfl)]|some j=>cases r:W.F.get? a with|none=>replace e:=Vn (am (t.nF a r ⟨j,q⟩)) e;rwa[k_nn e]|some c=>have:=t.F a c r;replace this:=Vn (am e) this;injection this with g;rwa[(g)▸.inl rfl]
 liv:=λa l=>.inl (t.ρ▸l)
 keep:=λb o e Y d=>(t.same b o (λz=>d (.inl z)) (λy Y f i=>d (.inr (m_12 y f i))) e)▸Kept.refl o
 alive:=t.alive
theorem bC.turn(k:bC W σ h stk)(f:aT W σ env sc ls h)(d:aT W' σ env sc ls' h')(t:Turn p env sc W h W' h'):bC W' σ h' stk:=λe C=>by
 erw[ba λg=>?_];obtain⟨B,a,o,J,n,I,w,x,A,z⟩:=k e C;erw[g ?_];by_cases i:a=env.locals; ·erw[ba λg=>?_];subst i;rwa[x_12 d.ns λM m Y=>bw m λK u q G E Y=>g ⟨B,_,K,u,q,I,G,E,(d.priv _ rfl).1,(d.priv _ rfl).2⟩]
 ·erw[⟨B,a,o,J,n,I,t.same a o i (λy Y F b=>fw (f.cell y (.inl F)) λc H D j Y=>x_12 j λL v s=>?_) w,x,t.nF a A ⟨o,w⟩,λl=>z (t.ρ▸l)⟩];replace b:=Vn (am D) b;clear i;clear A;clear z;clear I;injection b with r;subst r;replace v:=Vn (am w) v;injection v with r;subst r;replace s:=Vn (am x) s;cases s
theorem At.step(a:At o m s₀ env sc ls stk L W σ s)(I:Inv W' σ' s'.heap)(S:Step W σ s.heap W' σ' s'.heap eC)(r:Rest s s'):At o m s₀ env sc ls stk L W' σ' s':=⟨I,a.st.trans S,a.mks.trans (S.mono λY z=>z.elim),a.here.step S,a.rs.trans r⟩
theorem At.turn(a:At o m s₀ env sc ls stk L W σ s)(I:Inv W' σ h')(S:Step o.W o.σ o.h W' σ h' eC)(f:aT W' σ env sc ls' h')(t:Turn p env sc W s.heap W' h'):At o m s₀ env sc ls' stk L W' σ {s with heap:=h',toks:=tk}:=⟨I,S,a.mks.trans t.stepF,⟨f,a.here.stk.turn a.here.fa f t,a.here.fid⟩,⟨a.rs.gens,a.rs.drawn,a.rs.os⟩⟩
theorem At.privX(a:At o m s₀ env sc ls stk L W σ s)(d:cz W σ P)(k:∀b ob,¬P b->s.heap.get? b=some ob->h'.get? b=some ob)(e:∀b,P b->o.h.get? b=none)(j:∀b,P b->m.h.get? b=none)(i: ¬P env.locals)(g:∀x c,bx sc x->env.cells.lookup x=some c-> ¬P c)(h:∀f∈stk.filterMap (·.frame),¬P f):At o m s₀ env sc ls stk L (b0 W s.heap h' P) σ {s with heap:=h',toks:=tk}:=⟨(a.inv.priv d k).2.1,a.st.priv a.inv d k e,a.mks.priv a.inv d k j,⟨a.here.fa.privX a.inv d k i g,a.here.stk.privX k h,a.here.fid⟩,⟨a.rs.gens,a.rs.drawn,a.rs.os⟩⟩
theorem At.ref{R:St->ae->β->a9 γ}{Q:a9 Flow}(h:Ref A L eC W σ s j (mm σ) R)(a:At o m s₀ env sc ls stk L W σ s)(d:aa mm f σ=u)(i:u≠.stuck)(P:PM stk L env sc o m s₀ u kn kc kr Q E)(k:∀b c W' σ' s',At o m s₀ env sc ls stk L W' σ' s'->Step W σ s.heap W' σ' s'.heap eC->R W' σ' b c s'->f b σ'=u->Q' c s'):ed MG A j Q' E s:=by
 rwa[h (dr (d▸i)) _ _ (λc b σ' W' s' e I S r hv=>k b c W' σ' s' (a.step I S r) S hv (by rw[<-d,bX e])) λx l σ' W' s' e I S r g=>P.exc x l W' σ' s' (by rw[<-d,cU e]) I (oI W σ s.heap ls a.here.fa a.here.stk a.st S g) (a.rs.trans r)]
theorem tq(a:At o m s₀ env sc ls stk L W σ s)(e:s.heap.get? u=none):env.locals≠u/\(∀x c,bx sc x->env.cells.lookup x=some c->c≠u)/\(∀f∈stk.filterMap (·.frame),f≠u):=by
 erw[⟨λz=>?_,λx c j p z=>?_,λf l z=>?_⟩]; ·erw[x_12 a.here.fa.ns λA h Y=>fi h λob v q d Y=>?_];simp![z,e]at d;rwa[nomatch d]
 ·erw[fw (a.here.fa.cell x j) λw t g b Y=>x_12 b λy i r=>?_];replace g:=Vn (am p) g;clear b;injection g with k;subst k;simp![z,e]at i;rwa[k_nn i]
 ·erw[fi (a.here.stk.mem l) λob v n d Y=>?_];simp![z,e]at d;rwa[k_nn d]
theorem PN:XS A stk L env sc (j2 [] env) λ{α}ls kn Y Y=>kn ls:=λkn g f e o m c ls W d s O a h b Q E P=>XD (P.next ls W d s a b)
theorem Ep{f:Stmt->∀{d:Type},Ls->(Ls->M d)->(V->M d)->(Ls->M d)->M d}:∀{ss:List Stmt},(∀st∈ss,XS A stk L env sc (e7 st env) (f st))->XS A stk L env sc (j2 ss env) λ{d}ls kn kr kc=>jW (λst=>f st) ss ls kn kr kc:=by
 intro w;induction w with
 |nil=>rwa[λY=>PN]
 |cons st ss j=>
  rwa[λH=>λkn kr kc r o m q ls W y s O a x i Q E P=>by
   rwa[Vm (H st (.head _) (λp=>jW (λst=>f st) ss p kn kr kc) kr kc r o m q ls W y s O a x i _ E ⟨λp t n u e b=>j (λz l=>H z (.tail _ l)) kn kr kc r o m q p t n u O e x b Q E P,λp t n u e b=>Vs (P.cont p t n u e b),λv c t n u k g h hv b=>Vs (P.ret v c t n u k g h hv b),P.exc⟩)]]
end
end
section
open Builtin
section
variable{P:jS}{o:Mk}
noncomputable def PO(e:Expr):Bool:=mn e.ctorIdx 8||Nat.beq e.ctorIdx 9||Nat.beq e.ctorIdx 10
noncomputable def isName(e:Expr):Bool:=mn e.ctorIdx 23
theorem Da{p:Pos}:∃b,swapsWithSole [.Name x p] e line env=pure b/\(b=true->PO e=true):=by obtain⟨⟩:=e<;>first|rwa[m_12 false rfl λh=>gm h]|rwa[m_12 _ rfl λY=>rfl]
theorem Au(a:isName t=false):swapsWithSole [t] e line env=pure false:=by injections env t e line;show swapsWith e (some t) line env=pure false;delta swapsWith;generalize swapsWith.match_1 (motive:=λY=>Option e6) e (λY Y s Y=>some s) (λY Y s Y=>some s) (λY Y Y s Y=>some s) (λY=>none)=X;cases X with|none=>rfl|some s=>obtain⟨⟩:=t<;>first|rfl|rwa[k_tf a]
theorem pj(h:(∀ts k p,t≠.Tuple ts k p)/\∀ts p,t≠.List ts p):v8 [t] e env=pure none:=by obtain⟨⟩:=t<;>first|rfl|(rwa[absurd rfl (h.1 _ _ _)])|(rwa[absurd rfl (h.2 _ _)])
theorem Av(h:∀ts k p,e≠.Tuple ts k p):v8 [t] e env=pure none:=by obtain⟨⟩:=t<;>first|rfl|(obtain⟨⟩:=e<;>first|rfl|(rwa[absurd rfl (h _ _ _)]))
theorem IS(a:∀d,j6 P A stk L d):EV A stk L env sc ls e (vL P mv x n sc e ls):=by delta vL;cases mv.contains x with|true=>rwa[(a n).c env sc ls e]|false=>rwa[(a n).v env sc ls e]
theorem IT{pos:Pos}:vL P mv x (n+1) sc (.ListComp elt gens scope pos) ls=aa (jk (ev P n .val) (ev P n .test) (ev P n .iter) sc elt gens scope ls) λds=>match mv.contains x with|true=>aM (.list ds)|false=>ret (.d (.list ds)):=by delta vL;cases mv.contains x with|true=>rfl|false=>rfl
theorem Er(ak:qE A k n stk L)(X:∀d,j6 P A stk L d){p pos:Pos}(O:OQ env sc o.h (aV sc))(a:At o m s₀ env sc ls stk L W σ s){d:Nat}(ns:vL P mv x d sc e ls σ≠.stuck)(u:∀v σ',vL P mv x d sc e ls σ=.ok v σ'->(f9 x ls&&aV sc x)=true){Q:a9 Flow}(t:∀v W' σ' s',vL P mv x d sc e ls σ=.ok v σ'->At o m s₀ env sc (gK x v ls) stk L W' σ' s'->Q .next s')(G:∀y cn W' σ' s',vL P mv x d sc e ls σ=.exc cn σ'->Inv W' σ' s'.heap->Step W σ s.heap W' σ' s'.heap eC->Rest s s'->ExcAt W' s.heap L y cn s'.heap->E y s'):ed MG A (e7 (.Assign [.Name x p] e pos) env) Q E s:=by
 injections A e stk k n s₀ o m p pos d Q _ env mv ls sc s W σ x E P L;erw[Vm (We (x_12 (Da (env:=env) (e:=e) (x:=x) (p:=p) (line:=pos.line)) λb hb hc=>(hb)▸(Vm (Vs ?_))))];cases b with
 |false=>erw[Vm (IS (n:=d) X W σ s a.inv a.here ns _ _ (λc v f M F j I J w hv=>?_) λy cn f M F j I J w u=>G y cn M f F j I J w u)];show ed _ _ (do ak7 c ((hX [.Name x p] env).map (·.2));pure Flow.next) _ _ _;have N:=a.step I J w;rwa[Vm (pf O N.inv N.here.fa N.st (u v f j) hv λB h2 tk2 r H f2 t2=>Vs (t v B f _ j (N.turn r H f2 t2)))]
 |true=>
  erw[(WG rfl)▸?_];cases d with
  |zero=>rwa[absurd (show vL P mv x 0 sc e ls σ=.stuck by delta vL;cases mv.contains x<;>rfl) ns]
  |succ d=>
   obtain⟨⟩:=e<;>first|(rwa[gm (hc rfl:false=true)])|skip
   ·rename Expr=>elt;rename List qt=>gens;rename e6=>scope;rename Pos=>cpos;rw[Wd (IT (P:=P) (n:=d) (sc:=sc) (ls:=ls) (mv:=mv) (x:=x) (elt:=elt) (gens:=gens) (scope:=scope) (pos:=cpos)) σ]at ns u t G;erw[Vm (WI ((Vm (tm (Q:=λY s'=>ed MG A (pure ()) (λY s'=>Q .next s') E s') ak a.inv a.here ((X d).parts elt gens) (dr ns) rfl (λD C ds M f F j c w=>?_) λy cn f M F j I J w u=>G y cn M f F (cU j) I J w u)):ed MG A (evalThenUse (.ListComp elt gens scope cpos) env (λv=>ak7 v ((hX [.Name x p] env).map (·.2)))) (λY s'=>Q .next s') E s) (λY Y z=>Vs z) λY Y z=>z)];have h:env.locals≠C/\_:=tq a c.cf;erw[ba λhG=>?_];erw[Pd (((by
     cases mv.contains x with
     |true=>
      obtain⟨r,H,hv⟩:=ph c.inv c.st c.dl c.dp c.df;rwa[LP _ _ _ rfl r H hv λb q=>⟨(c.cp b q).1,λl=>by
       rcases j0 c.inv.len l with l|z; ·rwa[(c.cp b q).2 l]
       ·rwa[c.dc (z.symm.trans q)]⟩]
     |false=>
      obtain⟨r,H,hv⟩:=tj c.inv c.st c.dl c.dp c.df;rwa[LP (.d (.list ds)) _ _ rfl r H hv λb q=>⟨fe (by
       rintro(⟨ob,e⟩|z); ·replace e:=Vn (am (c.cp b q).1) e;rwa[k_nn e]
       ·rwa[c.dc (z.symm.trans q)]),(c.cp b q).2⟩]:∃v B g,(match mv.contains x with|true=>aM (.list ds)|false=>ret (V.d (.list ds))) f=.ok v g/\Inv B g F.heap/\Step W σ s.heap B g F.heap eC/\VR B v (.ref D)/\cz B g (· =C)))) λv B g e2 r H hv T=>?_];have i:aa (jk (ev P d .val) (ev P d .test) (ev P d .iter) sc elt gens scope ls) (λds=>match mv.contains x with|true=>aM (.list ds)|false=>ret (V.d (.list ds))) σ=.ok v g:=(bX j).trans e2;have a2:=a.step r H w;rwa[hG (pf O a2.inv a2.here.fa a2.st (u v g i) hv λW3 h3 K I3 S3 f3 R=>xY c.cn λmm ob es ep U hd hr=>m_12 mm (m_33 ob es ep (R.same C ob h.1.symm (λy Y hy hz=>h.2.1 y C (.inl hy) hz rfl) U) hd hr) λZ S=>Vs (t v _ g _ i ((a2.turn (tk:=K) I3 S3 f3 R).privX (tk:=K) (P:=(· =C)) (h':=Z) (λb q=>⟨R.nF b (T b q).1 ⟨ob,(q)▸U⟩,λl=>(T b q).2 (R.ρ▸l)⟩) (λb ob' nb e=>(S.2 b nb).trans e) (λb q=>(q)▸a.st.dead c.cf) (λb q=>(q)▸(a.mks.dead c.cf)) h.1 (λy cc h1 h2=>h.2.1 y cc h1 h2) h.2.2)))]
   ·rwa[absurd (show vL P mv x (d+1) sc _ ls σ=.stuck by delta vL;cases mv.contains x<;>(obtain⟨⟩:=d<;>rfl)) ns]
   ·rwa[absurd (show vL P mv x (d+1) sc _ ls σ=.stuck by delta vL;cases mv.contains x<;>(obtain⟨⟩:=d<;>rfl)) ns]
end
end
section
open Builtin
section
variable{v:V}{p:Str->Bool}
theorem tr:∀{ls:Ls},f9 x (gK j v ls)=f9 x ls:=by intro c;induction c with|nil=>rwa[rfl]|cons a r b=>obtain⟨k,w⟩:=a;dsimp![gK];cases q:j==k with|true=>rfl|false=>dsimp![f9];rw[b]
noncomputable def tu:List (Str×V)->Ls->Ls|[],ls=>ls|(x,v)::r,ls=>tu r (gK x v ls)
theorem IU:∀{r:List (Str×V)}{ls ls':Ls},gg p r ls=ret ls'->(∀y∈r,(f9 y.1 ls&&p y.1)=true)/\ls'=tu r ls:=by
 intro f;induction f with
 |nil=>intro ls ls' h;rwa[⟨λy c=>k_mn c,(yv h).symm⟩]
 |cons d r e=>
  obtain⟨x,v⟩:=d;intro ls ls' h;dsimp![gg]at h;cases q:f9 x ls&&p x with
  |false=>rw[q]at h;rwa[absurd h nI]
  |true=>
   rw[q]at h;obtain⟨a,b⟩:=e h;erw[⟨λy c=>?_,b⟩];rcases VD.mp c with rfl|c; ·rwa[q]
   ·have:=a y c;rw[tr]at this;rwa[this]
theorem IV:∀{r:List (Str×V)}{ls:Ls},gg p r ls=RG.Internal.stq\/∃ls',gg p r ls=ret ls':=by intro c;induction c with|nil=>intro ls;rwa[.inr ⟨ls,rfl⟩]|cons a r b=>obtain⟨x,v⟩:=a;intro ls;dsimp![gg];cases f9 x ls&&p x with|false=>rwa[.inl rfl]|true=>rwa[b]
theorem qI:∀{r:List (Str×V)}{ls:Ls},(r.map (·.1)).Nodup->(∀y∈r,f9 y.1 ls=true)->(∀v,(x,v)∈r->getL x (tu r ls)=some v)/\((∀v,(x,v)∉r)->getL x (tu r ls)=getL x ls)
|[],ls,_,_=>⟨λv h=>k_mn h,λY=>rfl⟩
|(y,w)::r,ls,b,f=>by
 simp![V3,X4]at b;obtain⟨c,a⟩:=qI (r:=r) (ls:=gK y w ls) b.2 λz j=>Vn tr (f z (.tail _ j))
 erw[⟨λv hv=>?_,λhv=>?_⟩]
 ·rcases VD.mp hv with e|hv; ·injection e with i g;subst i g;have:∀u,(x,u)∉r:=λu d=>b.1 (VI.mpr (m_12 _ d rfl));rwa[(a this).trans (hH (f _ (.head _)))]
  ·rwa[c v hv]
 ·rwa[(a λu d=>hv u (.tail _ d)).trans (gh (λz=>hv w (z▸.head _):x≠y))]
theorem IW{r:List (Str×V)}(d:(r.map (·.1)).Nodup)(e:∀y∈r,f9 y.1 ls=true):getL x (tu r.reverse ls)=getL x (tu r ls):=by
 have a:=qI (x:=x) d e;have b:=qI (x:=x) ((ZX)▸List.pairwise_reverse.mpr (d.imp hg)) λy f=>e y (Y5.mp f);by_cases q:∃v,(x,v)∈r; ·obtain⟨v,hv⟩:=q;simp![a.1 v hv,b.1 v (Y5.mpr hv)]
 ·have c:∀v,(x,v)∉r:=λv hv=>q ⟨v,hv⟩;simp![a.2 c,b.2 λv hv=>c v (Y5.mp hv)]
end
section
variable{o:Mk}
theorem aT.congr(f:aT W σ env sc ls h)(e:∀x,getL x ls=getL x ls'):aT W σ env sc ls' h:=x_12 f.ns λd b c=>⟨f.sco,f.fn,f.gl,f.bu,m_12 d b λx a=>e x▸c x a,λx a=>e x▸f.cell x a,f.inj,f.priv,f.cpriv⟩
theorem At.congr(a:At o m s₀ env sc ls stk L W σ s)(e:∀x,getL x ls=getL x ls'):At o m s₀ env sc ls' stk L W σ s:=⟨a.inv,a.st,a.mks,⟨a.here.fa.congr e,a.here.stk,a.here.fid⟩,a.rs⟩
inductive LJ(M:Model)(A:kx)(env:Env):List (ea->Sem Unit)->List Str->Prop where|nil:LJ M A env [] []|cons{t ts x xs:_}:(∀c(Q:a9 Unit)(E:a8)s,ed M A (storeName env x c) Q E s->ed M A (t c) Q E s)->LJ M A env ts xs->LJ M A env (t::ts) (x::xs)
theorem LJ.names:∀{xs:List Str},LJ j A env (xs.map λn=>bindName env n) xs:=by intro b;induction b with|nil=>rwa[.nil]|cons x xs a=>rwa[.cons (λc Q E s h=>wpAny_bindName h) a]
theorem ej:∀{ts:List Expr},ts.all isName=true->LJ j A env ((hX ts env).map (·.2)) (tgtNames ts):=by
 intro b;induction b with
 |nil=>rwa[λY=>.nil]
 |cons t ts a=>
  intro h;simp![a6,Vq]at h;obtain⟨⟩:=t<;>first|(rwa[gm h.1])|skip
  rwa[.cons (λc Q E s h=>am9 h) (a h.2)]
theorem ek(O:OQ env sc o.h (aV sc)){C:List (ea->Sem Unit)}{xs:List Str}{vs:List V}{Q:a9 Unit}(z:LJ MG A env C xs)(g:xs.length=vs.length)(hv:jY W vs cs)(a:At o m s₀ env sc ls stk L W σ s)(i:∀y∈xs.zip vs,(f9 y.1 ls&&aV sc y.1)=true)(q:∀W' s',At o m s₀ env sc (tu (xs.zip vs) ls) stk L W' σ s'->Q () s'):ed MG A (af5 C cs) Q E s:=by
 induction z generalizing vs cs ls W s with
 |nil=>cases vs with|cons=>rwa[L2 g]|nil=>cases cs with|cons=>rwa[hv.elim]|nil=>rwa[Vs (q W s a)]
 | @cons t C x xs h1 h2 ih=>cases vs with|nil=>rwa[Hj g]|cons v vs=>cases cs with|nil=>rwa[hv.elim]|cons c cs=>have d:=i (x,v) (.head _);simp![Vq]at d;erw[Vm (VX (h1 c _ _ s (a.here.fa.store a.inv a.st d.1 (O.hp x d.2) hv.1 O.hL (λb f h=>O.hC x b d.2 f h) λW' F tk B j f' l w k r n=>?_)))];have D:=Turn.of (p:=aV sc) (sc':=sc) f' w k (λb ob f h e=>r b ob f (h x d.2) e) n;rwa[ih (ae4 g) (jY.step (σ:=σ) (σ':=σ) D.stepF hv.2) (a.turn (tk:=tk) B j f' D) (λy u=>by rw[tr];rwa[i y (.tail _ u)]) q]
end
end
section
open Builtin
section
variable{P:jS}{o m:Mk}{L:Nat}{d:Nat}{pos:Pos}
theorem qJ:XS A stk L env sc tree λ{α}Y Y Y Y=>RG.Internal.stq:=λi g f e o m c j W h s O a d b Q E P=>absurd b.symm d
theorem MK(j:∀d,j6 P A stk L d):XS A stk L env sc (e7 (.Expr (.Call u as ks w) pos) env) λ{α}ls kn kr kc=>aa (ev P d .val sc (.Call u as ks w) ls) λY=>kn ls:=λkn kr kc p o m k ls W l s O a n h Q E g=>by erw[wpAny_Expr_any (At.ref ((j d).v env sc ls _ W l s a.inv a.here) a h n g λb c q f r i Y Y e=>g.next ls q f r i e) ?_];show(env.scope.kind==.module&&_)=false;rw[a.here.fa.sco,a.here.fa.fn];rfl
theorem ML:XS A stk L env sc (e7 (.Pass pos) env) λ{α}ls kn kr kc=>kn ls:=λkn kr kc f o m d ls W e s O a g c Q E b=>Vm (We (Vs (b.next ls W e s a c)))
theorem Aw:XS A stk L env sc (e7 (.Continue pos) env) λ{α}ls kn kr kc=>kc ls:=λkn kr kc f o m d ls W e s O a g c Q E b=>Vm (We (Vs (b.cont ls W e s a c)))
theorem xi(H:∀ls,EV A stk L env sc ls e (me ls)):XS A stk L env sc (e7 (.Return (some e) pos) env) λ{α}ls kn kr kc=>aa (me ls) kr:=λkn kr kc n o m j ls W k s O a l h Q E g=>wpAny_Return_some (At.ref (H ls W k s a.inv a.here) a h l g λb c p i q f Y hv d=>g.ret b c p i q f.inv f.st f.rs hv d)
theorem MM(u:qE A k n stk L)(B:∀d,j6 P A stk L d):XS A stk L env sc (e7 (.Assign [.Name x D] e pos) env) λ{α}ls kn kr kc=>aa (vL P mv x d sc e ls) λv=>ng (f9 x ls&&aV sc x) (kn (gK x v ls)):=λkn kr kc p o m G ls W C s O a F g Q E i=>have j:∀v b,vL P mv x d sc e ls C=.ok v b->(f9 x ls&&aV sc x)=true/\kn (gK x v ls) b=p:=λv b c=>HH ((bX c).symm.trans g) F;Er (P:=P) (mv:=mv) (d:=d) u B O a (dr λz=>F (g.symm.trans z)) (λv b c=>(j v b c).1) (λv h b f c l=>i.next _ h b f l (j v b c).2) λy H h b f c t w r q=>i.exc y H h b f (g.symm.trans (cU c)) t (oI W C s.heap ls a.here.fa a.here.stk a.st w q) (a.rs.trans r)
theorem Sn{h i:∀{f:Type},Ls->(Ls->M f)->(V->M f)->(Ls->M f)->M f}(n:∀ls,ET A stk L env sc ls t (mt ls))(k:XS A stk L env sc (j2 u env) h)(p:XS A stk L env sc (j2 w env) i):XS A stk L env sc (e7 (.If t u w pos) env) λ{f}ls kn kr kc=>aa (mt ls) λc=>match c with|true=>h ls kn kr kc|false=>i ls kn kr kc:=λkn kr kc q o m b ls W y s O a r l Q E g=>by erw[wpAny_If (At.ref (n ls W y s a.inv a.here) a l r g λc z v d x j Y hv e=>?_)];cases c with|false=>subst hv;rwa[p kn kr kc q o m b ls v d x O j r e Q E g]|true=>subst hv;rwa[k kn kr kc q o m b ls v d x O j r e Q E g]
theorem eQ{Q:a9 Flow}(c:isName t=false)(b:v8 [t] e env=pure none)(h:ed MG A (j1 e env) (λv s₁=>ed MG A (ad6 t env v) (λY=>Q .next) E s₁) E s)(a:∀u p,t≠.Starred u p):ed MG A (e7 (.Assign [t] e pos) env) Q E s:=by
 erw[wpAny_Assign_stores (WI h (λv s₁ d=>?_) λY Y x=>x) (Au c) b];have:ak7 v ((hX [t] env).map (·.2))=ad6 t env v:=by clear h;clear b;clear c;obtain⟨⟩:=t<;>first|rfl|rwa[absurd rfl (a _ _)]
 rwa[(this)▸d]
theorem IX(w:qE A k n stk L)(B:∀d,j6 P A stk L d){p:Pos}(q:∀es k p,e≠.Tuple es k p):XS A stk L env sc (e7 (.Assign [.Tuple ts H p] e pos) env) λ{α}ls kn kr kc=>aa (ev P d .val sc e ls) λv=>optM (OD v) λx=>aa (gN (aV sc) (.Tuple ts H p) x ls) kn:=λkn kr kc M o m J ls W K s O a I y Q E j=>by
 erw[eQ rfl (Av q) (At.ref ((B d).v env sc ls e W K s a.inv a.here) a y I j λv c S i T g Y hv b=>?_) λu p z=>by cases z]
 erw[x_12 (HI b I) λx N b=>?_];rcases td (p:=aV sc) (t:=.Tuple ts H p) (d:=x) (ls:=ls)with f|⟨h,f⟩; ·rw[f]at b;rwa[absurd b.symm I]
 ·rw[f]at b;rwa[tc O w.hh f (Ee hv N) g.inv g.here.fa g.st λr R F l G D C=>j.next h r i _ (g.turn l G D C) b]
theorem At.frz{f:Dat->M α}(a:At o m s₀ env sc ls stk L W σ s)(hv:VR W j u)(h:aa (RG.Internal.frz j) f σ=w)(c:w≠.stuck):∃d W' σ',At o m s₀ env sc ls stk L W' σ' s/\Step W σ s.heap W' σ' s.heap eC/\DR W'.F d u/\f d σ'=w:=by erw[ba λb=>?_];cases e:RG.Internal.frz j σ with|ok d σ'=>rwa[b (ba λb=>gJ (yi (X:=eC) a.inv hv e) λW' i g hd=>b (gO d W' σ' (a.step i g (Rest.refl _)) g hd (by rw[<-h,bX e])))]|exc k σ'=>rwa[absurd e qv]|stuck=>rwa[absurd (show w=.stuck by rw[<-h];delta aa;rw[e]) c]
theorem MN(B:vH)(r:∀d,j6 P A stk L d):XS A stk L env sc (e7 (.Assign [.Attribute Z ε ζ] e pos) env) λ{α}ls kn kr kc=>aa (ev P d .val sc e ls) λv=>aa (ev P d .val sc Z ls) λt=>aa (frz v) λx=>aa (dn t ε x) λY=>kn ls:=λkn kr kc res o m p ls W σ s O a b F Q E f=>by
 erw[eQ rfl (pj ⟨λY Y Y z=>(by cases z),λY Y z=>by cases z⟩) (At.ref ((r d).v env sc ls e W σ s a.inv a.here) a F b f λv c K g D h Y hv l=>?_) λu ζ z=>by cases z]
 erw[Vm (VX (At.ref ((r d).v env sc ls Z K g D h.inv h.here) h l b f λt U T R V X M j n=>Vm (We (Vm (VX (ba λC=>x_34 (X.frz (hv.step M) n b) λx S H w J y k=>C (At.ref (z6 B w.inv (j.step J) y) w k b f λY Y G i N I Y Y q=>XI (f.next ls G i N I q))))))))]
theorem MO (HA:∀d,j6 P A stk L d) {i:Expr}  :
    XS A stk L env sc (e7 (.Assign [.Subscript Z i ε] e pos) env) (λ{α} ls kn kr kc=>aa (ev P d .val sc e ls) λv=>aa (ev P d .val sc Z ls) λb=>aa (ev P d .val sc i ls) λiv=>aa (frz v) λx=>aa (dq b iv x) λY=>kn ls):=λkn kr kc res o m s₀ ls W σ s O a ns hr Q E f=>by
  dsimp only at hr
  refine eQ rfl (pj ⟨λY Y Y z=>(by cases z),λY Y z=>by cases z⟩) (At.ref ((HA d).v env sc ls e W σ s a.inv a.here) a hr ns f λv c D σ1 s1 g Y hv hr1=>?_) λu ε z=>by cases z
  have:∃rl:ea->ea->List ea,ad6 (.Subscript Z i ε) env c=(do
      let b <-x9 [c] (j1 Z env)
      let iv <-x9 [c,b] (j1 i env)
      z3 ε
      x9 [c,b,iv] (setItem b iv c)
      release (rl b iv) []):=by
    obtain ⟨⟩:=i<;>first|exact ⟨λb iv=>[c,b,iv],rfl⟩|skip
    rename Option Expr=>st
    obtain ⟨⟩:=st
    · exact ⟨λb iv=>[iv,c,b],rfl⟩
    · exact ⟨λb iv=>[c,b,iv],rfl⟩
  obtain ⟨rl,this⟩:=this
  refine (this)▸?_
  refine Vm (VX (At.ref ((HA d).v env sc ls Z D σ1 s1 g.inv g.here) g hr1 ns f λb J W2 σ2 G a2 F hv2 j=>?_))
  refine Vm (VX (At.ref ((HA d).v env sc ls i W2 σ2 G a2.inv a2.here) a2 j ns f λiv M I σ3 H a3 S3 hv3 h=>?_))
  refine Vm (We (Vm (VX ?_)))
  refine ba λy=>?_
  refine x_34 (a3.frz ((hv.step F).step S3) h ns) λx K t r q hx k=>?_
  refine y ?_
  refine At.ref (Ah r.inv ((hv2.step S3).step q) (hv3.step q) hx) r k ns f λY Y B n C w Y Y l=>XI (f.next ls B n C w l)
end
end
section
open Builtin
section
variable{P:jS}{m:Mk}{d:Nat}{pos:Pos}
theorem PP{f g:Expr->Option Str}(a:∀t y,f t=some y->g t=some y):∀{ts:List Expr},(ts.filterMap f).length=ts.length->ts.filterMap f=ts.filterMap g:=by intro c;induction c with|nil=>rwa[λY=>rfl]|cons t ts b=>intro h;cases q:f t with|none=>rw[eO,q]at h;have:=Xf f ts;replace h:=Vn h ar;lia|some y=>rw[eO,q]at h;simp![ar]at h;simp![eO,eO,q,a t y q];rw[b (by lia)]
theorem vP(c:es.all (ai4 8)=false):v8 [.Tuple ts k1 p1] (.Tuple es k2 p2) env=pure none\/(tgtNames ts).length=ts.length/\v8 [.Tuple ts k1 p1] (.Tuple es k2 p2) env=pure (some (tgtNames ts)):=by
 injections k2 p1 p2 _ env ts es k1;delta v8;dsimp only;split; ·rwa[.inl rfl]
 split; ·rwa[.inl rfl]
 split; ·rwa[.inl rfl]
 rename_i b;split; ·rwa[.inl rfl]
 erw[(c)▸?_];right;rw[Wz,not_or]at b;have a:=b.1;rw[bne_iff_ne,ne_eq,Decidable.not_not]at a;have e:ai8 _ ts=tgtNames ts:=PP (λt y q=>by
  erw[ba λd=>?_];obtain⟨⟩:=t<;>first|(rwa[k_nn q];done)|skip
  erw[d ?_];dsimp only at q;split at q; ·rwa[q]
  ·rwa[k_nn q]) a;erw[⟨(e)▸a,?_⟩];rw[e];rfl
theorem Dc:∀{ts:List Expr},ts.all isName=true->(hX ts env).length=ts.length/\(hX ts env).findIdx? (·.1)=none/\(tgtNames ts).length=ts.length:=by
 intro e;induction e with
 |nil=>rwa[λY=>m_03 rfl rfl rfl]
 |cons t ts d=>
  intro h;simp![a6,Vq]at h;obtain⟨⟩:=t<;>first|(rwa[gm h.1])|skip
  rename Str=>x;rename Pos=>p;erw[mL (d h.2) λa b c=>?_];rw[show hX (.Name x p::ts) env=(false,ad6 (.Name x p) env)::hX ts env from rfl,show tgtNames (.Name x p::ts)=x::tgtNames ts from rfl];erw[m_03 (by simp[a]) (Vn ac9 ?_) (by simp[c])];simp[b]
theorem qK:∀r:List (Str×V),(r.map (·.1)).zip (r.map (·.2))=r|[]=>rfl|y::r=>by simp[qK r]
theorem jY.snoc(hv:jY W vs cs)(h:VR W j w):jY W (vs++[j]) (cs++[w]):=by
 induction vs generalizing cs with
 |nil=>cases cs with|nil=>rwa[⟨h,trivial⟩]|cons=>rwa[hv.elim]
 |cons u vs a=>cases cs with|nil=>rwa[hv.elim]|cons d cs=>rwa[⟨hv.1,a hv.2⟩]
theorem jY.reverse{b:List V}(hv:jY W b cs):jY W b.reverse cs.reverse:=by
 induction b generalizing cs with
 |nil=>cases cs with|nil=>rwa[trivial]|cons=>rwa[hv.elim]
 |cons u b a=>cases cs with|nil=>rwa[hv.elim]|cons d cs=>simp![ao0,ao0];rwa[(a hv.2).snoc hv.1]
theorem IY(n:∀d,j6 P A stk L d):∀{ts es:List Expr},es.all kZ=true->∀W σ s,Inv W σ s.heap->Here W σ env sc ls stk L s.heap->Ref A L eC W σ s (spliced (ae9 D (v7 es env))) (Fh P mv d sc ls ts es σ) (λW' Y r cs Y=>r.map (·.1)=tgtNames ts/\ts.all isName=true/\es.length=ts.length/\jY W' (r.map (·.2)) cs):=by
 intro F;induction F with
 |nil=>intro i;cases i with|nil=>rwa[λY=>λW σ s I x=>Ref.ret (a:=[]) (b:=[]) I (kS rfl rfl rfl trivial)]|cons _ _=>rwa[λY=>λW σ s I x=>b7]
 |cons t ts p=>
  intro j;cases j with
  |nil=>
   rwa[λY=>λW σ s I x=>by
    have:Fh P mv d sc ls (t::ts) []=RG.Internal.stq:=by obtain⟨⟩:=t<;>rfl
    rwa[(this)▸b7]]
  |cons e es=>
   rwa[λk=>λW σ s I x=>by
    simp![a6,Vq]at k;erw[RP (isName t) (λh=>?_) λh=>?_]
    ·have:Fh P mv d sc ls (t::ts) (e::es)=RG.Internal.stq:=by obtain⟨⟩:=t<;>first|rfl|(rwa[k_tf h])
     rwa[(this)▸b7]
    ·erw[ba λg=>?_];obtain⟨⟩:=t<;>first|(rwa[gm h])|skip
     erw[g ?_];rename Str=>y;rename Pos=>py;simp![jJ k.1,jK];erw[bl (IS n W σ s I x) λc v E W' H B u m Y r=>b6 (bl (b3 (p k.2 W' E H u (x.step m))) λcs G o z C w l q Y f=>ba λg=>g (Ref.ret l (kS ?_ ?_ (by simp[f.2.2.1]) ⟨r.step q,f.2.2.2⟩)))]; ·show y::G.map (·.1)=y::tgtNames ts;rw[f.1]
     ·erw[Vn f.2.1 ?_];rfl]
theorem FW(ak:qE A k n stk L)(HA:∀d,j6 P A stk L d):XS A stk L env sc (e7 (.Assign [.Tuple ts k1 p1] (.Tuple es k2 p2) pos) env) λ{α}ls kn kr kc=>ng (bF es&&! es.all (ai4 8)&&decide (tgtNames ts).Nodup) (aa (Fh P mv d sc ls ts es) λr=>aa (gg (aV sc) r ls) kn):=λkn kr kc res o m s₀ ls W σ s O a ns V Q E K=>by
 erw[ba λG=>?_];obtain⟨q,V⟩:=HH V ns;simp![Vq,Vq,Wn]at q;simp![Vx]at q;obtain⟨⟨hp,hc⟩,N⟩:=q;erw[G (Vm (We (Vm (Vs (Vm (Vm (We (Vm (At.ref (IY HA (fD hp).1 W σ s a.inv a.here) a V ns K λr cs U h c S S1 hv g=>rG hv λw g2 g3 B=>ba λG=>mL (Dc (env:=env) g2) λl1 l2 l3=>?_)))))))))];have i:cs.length=ts.length:=by rw[B.len,Vo,<-Vo (f:=(·.1)),w,l3]
 erw[G (YO ?_ (by simp![Wr,i,<-g3];have:=(fD hp).2;rwa[a_1 this]))];have kk:∀b ob,c.heap.get? b=some ob->(c.heap.push (dA cs 0)).get? b=some ob:=λb ob e=>Vr _ e;have Z:=Step.grow (W:=U) S.inv kk eC;have a2:At o m s₀ env sc ls stk L (grown U c.heap (c.heap.push (dA cs 0))) h {c with heap:=c.heap.push (dA cs 0)}:=S.step (s':={c with heap:=c.heap.push (dA cs 0)}) (S.inv.grow kk).2 Z ⟨rfl,rfl,rfl⟩;have u:(c.heap.push (dA cs 0)).get? c.heap.objs.size=some (dA cs 0):=VH _ rfl;have B:=jY.step Z B;rcases IV (p:=aV sc) (r:=r) (ls:=ls)with H|⟨l,H⟩; ·rw[H]at g;rwa[absurd g.symm ns]
 rw[H]at g;have g:kn l h=res:=g;obtain⟨T,b2⟩:=IU H;have t:(tgtNames ts).zip (r.map (·.2))=r:=(w)▸qK r
 generalize G:grown U c.heap (c.heap.push (dA cs 0))=W2 at Z a2 B;rcases vP (env:=env) (ts:=ts) (es:=es) (k1:=k1) (k2:=k2) (p1:=p1) (p2:=p2) hc with I|⟨hl,I⟩; ·rw[I];show ed _ _ (do ak7 _ ((hX [.Tuple ts k1 p1] env).map (·.2));pure Flow.next) _ _ _;erw[Vm (ad0 ak.hh (items:=cs.toArray) ⟨_,u,rfl,_,rfl⟩ (by simp![l1,VV,i]) l2 λv M=>?_:ed _ _ (ad6 (.Tuple ts k1 p1) env (.ref c.heap.objs.size)) _ _ _)];have j:∀b ob,(c.heap.push (dA cs 0)).get? b=some ob->v.get? b=some ob:=λb ob e=>M b ob (λz=>by rw[z]at e;have:=Wm e;rwa[absurd this (Xs _)]) e;have F:=Step.grow (W:=W2) a2.inv j eC;have R:At o m s₀ env sc ls stk L _ h {c with heap:=v}:=a2.step (s':={c with heap:=v}) (a2.inv.grow j).2 F ⟨rfl,rfl,rfl⟩;erw[ek O (ej g2) (by rw[<-w];simp) (jY.step F B) R (by rw[t];rwa[T]) λX s4 C=>Vs ?_];rw[t,<-b2]at C;rwa[K.next l X h s4 C g]
 ·rw[I];show ed _ _ (do rule "assign.swapped-stores";let items<-unpackItems (.ref c.heap.objs.size) (tgtNames ts).length none;af5 ((tgtNames ts).reverse.map λn=>bindName env n) items.reverse;pure Flow.next) _ _ _;erw[Vm (Xl (Vm ?_))];rw[show(tgtNames ts).length=cs.toArray.size by simp![hl,VV,i]];erw[wpAny_unpackItems_tuple ak.hh ⟨_,u,rfl,_,rfl⟩ λv M=>?_];have j:∀b ob,(c.heap.push (dA cs 0)).get? b=some ob->v.get? b=some ob:=λb ob e=>M b ob (λz=>by rw[z]at e;have:=Wm e;rwa[absurd this (Xs _)]) e;have F:=Step.grow (W:=W2) a2.inv j eC;have R:At o m s₀ env sc ls stk L _ h {c with heap:=v}:=a2.step (s':={c with heap:=v}) (a2.inv.grow j).2 F ⟨rfl,rfl,rfl⟩;have D:(tgtNames ts).reverse.zip (r.reverse.map (·.2))=r.reverse:=by rw[<-w,<-ZX];rwa[qK _]
  erw[Vm (ek O (xs:=(tgtNames ts).reverse) (vs:=r.reverse.map (·.2)) LJ.names (by simp[<-w]) ((by simp![ZX];rwa[(jY.step F B).reverse])) R (by rw[D];rwa[λy J=>T y (Y5.mp J)]) λX s4 C=>Vs ?_)];rw[D]at C;rwa[K.next l X h s4 (C.congr (ls':=l) λx=>(b2)▸IW ((w)▸N) λy J=>(Vq _ _▸T y J).1) g]
end
end
section
open Builtin
section
variable{P:jS}{o m:Mk}{L:Nat}{d:Nat}
abbrev kN:Ls->M LR:=λl=>RG.Internal.ret (LR.next l)
abbrev kR:V->M LR:=λv=>RG.Internal.ret (LR.ret v)
theorem tv(h:qE A k n stk L)(r:env.frame=some L)(I:Inv W σ s.heap)(d:XO W₀ σ₀ h₀ env sc stk W σ s.heap λa=>ExcAt W a L B cn s.heap)(q:∀b h2,Inv b σ h2->XO W₀ σ₀ h₀ env sc stk b σ h2 (λa=>ExcAt b a L B cn h2)->E B {s with heap:=h2}):ae2 MG A env (λe s'=>x6 MG A env E e s') B s:=zQ d λt c a g m x f i d=>sv h.fr h.hd (x.step i) r I i d λb h2 j u y z=>rn (s:={s with heap:=h2}) y j u z λl v p o w C=>q l v p (oI t c a g m x f o C.at)
theorem IZ(U:qE A k n stk L){y:∀{q:Type},Ls->(Ls->M q)->(V->M q)->(Ls->M q)->M q}(X:∀ls,ET A stk L env sc ls t (mt ls))(S:XS A stk L env sc (j2 body env) y):XS A stk L env sc (e7 (.While t body [] pos) env) λ{q}ls kn kr kc=>aa (jV mt (λls=>y ls kN kR kN) N ls) (rH kn kr):=λ{q}kn kr kc res o m s₀ ls W σ s O a ns d Q E H=>by
 erw[wpAny_While (codeAny_loop' rfl (λj s=>∃W σ ls,At o m s₀ env sc ls stk L W σ s/\aa (jV mt (λls=>y ls kN kR kN) j ls) (rH kn kr) σ=res) (λj s P=>fi P λW σ ls a d=>af8 ?_) N (m_32 W σ ls a d))];clear P;cases j with
 |zero=>rwa[absurd d.symm ns]
 |succ j=>
  have g:∀x cn W' σ'(s':eN),res=.exc cn σ'->Inv W' σ' s'.heap->XO o.W o.σ o.h env sc stk W' σ' s'.heap (λZ=>ExcAt W' Z L x cn s'.heap)->Rest s₀ s'->ae2 MG A env (λe s'=>x6 MG A env E e s') x s':=λx cn W' σ' s' e I' w I=>tv U a.here.fid I' w λi h2 u x2=>H.exc x cn i σ' _ e u x2 ⟨I.gens,I.drawn,I.os⟩;have d:aa (mt ls) (λt=>aa (match t with
  |true=>aa (y ls kN kR kN) λr=>match r with|.next ls'=>jV mt (λls=>y ls kN kR kN) j ls'|.ret v=>kR v
  |false=>kN ls) (rH kn kr)) σ=res:=(fN)▸d
  erw[Vm (X ls W σ s a.inv a.here (dr (d▸ns)) _ _ (λb b' h C B D G J F T=>?_) λx cn h C B D G J F w=>?_)];rotate_left; ·rwa[g x cn C h B (by rw[<-d,cU D]) G (oI W σ s.heap ls a.here.fa a.here.stk a.st J w) (a.rs.trans F)]
  rw[bX D]at d;have R:=a.step G J F;clear D;subst T;cases b with
  |false=>rwa[Vm (XD (Vs (H.next ls C h B R d)))]
  |true=>
   rw[fN]at d;erw[Vm (S kN kR kN _ o m s₀ ls C h B O R (dr (d▸ns)) rfl _ _ ⟨λl i f z a2 p=>?_,λl i f z a2 p=>?_,λv c i f z u S2 K hv p=>?_,λx cn i f z p u w K=>?_⟩)]; ·rw[bX p.symm]at d;rwa[Vs (.inl ⟨rfl,j,ap2 j,i,f,l,a2,d⟩)]
   ·rw[bX p.symm]at d;rwa[Vs (.inl ⟨rfl,j,ap2 j,i,f,l,a2,d⟩)]
   ·rw[bX p.symm]at d;rwa[Vs (H.ret v c i f z u S2 K hv d)]
   ·rwa[g x cn i f z (by rw[<-d,cU p]) u w K]
abbrev xj(sc:e6)(t:Expr)(fb:∀{α:Type},Ls->(Ls->M α)->(V->M α)->(Ls->M α)->M α):Dat->Ls->M LR:=λx ls=>aa (gN (aV sc) t x ls) λls'=>fb ls' kN kR kN
theorem I0(ak:qE A k n stk L){w:∀{α:Type},Ls->(Ls->M α)->(V->M α)->(Ls->M α)->M α}(Hb:XS A stk L env sc (j2 body env) w)(X:pr=true->isTup t=true)(O:OQ env sc o.h (aV sc))(I:∀b∈fp,o.h.get? b=none)(hwm:∀b∈fp,m.h.get? b=none)(hfx:∀b∈fp,¬FX env sc b)(hcf:∀x c,bx sc x->env.cells.lookup x=some c->c∉fp)(hff:∀f∈stk.filterMap (·.frame),f∉fp)(ns:ε≠.stuck){Q:a9 Flow}(Z:PM stk L env sc o m s₀ ε kn kc kr Q E)(a:At o m s₀ env sc ls stk L W σ s)(g:fu W.F s.heap a2 fp wr pr xs)(hpv:cz W σ (· ∈fp))(hr:aa (forL (xj sc t w) xs ls) (rH kn kr) σ=ε):p7 MG A (.forLoop t (.ref a2) body [] env) (λr s'=>match r with|.ok f=>Q f s'|.error e=>x6 MG A env E e s') s:=by
 injections α A pr xs ls k n s W σ E body w Q _ a2 env t fp stk sc s₀ o m L wr;erw[codeAny_loop' rfl (λj s=>∃W σ ls xs,j=xs.length/\At o m s₀ env sc ls stk L W σ s/\fu W.F s.heap a2 fp wr pr xs/\cz W σ (· ∈fp)/\aa (forL (xj sc t w) xs ls) (rH kn kr) σ=ε) (λj s hI=>ba λR=>zQ hI λW σ ls xs q24 a g hpv hr=>?_) xs.length (oI W σ ls xs rfl a g hpv hr)];subst q24;erw[R (af8 ?_)];have B:∀x cn W' σ'(s':eN),ε=.exc cn σ'->Inv W' σ' s'.heap->XO o.W o.σ o.h env sc stk W' σ' s'.heap (λh1=>ExcAt W' h1 L x cn s'.heap)->Rest s₀ s'->ae2 MG A env (λe s'=>x6 MG A env E e s') x s':=λx cn W' σ' s' e I' N r'=>tv ak a.here.fid I' N λG h2 K x2=>Z.exc x cn G σ' _ e K x2 ⟨r'.gens,r'.drawn,r'.os⟩;have hl:env.locals∉wr:=λz=>hfx _ (g.sub _ z) (.inl rfl);have hc:∀x c,bx sc x->env.cells.lookup x=some c->c∉wr:=λx c h1 h2 z=>hcf x c h1 h2 (g.sub _ z);have F:∀f∈stk.filterMap (·.frame),f∉wr:=λf hf z=>hff f hf (g.sub _ z);have hPw:cz W σ (· ∈wr):=λb hb=>hpv b (g.sub b hb);cases xs with
 |nil=>rwa[Vm (We (Vm (X8 (g.stop ak.hh a.inv.stays (λb hb=>.inr (hpv b hb).1) λh' tk kk=>Vs (.inr ⟨rfl,codeAny_block (XD (Z.next ls _ σ _ (a.privX (tk:=tk) hPw kk (λb hb=>I b (g.sub b hb)) (λb hb=>hwm b (g.sub b hb)) hl hc F) hr))⟩)))))]
 |cons x xs=>
  erw[Vm (We (Vm (X8 (WI (g.turn (tgt:=t) (E:=ae2 MG A env λe s'=>x6 MG A env E e s') (Q:=λv s'=>ed MG A (do ad6 t env v match<-j2 body env with|.next|.cont=>again (.forLoop t (.ref a2) body [] env)|.brk=>pure (.done .next)|.ret v=>pure (.done (.ret v))) (λfin s'=>match fin with|.done f=>Q f s'|.again c'=>(c'=.forLoop t (.ref a2) body [] env/\∃j,j<(x::xs).length/\∃W σ ls xs,j=xs.length/\At o m s₀ env sc ls stk L W σ s'/\fu W.F s'.heap a2 fp wr pr xs/\cz W σ (· ∈fp)/\aa (forL (xj sc t w) xs ls) (rH kn kr) σ=ε)\/c'.quiet=true/\p7 MG A c' (λr s'=>match r with|.ok f=>Q f s'|.error e=>x6 MG A env E e s') s') (ae2 MG A env λe s'=>x6 MG A env E e s') s') a.inv.stays (λb hb=>(hpv b hb).1) X λv h' tk kk new=>?_) (λr s1 hq=>?_) λY Y e=>We e))))];rotate_left; ·erw[ba λR=>?_];obtain⟨v,rfl,hq⟩:=hq;rwa[R (Vm hq)]
  have Pw:=a.inv.priv (P:=(· ∈wr)) (h':=h') hPw kk;obtain⟨hd,i⟩:=new _ Pw.1 λb ob e e'=>Pw.2.2.1 b ob e (λz=>by obtain⟨o',q⟩:=g.there b (g.sub b z);replace q:=(e)▸q;rwa[k_nn q]) e';have J:=a.privX (tk:=tk) (P:=(· ∈wr)) (h':=h') hPw kk (λb hb=>I b (g.sub b hb)) (λb hb=>hwm b (g.sub b hb)) hl hc F;have hpv1:=hpv.step (Step.self a.inv (P:=(· ∈wr)) hPw kk λb ob hb Y=>i.there b (i.sub b hb)) λb hb=>g.there b hb;have hr:aa (gN (aV sc) t x ls) (λls'=>aa (aa (w ls' kN kR kN) λr=>match r with|.next ls'=>forL (xj sc t w) xs ls'|.ret v=>kR v) (rH kn kr)) σ=ε:=by rw[<-fN,<-fN];rwa[hr]
  rcases td (p:=aV sc) (t:=t) (d:=x) (ls:=ls)with hb|⟨D,hb⟩; ·rw[hb]at hr;rwa[absurd hr.symm ns]
  rw[hb]at hr;have hr:aa (w D kN kR kN) (λr=>aa (match r with|.next ls'=>forL (xj sc t w) xs ls'|.ret v=>kR v) (rH kn kr)) σ=ε:=by rw[<-fN];rwa[hr]
  erw[Vm (tc O ak.hh hb hd J.inv J.here.fa J.st λG h2 tk2 K S2 f2 t2=>?_)];have l:=J.turn (tk:=tk2) K S2 f2 t2;have ext:∀{u h U},Step G σ h2 u h U (FX env sc)->fu u.F U a2 fp wr pr xs/\cz u h (· ∈fp):=λ{u h U}S3=>by have T:=t2.stepF (σ:=σ)|>.trans S3;erw[⟨i.keep T.F λb hb ob e=>gS (T.keep b ob e (hpv1 b hb).2 (hfx b hb)) (i.noDict b hb ob e),hpv1.step T λb hb=>i.there b hb⟩]
  erw[Vm (Hb kN kR kN _ o ⟨G,σ,h2⟩ s₀ D G σ _ O ⟨l.inv,l.st,Step.refl ..,l.here,l.rs⟩ (dr (hr▸ns)) rfl _ _ ⟨λC u h H a3 e3=>?_,λC u h H a3 e3=>?_,λv c u h H S S3 r3 hv e3=>?_,λy cn u h H e3 S N r3=>?_⟩)]; ·rw[bX e3.symm]at hr;obtain⟨i3,p3⟩:=ext a3.mks;rwa[Vs (.inl ⟨rfl,xs.length,by simp,u,h,C,xs,rfl,⟨a3.inv,a3.st,l.mks.trans a3.mks,a3.here,a3.rs⟩,i3,p3,hr⟩)]
  ·rw[bX e3.symm]at hr;obtain⟨i3,p3⟩:=ext a3.mks;rwa[Vs (.inl ⟨rfl,xs.length,by simp,u,h,C,xs,rfl,⟨a3.inv,a3.st,l.mks.trans a3.mks,a3.here,a3.rs⟩,i3,p3,hr⟩)]
  ·rw[bX e3.symm]at hr;rwa[Vs (Z.ret v c u h H S S3 r3 hv hr)]
  ·rwa[B y cn u h H (by rw[<-hr,cU e3]) S N r3]
theorem PQ(ak:qE A k n stk L)(H:∀d,j6 P A stk L d){fb:∀{l:Type},Ls->(Ls->M l)->(V->M l)->(Ls->M l)->M l}(w:XS A stk L env sc (j2 body env) fb):XS A stk L env sc (e7 (.For t it body [] pos) env) λ{l}ls kn kr kc=>aa (ev P d .iter sc it ls) λZ=>optM (Pj t Z) λxs=>aa (forL (xj sc t fb) xs ls) (rH kn kr):=λ{l}kn kr kc res o m s₀ ls W σ s O a ns hr Q E v=>by
 erw[wpAny_For (At.ref ((H d).i env sc ls it W σ s a.inv a.here) a hr ns v λZ c T B S a1 G hv q=>x_12 (HI q ns) λxs U hr=>?_) (rq (dr λz=>ns (hr.symm.trans z)))];have hs:Z=.items xs\/Z=.pairs xs/\isTup t=true:=by
  rcases Z with ys|ys|i; ·rwa[.inl (VT Src.items (Vp U))]
  ·rwa[d8 U λK e=>.inr ⟨VT Src.pairs (Vp e),K⟩]
  ·rwa[nn U]
 erw[yu (X:=eC) (L:=L) a1.inv (λb=>G.dead) hv (hs.imp id (·.1)) (by intro z;cases z) _ _ (λi Y u D R e2 I2 N J j=>?_) λx cn u D R e2 Y Y Y Y=>by cases e2]
 obtain⟨rfl,rfl⟩:=Res.ok.inj e2;obtain⟨a2,fp,pr,rfl,j,p,g,hpr⟩:=j;have F:=λC(hC:s.heap.get? C=none)=>tq a hC;erw[I0 (O:=O) ak w (λz=>?_) (λb hb=>a.st.dead (g b hb)) (λb hb=>a.mks.dead (g b hb)) (λb hb z=>?_) (λx c h1 h2 z=>(F c (g c z)).2.1 x c h1 h2 rfl) (λf I z=>(F f (g f z)).2.2 f I rfl) ns v (a1.step I2 N J) j p hr]
 ·rcases hs with h|h; ·rwa[nomatch h.symm.trans (hpr z)]
  ·rwa[h.2]
 ·rwa[ag0 z (λz=>(F b (g b hb)).1 z.symm) λr=>x_12 r λy h1 h2=>(F b (g b hb)).2.1 y b (.inl h1) h2 rfl]
end
end
section
open Builtin
def iS(C e:Addr)(h:Heap):Prop:=∃dx t,h.get? e=some {cls:=.ref C,dict:=dx,data:=.fields #[.ref t,.none,.none,.none,.bool false,.none]}
structure LK(P:jS)k:Prop where
 load:∀x,P.excs.contains x=true->∃C,eG x=some C/\(x==("__debug__":Str))=false/\∀(sc:e6)(env:Env),env.scope=sc->sc.kind=.function->env.globals=ef->env.builtins=hW->sc.names.lookup x=some .globalImplicit->∀(A:kx)(s:eN)(Q:a8)(E:a8),bG.StaysIn s.heap->Q (.ref C) s->ed MG A (KX env x) Q E s
 test:∀c C y C',eG c=some C->eG y=some C'->∀(A:kx)(s:eN)(e:Addr)(oe:Obj)(Q:a9 Bool)(E:a8),bG.StaysIn s.heap->s.heap.get? e=some oe->oe.cls=.ref C->Q (y==c) s->ed MG A (excMatches (.ref e) (.ref C')) Q E s
 raise:∀x C,eG x=some C->∀(A:kx)(env:Env)(t:Sem ea)(s:eN)(Q:a9 Flow)(E:a8),A.handled=none->ed MG A t (λv s₁=>∃e,v=.ref e/\bG.StaysIn s₁.heap/\iS C e s₁.heap/\E (.ref e) s₁) E s->ed MG A (raiseStmt env (some t) none) Q E s
 cw:∀x C,eG x=some C->pd (.ref C)
 call:∀x C,eG x=some C->∀(A:kx)n(stk:List Env)L(W:St)(σ:ae)(s:eN)(cs:List ea)(Q:a8)(E:a8),qE A k n stk L->Inv W σ s.heap->bC W σ s.heap stk->cs.length=1\/cs.length=2->(∀e W' s',Inv W' σ s'.heap->Step W σ s.heap W' σ s'.heap eC->Rest s s'->s.heap.get? e=none->W'.F.get? e=none->iS C e s'.heap->Q (.ref e) s')->ed MG A (ec (.ref C) cs) Q E s
section
variable{P:jS}{o:Mk}{d:Nat}
theorem iS.at(f:iS j m h)(a:eG c=some j)(d:h₀.get? m=none)(b:W.F.get? m=none):ExcAt W h₀ L (.ref m) c h:=kT f λe t g=>LQ m _ _ rfl d b g (m_12 j a rfl) rfl (.inl rfl)
theorem I6(g:LK P k)(M:qE A k n stk L)(Z:∀d,j6 P A stk L d):XS A stk L env sc (e7 (.Raise (some (.Call (.Name x ε) args [] w)) none pos) env) λ{α}ls kn kr kc=>ng (P.excs.contains x&&sc.names.lookup x==some .globalImplicit&&bF args&&(args.length==1||args.length==2)) (aa (ao (args.map λe=>ev P d .val sc e ls)) λY=>D5 x):=λkn kr kc res o m s₀ ls W σ s O a p r Q E K=>by
 erw[ba λT=>?_];obtain⟨q,r⟩:=HH r p;rw[Vq,Vq,Vq]at q;obtain⟨⟨⟨q1,q2⟩,V⟩,J⟩:=q;erw[gJ (g.load x q1) λC t G h=>T ?_];show ed _ _ (raiseStmt env (some do let v<-j1 (.Call (.Name x ε) args [] w) env;z3 pos;pure v) none) Q E s;erw[g.raise x C t A env _ s Q E M.hh (Vm (Vm (W8 (h sc env a.here.fa.sco a.here.fa.fn a.here.fa.gl a.here.fa.bu (WA q2) A s _ E (λb ob e=>a.inv.stays b ob (a.inv.based b ob e)) ?_) G)))];have D:=fD V;erw[g.cw x C t A s w [] _ _ E (s9 D.1) ((An D.1)▸D.2) (λb ob e=>a.inv.stays b ob (a.inv.based b ob e)) ((Al (pos:=w) (f:=.ref C) (m:=λe=>ev P d .val sc e ls) D.1 (λe Y=>(Z d).v env sc ls e) a.inv a.here) (dr (r▸p)) _ _ (λN b c z u B i I H hv=>?_) λy cn c z u B i I H R=>?_)];rotate_left; ·rwa[K.exc y cn z c u (r.symm.trans (cU (f:=λY=>D5 x) B)) i (oI W σ s.heap ls a.here.fa a.here.stk a.st I R) (a.rs.trans H)]
 obtain⟨cs,U⟩:=N;cases show U=[]from hv.1;have j:=a.step i I H;rwa[⟨λb ob e=>i.stays b ob (i.based b ob e),g.call x C t A n stk L z c u cs _ E M i j.here.stk (by rw[Wz,Wb,Wb]at J;rwa[(hv.2.len.trans ((pe B).trans (Vo _)))▸J]) λe S s2 F S2 r2 X hF l=>Vm (We (Vs (Fe e rfl (λb ob e=>F.stays b ob (F.based b ob e)) l (K.exc (.ref e) x S c s2 ((bX (f:=λY=>D5 x) B).symm.trans r).symm F (oI z c u.heap ls j.here.fa j.here.stk j.st S2 (l.at t X hF)) (j.rs.trans r2)))))⟩]
theorem PR{P:List Stmt->Prop}(h:L5 m=some u)(k:∀p a j b,P [.Assign [.Name u.1 p] (.Constant (.str u.2) j b) a]):P m:=ob h λq c h=>om h λv ev h=>by rw[<-h]at k;rwa[HG c λp a=>Pq ev (P:=λe=>P [.Assign [.Name q.1 p] e a]) λj b=>k p a j b]
theorem tx(i:LK P k)(O:OQ env sc o.h (aV sc)){e:Addr}{x v:Str}{p:Pos}(d:(f9 x ls&&aV sc x)=true){st:eN}(a:At o m s₀ env sc ls stk L Wt ε st){s:eN}{Q:a9 Flow}{E:a8}(I:Inv ζ η s.heap)(S:Step Wt ε st.heap ζ η s.heap eC)(B:Rest st s)(W:bC ζ η s.heap stk)(H:kJ ζ st.heap .none (.ref e) u s.heap)(q:∀W' Z,At o m s₀ env sc (gK x (.d (.str v.cps.toList)) ls) stk L W' η Z->Q .next Z):∀{hs:List ag2},RG.Internal.clause P sc u hs=some [.Assign [.Name x p] (.Constant (.str v) j p1) p2]->ed MG A (handleBy (.ref e) env hs) Q E s
|[],f=>nn f
|.ExceptHandler ty nm l hp::hs,f=>ob f λz hd f=>d8 f λF f=>d8 hd λhn hd=>ob hd λte et hd=>om hd λy ey hd=>by
 rw[<-hd]at F f;erw[(et)▸((HF hn)▸(nB ey (P:=λte=>ed MG A (handleBy (.ref e) env (.ExceptHandler (some te) none l hp::hs)) Q E s) λpy=>?_))];rw[Vq]at F;erw[gJ (i.load y F.1) λC' M U h=>ba λK=>Pf (id H) λe' oe vs T oT ts h1 h2 h3 G r Y=>x_12 r λC hC h5=>?_];rw[<-Value.ref.inj h1]at G;have g:bG.StaysIn s.heap:=λb ob e=>I.stays b ob (I.based b ob e);erw[K (wpAny_handleBy_cons (codeAny_handlers_test (W8 (h sc env a.here.fa.sco a.here.fa.fn a.here.fa.gl a.here.fa.bu (WA F.2) _ s _ _ g (i.test u C y C' hC M _ s e oe _ _ g G h5 ?_)) U)) λz=>nomatch z)];cases X:y==u with
 |false=>rw[X]at f;rwa[(tx i O (p:=p) (p1:=p1) (p2:=p2) (j:=j) (E:=E) d a I S B W H q (hs:=hs)) f]
 |true=>
  rw[X]at f;erw[((Vp f:l=[.Assign [.Name x p] (.Constant (.str v) j p1) p2]))▸(codeAny_handlers_suite (jL W I S H λW2 n I2 S2 k2 x2=>?_))];have a2:At o m s₀ env sc ls stk L W2 η {s with heap:=n}:=a.step (s':={s with heap:=n}) I2 S2 ⟨B.gens,B.drawn,B.os⟩;erw[Yn (wpAny_Assign_Name ((Am (stk:=stk) (L:=L) (sc:=sc) (ls:=ls)) W2 η _ a2.inv a2.here (by intro z;cases z) _ _ (λc w V W3 s3 t I3 S3 r3 hv=>?_) λy u V W3 s3 t Y Y Y Y=>absurd t nofun))]
  erw[ba λK=>?_];obtain⟨rfl,rfl⟩:=Res.ok.inj t;have D:=a2.step I3 S3 r3;simp![Vq]at d;rwa[K (D.here.fa.store D.inv D.st d.1 (O.hp x d.2) hv O.hL (λb N R=>O.hC x b d.2 N R) λW4 G J I4 S4 f4 hv4 e1 e2 t e4=>XD (q W4 _ (D.turn (tk:=J) I4 S4 f4 (Turn.of (p:=aV sc) (sc':=sc) f4 e1 e2 (λb ob N R e=>t b ob N (R x d.2) e) e4))))]
theorem PS(l:LK P k)(t:qE A k n stk L)(U:∀d,j6 P A stk L d):XS A stk L env sc (e7 (.Try [.Assign [.Name x ε] e H] (ζ::hs) [] [] pos) env) λ{α}ls kn kr kc=>λσ=>match vL P mv x d sc e ls σ with|.ok v σ'=>gd (f9 x ls&&aV sc x) (kn (gK x v ls) σ')|.exc c σ'=>opt (RG.Internal.clause P sc c (ζ::hs)) λb=>opt (L5 b) λq=>gd (f9 q.1 ls&&aV sc q.1) (kn (gK q.1 (.d (.str q.2.cps.toList)) ls) σ')|.stuck=>.stuck:=λkn kr kc res o m s₀ ls W σ s O a p g Q E C=>by
 dsimp only at g;have F:∀v f,vL P mv x d sc e ls σ=.ok v f->(f9 x ls&&aV sc x)=true/\kn (gK x v ls) f=res:=λv f h=>by rw[h]at g;rwa[R9 g p]
 erw[wpAny_Try_except (Yn (Er (P:=P) (mv:=mv) (d:=d) t U O a (λz=>by rw[z]at g;rwa[p g.symm]) (λv f h=>(F v f h).1) (λv G f i h J=>XD (XD (C.next _ G f i J (F v f h).2))) λy cn G f i h K D r B=>?_))];rw[h]at g;erw[x_12 (OL g p) λb u g=>x_12 (OL g p) λq hq g=>?_];obtain⟨w,g⟩:=R9 g p;erw[sv t.fr t.hd (a.here.stk.step D) a.here.fid K D B λW2 h2 I Z k2 x2=>jL (s:={i with heap:=h2}) (fr:=none) k2 I Z x2 λW3 h3 V S k3 x3=>ba λM=>Ub (id x3) λe' oe vs T oT ts X rest=>?_];clear x2;clear B;subst X;rwa[M (PR hq (P:=λb=>RG.Internal.clause P sc cn (ζ::hs)=some b->_) (λε H j p1 u=>tx (s:={i with heap:=h3}) l O w a V S ⟨r.gens,r.drawn,r.os⟩ k3 x3 (λN s4 R=>C.next _ N f s4 R g) u) u)]
end
end
section
open Builtin
section
variable{P:jS}{L:Nat}
structure PT(P:jS)(A:kx)(stk:List Env)L(kp:Bool)(mv:List Str)(env:Env)(sc:e6)d(st:Stmt):Prop where
 go:XS A stk L env sc (e7 st env) λ{α:_}ls kn kr kc=>RG.Internal.exec P kp mv sc d st ls kn kr kc
structure So(P:jS)(A:kx)(stk:List Env)L(mv:List Str)(env:Env)(sc:e6)d(t e:Expr)(p:Pos):Prop where
 go:XS A stk L env sc (e7 (.Assign [t] e p) env) λ{α:_}ls kn Y Y=>Pi P mv sc d t e ls kn
theorem So.none(b:wY e=none)(h:XS A stk L env sc (e7 (.Assign [.Tuple ts k1 p1] e u) env) λ{α}ls kn Y Y=>aa (ev P j .val sc e ls) λv=>optM (OD v) λx=>aa (gN (aV sc) (.Tuple ts k1 p1) x ls) kn):So P A stk L mv env sc j (.Tuple ts k1 p1) e u:=by constructor;intro α kn k i f o m d ls W g s O a l c;rwa[h kn k i f o m d ls W g s O a l ((Wd ((λls kn=>by dsimp![Pi];rw[b]) ls kn) g).symm.trans c)]
theorem PT.no(e:∀{c:Type}(h:Ls)(g:Ls->M c)(i:V->M c)(b:Ls->M c)(d:ae),RG.Internal.exec P kp mv sc j u h g i b d=.stuck):PT P A stk L kp mv env sc j u:=⟨λg i b n o m k h W d s O a l f=>absurd (f.symm.trans (e h g i b d)) l⟩
variable(ok:vH)(cx:Ctx P k)(xo:LK P k)(ak:qE A k n stk L)
include ok cx xo ak
theorem PU{d:Nat}:So P A stk L mv env sc d t e m:=by
 have a:=IR (n:=n) ok cx ak;cases t with
 |Attribute _ _ _=>rwa[⟨MN (d:=d) ok a⟩]
 |Subscript _ _ _=>rwa[⟨MO (d:=d) a⟩]
 |Name _ _=>rwa[⟨MM (d:=d) ak a⟩]
 |Tuple g c f=>cases b:wY e with|none=>rwa[So.none b (IX (d:=d) ak a λh k m q=>by rw[q]at b;rwa[k_sn b])]|some h=>rwa[yh b (P:=λe=>So P A stk L mv env sc d (.Tuple g c f) e m) λY Y=>⟨FW (d:=d) ak a⟩]
 |_=>rwa[⟨qJ⟩]
theorem PV(env:Env)(sc:e6):∀d(st:Stmt),PT P A stk L kp mv env sc d st:=by
 revert k n cx xo ak kp;injections _ A stk mv P L env sc;(iterate 6 intro);intro v19;induction v19 with
 |zero=>rwa[λst=>⟨qJ⟩]
 |succ d m=>
  intro st;have i:=IR (n:=n) ok cx ak;have c:∀b:List Stmt,XS A stk L env sc (j2 b env) λ{α}ls kn kr kc=>jW (λst=>RG.Internal.exec P kp mv sc d st) b ls kn kr kc:=λb=>Ep (f:=λst{α}ls kn kr kc=>RG.Internal.exec P kp mv sc d st ls kn kr kc) λst Y=>((m) st).go;clear m;cases st with
  |Return v p=>cases v with|none=>rwa[⟨qJ⟩]|some e=>cases kp with|true=>rwa[⟨xi λls=>(i d).c env sc ls e⟩]|false=>rwa[⟨xi λls=>(i d).v env sc ls e⟩]
  |Assign ts e p=>cases h:kI ts with|none=>rwa[.no λls kn kr kc σ=>show optM (kI ts) _ σ=.stuck by rw[h];rfl]|some t=>rwa[(CC h)▸⟨(PU ok cx xo ak).go⟩]
  |For t it body oe p=>cases oe with|nil=>rwa[⟨PQ (d:=d) ak i (c body)⟩]|cons _ _=>rwa[⟨qJ⟩]
  |While t body oe p=>cases oe with|nil=>rwa[⟨IZ ak (λls=>(i d).t env sc ls t) (c body)⟩]|cons _ _=>rwa[⟨qJ⟩]
  |If t b o p=>rwa[⟨Sn (λls=>(i d).t env sc ls t) (c b) (c o)⟩]
  |Raise j a p=>cases h:raiseOf j a with|none=>rwa[.no λls kn kr kc σ=>show optM (raiseOf j a) _ σ=.stuck by simp![h];rfl]|some r=>erw[d8 h λy g=>ob g λe s g=>ob g λq u g=>d8 g λh2 g=>om g λx ex g=>?_];simp![HF y,s];rwa[CB u (P:=λe=>PT P A stk L kp mv env sc (d+1) (.Raise (some e) none p)) λw=>(oR h2)▸nB ex (P:=λf=>PT P A stk L kp mv env sc (d+1) (.Raise (some (.Call f q.2.1 [] w)) none p)) λp1=>⟨I6 (d:=d) xo ak i⟩]
  |Try body hs oe k p=>cases h:gp oe&&gp k&&!gp hs with|false=>rwa[.no λls kn kr kc σ=>show ng (gp oe&&gp k&&!gp hs) _ σ=.stuck by rw[h];rfl]|true=>simp![Vq,Vq]at h;simp![oR h.1.1,oR h.1.2];cases hs with|nil=>rwa[gm h.2]|cons hd hs=>cases l:Hr body with|none=>rwa[.no λls kn kr kc σ=>show optM (Hr body) _ σ=.stuck by rw[l];rfl]|some r=>rwa[HG l (P:=λb=>PT P A stk L kp mv env sc (d+1) (.Try b (hd::hs) [] [] p)) λp1 p2=>⟨PS (d:=d) xo ak i⟩]
  |Expr v p=>cases h:yc v with|none=>rwa[.no λls kn kr kc σ=>show optM (yc v) _ σ=.stuck by rw[h];rfl]|some r=>rwa[CB h (P:=λv=>PT P A stk L kp mv env sc (d+1) (.Expr v p)) λq=>⟨MK (d:=d) i⟩]
  |Pass p=>rwa[⟨ML⟩]
  |Continue p=>rwa[⟨Aw⟩]
  |_=>rwa[⟨qJ⟩]
theorem MP(a:Env)(c:e6)d(b:List Stmt):XS A stk L a c (j2 b a) λ{α}ls kn kr kc=>RG.Internal.execs P kp mv c d b ls kn kr kc:=Ep (f:=λst{α}ls kn kr kc=>RG.Internal.exec P kp mv c d st ls kn kr kc) λst Y=>(PV ok cx xo ak a c d st).go
end
end
section
open Builtin
section
variable{len:Nat}
noncomputable def rJ(W:St)(len:Nat):St:=⟨W.F,W.ρ.take len⟩
theorem fZ{l:List α}(h:(l.take len)[i]?=some j):i<len/\l[i]?=some j:=by
 replace h:=Vn (am List.getElem?_take) h;split at h; ·rwa[⟨‹_›,h⟩]
 ·rwa[k_nn h]
theorem Ax(l:live (σ.take len) (rJ W len).ρ a):live σ W.ρ a:=x_34 l λm x q c b e d=>gO m x q (fZ c).2 b (fZ e).2 d
theorem Inv.cut(I:Inv W σ h):Inv (rJ W len) (σ.take len) h where
 known:=I.known
 based:=I.based
 stays:=I.stays
 len:=by show(W.ρ.take len).length=(σ.take len).length;simp![WC,I.len]
 cell:=λm x q c b d=>I.cell m x q (fZ c).2 (fZ b).2 d
 off:=λa l=>I.off a (Ax l)
 apart:=λi j p q x y e c b d k g f=>I.apart i j p q x y e (fZ c).2 (fZ b).2 d k (fZ g).2 (fZ f).2
theorem Step.cut(S:Step W σ h W' σ' h' X)(b:W.ρ.length=len):Step W σ h (rJ W' len) (σ'.take len) h' X where
 F:=S.F
 ρ:=⟨[],by obtain⟨r,c⟩:=S.ρ;show W'.ρ.take len=_;simp![c,<-b];simp⟩
 newF:=S.newF
 liv:=λa l=>S.liv a (Ax l)
 keep:=S.keep
 alive:=S.alive
noncomputable def adoptP(W:St)(p:Addr×Addr):St:=⟨W.F,W.ρ++[p]⟩
theorem rt(d:W.ρ.length=σ.length)(l:live (σ++[j]) (adoptP W p).ρ a):live σ W.ρ a\/j≠.dead/\(a=p.1\/a=p.2):=by
 erw[ba λh=>x_34 l λm x q c f b g=>?_];have b:(W.ρ++[p])[m]?=some q:=b;erw[h ?_];by_cases e:m<σ.length; ·replace c:=Vn (am (VS e)) c;rw[VS (by rw[d];rwa[e])]at b;rwa[.inl (gO m x q c f b g)]
 ·replace c:=Vn (am (VU (a_1 (WP e)))) c;replace b:=Vn (am (VU (by rw[d];rwa[a_1 (WP e)]))) b;rw[ZW]at b c;split at b
  ·obtain rfl:=Vp b;split at c; ·injection c with i;subst i;rwa[.inr ⟨f,g⟩]
   ·rwa[k_nn c]
  ·rwa[k_nn b]
theorem Inv.adoptP(I:Inv W σ h)(n:O≠.dead->cz W σ λb=>b=p.1\/b=p.2)(c:O≠.dead->CR W.F h p O):Inv (adoptP W p) (σ++[O]) h:=by
 injections h _ p W σ O;have k:∀m(x:aX)(q:Addr×Addr),(σ++[O])[m]?=some x->(W.ρ++[p])[m]?=some q->σ[m]?=some x/\W.ρ[m]?=some q\/m=σ.length/\x=O/\q=p:=λm x q e s=>by
  by_cases v:m<σ.length; ·replace e:=Vn (am (VS v)) e;rw[VS ((I.len)▸v)]at s;rwa[.inl ⟨e,s⟩]
  ·rw[VU (a_1 (WP v))]at e;rw[VU ((I.len)▸(a_1 (WP v)))]at s;have:m-σ.length=0:=by cases hd:m-σ.length with|zero=>rfl|succ i=>rw[hd]at e;rwa[k_nn e]
   rw[this]at e;rw[I.len,this]at s;simp at e s;rwa[.inr (m_03 (by grind) e.symm s.symm)]
 have B:∀{m:Nat}{x:aX}{q:Addr×Addr},O≠.dead->σ[m]?=some x->x≠.dead->W.ρ[m]?=some q->q.1≠p.1/\q.1≠p.2/\q.2≠p.1/\q.2≠p.2:=λt g f d=>kS (λz=>(n t _ (.inl rfl)).2 (z▸cF g f d (.inl rfl))) (λz=>(n t _ (.inr rfl)).2 (z▸cF g f d (.inl rfl))) (λz=>(n t _ (.inl rfl)).2 (z▸cF g f d (.inr rfl))) λz=>(n t _ (.inr rfl)).2 (z▸cF g f d (.inr rfl));erw[⟨I.known,I.based,I.stays,by simp[RG.Internal.adoptP,I.len],λm x q g f d=>?_,λa l=>?_,λi j q r x y A g f d w J G=>?_⟩]
 ·rcases k m x q g f with⟨u,o⟩|⟨_,rfl,rfl⟩; ·rwa[I.cell m x q u o d]
  ·rwa[c d]
 ·rcases rt I.len l with l|⟨t,l⟩; ·rwa[I.off a l]
  ·rwa[(n t _ l).1]
 ·clear n;clear c;rcases k i x q g J with⟨u,o⟩|⟨M,rfl,rfl⟩<;>rcases k j y r f G with⟨C,D⟩|⟨L,rfl,rfl⟩; ·rwa[I.apart i j q r x y A u C d w o D]
  ·rwa[B w u d o]
  ·rwa[rG (B d C w D) λE K H F=>kS E.symm H.symm K.symm F.symm]
  ·lia
theorem Step.adoptP(S:Step W σ h W' σ' h' X)(b:W'.ρ.length=σ'.length)(d:j≠.dead->∀a,a=p.1\/a=p.2->live σ W.ρ a\/h.get? a=none):Step W σ h (adoptP W' p) (σ'++[j]) h' X where
 F:=S.F
 ρ:=let⟨r,e⟩:=S.ρ;⟨r++[p],by show W'.ρ++_=_;rw[e,VA]⟩
 newF:=S.newF
 liv:=λa l=>by
  rcases rt b l with l|⟨c,l⟩; ·rwa[S.liv a l]
  ·rwa[d c a l]
 keep:=S.keep
 alive:=S.alive
theorem Es(I:Inv W' σ' s'.heap)(S:Step W σ h W' σ' s'.heap X)(B:W.ρ.length=σ.length){v:V}(hv:VR W' v Z)(f:back O σ.length (.ok v σ')=ε)(c:ε≠.stuck):∃l j u,ε=.ok l j/\Inv u j s'.heap/\Step W σ h u j s'.heap X/\VR u l Z:=by
 injections I S B _ X h s' W W' σ σ' Z O ε v;erw[ba λE=>?_];cases v with
 |d x=>rwa[E (gO (.d x) (σ'.take σ.length) (rJ W' σ.length) f.symm I.cut (S.cut B) hv)]
 |cell i=>
  erw[E ?_];delta back at f;dsimp only at f;cases g:nf i σ.length with
  |true=>rw[g]at f;rwa[absurd f.symm c]
  |false=>
   rw[g]at f;erw[x_12 hv λp w A=>A▸?_];have C:σ.length<=i:=by cases ad7 i σ.length with|inl h=>replace g:=Vn (am (W9.mpr h)) g;rwa[k_tf g]|inr h=>rwa[h]
   cases O with
   |true=>
    dsimp only at f;cases n:σ'[i]? with
    |none=>rw[n]at f;rwa[absurd f.symm c]
    |some o=>
     rw[n]at f;have z:Inv (rJ W' σ.length) (σ'.take σ.length) s'.heap:=I.cut;erw[⟨.cell σ.length,_,RG.Internal.adoptP (rJ W' σ.length) p,f.symm,z.adoptP (λs b t=>⟨I.off b (cF n s w t),?_⟩) λs=>I.cell i o p n w s,(S.cut B).adoptP z.len λs a H=>S.liv a (cF n s w H),p,?_,rfl⟩]
     ·erw[λD=>x_34 D λm x q L J K k=>?_];have F:=fZ K;have y:=I.apart m i q p x o (Yl (a_2 F.1 C)) (fZ L).2 n J s F.2 w;rcases t with t|t<;>rcases k with k|k<;>(rw[t]at k); ·rwa[y.1 k.symm]
      ·rwa[y.2.2.1 k.symm]
      ·rwa[y.2.1 k.symm]
      ·rwa[y.2.2.2 k.symm]
     ·show((rJ W' σ.length).ρ++[p])[σ.length]?=_;have:(rJ W' σ.length).ρ.length=σ.length:=by rw[z.len,(by rw[WC];have:=(V2.mp n).1;lia:(σ'.take σ.length).length=σ.length)]
      simp![VU (by rw[this];rwa[VM _]),this,Ym];rfl
   |false=>dsimp only at f;cases e:RG.Internal.frz (.cell i) σ' with|ok x j=>rw[e]at f;rwa[gJ (yi (X:=X) I (v:=.cell i) (m_12 p w rfl) e) λu G M hd=>gO (.d x) _ (rJ u σ.length) f.symm G.cut ((S.trans M).cut B) hd]|exc r j=>rw[e]at f;rwa[absurd f.symm c]|stuck=>rw[e]at f;rwa[absurd f.symm c]
theorem Inv.more(I:Inv W σ h)(k:∀b ob,h.get? b=some ob->h'.get? b=some ob):Inv W σ h' where
 known:=I.known
 based:=I.based
 stays:=λa ob e=>k a ob (I.stays a ob e)
 len:=I.len
 cell:=λm x q n j l=>by cases I.cell m x q n j l with|list e c hd=>rwa[.list e (k _ _ c) hd]|dict e c g i=>rwa[.dict e (gq c k) g i]|inst o d f hd=>rwa[.inst o (k _ _ d) (k _ _ f) hd]
 off:=I.off
 apart:=I.apart
theorem Step.more(k:∀b ob,h.get? b=some ob->h'.get? b=some ob):Step W σ h W σ h' X:=⟨λY Y e=>e,⟨[],by simp⟩,λY Y e=>.inl e,λY e=>.inl e,λb ob e Y Y=>k b ob e▸Kept.refl ob,λb ob e=>⟨ob,k b ob e⟩⟩
theorem bC.more(x:bC W σ h stk)(k:∀b ob,h.get? b=some ob->h'.get? b=some ob):bC W σ h' stk:=λe i=>by erw[ba λd=>?_];obtain⟨a,f,o,p,n,m,j,c,l,g⟩:=x e i;rwa[d ⟨a,f,o,p,n,m,k _ _ j,c,l,g⟩]
theorem vQ:∀{f:List (Str×hP)}{n:Nat}{acc:List (Str×Addr)},(x,as2)∈f\/(acc.lookup x).isSome=true->((ak5 n f acc).lookup x).isSome=true:=by
 intro g;induction g with
 |nil=>intro _ _ h;rcases h with h|h;rwa[k_mn h];rwa[h]
 |cons b r c=>
  obtain⟨y,i⟩:=b;intro n acc h;dsimp![ak5];split
  ·erw[c ?_];rcases h with h|h
   ·rcases VD.mp h with h|h; ·injection h with a;subst a;rwa[.inr (by simp[hR])]
    ·rwa[.inl h]
   ·erw[.inr ?_];dsimp![hR];split; ·rfl
    ·rwa[h]
  ·rename_i d;erw[c ?_];rcases h with h|h
   ·rcases VD.mp h with h|h; ·injection h with a e;subst a e;rwa[absurd rfl d]
    ·rwa[.inl h]
   ·rwa[.inr h]
theorem xk:∀{l:List (Str×hP)},getL x (l.map λy=>(y.1,none))=none:=by
 intro b;induction b with
 |nil=>rwa[rfl]
 |cons y r a=>
  show(match x==y.1 with|true=>none|false=>getL x (r.map λy=>(y.1,none)))=none;cases x==y.1; ·rwa[a]
  ·rfl
theorem FY:∀{xs:List Str}{vs:List V}{cs:List ea}{ls ls':Ls}{m cm:Str->Option ea},sO xs vs ls=some ls'->jY W vs cs->xs.length=cs.length->(∀x∈xs,kindOf x=some .local\/kindOf x=some .cell)->(∀x,kindOf x=some .local->lc W (getL x ls) (m x))->(∀x,kindOf x=some .cell->lc W (getL x ls) (cm x))->(∀x,kindOf x=some .local->lc W (getL x ls') (bindL kindOf (xs.zip cs) m x))/\∀x,kindOf x=some .cell->lc W (getL x ls') (bindC kindOf (xs.zip cs) cm x):=by
 injections _ W kindOf;intro u;induction u with
 |nil=>
  intro k;cases k with
  |nil=>intro l;cases l with|nil=>intro _ _ _ _ h _ _ _ i t;injection h with s;subst s;rwa[⟨i,t⟩]|cons _ _=>intro _ _ _ _ _ hv _ _ _ _;rwa[hv.elim]
  |cons _ _=>intro _ _ _ _ _ h _ _ _ _ _;rwa[k_nn h]
 |cons y xs r=>
  intro j;cases j with
  |nil=>intro _ _ _ _ _ h _ _ _ _ _;rwa[k_nn h]
  |cons v vs=>
   intro n;cases n with
   |nil=>intro _ _ _ _ _ hv _ _ _ _;rwa[hv.elim]
   |cons c cs=>
    intro ls ls' m cm h hv o p i t;dsimp![sO]at h;cases a:f9 y ls with
    |false=>replace h:=(a)▸h;rwa[k_nn h]
    |true=>
     replace h:=(a)▸h;simp![ag3];dsimp![bindL,bindC];have d:∀x,x=y->lc W (getL x (gK y v ls)) (some c):=λx e=>by cases e;rwa[(hH a)▸hv.1]
     have b:∀x,x≠y->getL x (gK y v ls)=getL x ls:=λx e=>gh e;have g:∀x∈xs,kindOf x=some .local\/kindOf x=some .cell:=λx a=>p x (.tail _ a);rcases p y (.head _)with f|f
     ·rw[WG f,WG f];erw[r h hv.2 (by simpa using o) g (λx a=>?_) λx a=>?_]
      ·by_cases e:x=y; ·rw[WG e];rwa[d x e]
       ·rw[WO e,b x e];rwa[i x a]
      ·have e:x≠y:=λz=>by rw[z,f]at a;rwa[nomatch a]
       rwa[(b x e)▸t x a]
     ·have q: ¬kindOf y=some .local:=by rw[f];rwa[λz=>nomatch z]
      rw[WO q,WO q];erw[r h hv.2 (by simpa using o) g (λx a=>?_) λx a=>?_]
      ·have e:x≠y:=λz=>by rw[z,f]at a;rwa[nomatch a]
       rwa[(b x e)▸i x a]
      ·by_cases e:x=y; ·rw[WG e];rwa[d x e]
       ·rw[WO e,b x e];rwa[t x a]
end
end
section
open Builtin
structure I7(f:Fn)(v:ea):Prop where
 here:∃a o fd,v=.ref a/\bG.get? a=some o/\o.data=.func fd/\fd.body=.stmts f.body/\fd.scope=f.sc/\fd.closure=[]/\fd.globals=ef/\fd.builtins=hW/\bG.CodeRec fd.code fd.qualname/\∀vals:List ea,vals.length=f.params.length->L0 fd ⟨vals,[]⟩=pure (f.params.zip vals)
 kind:f.sc.kind=.function
 co:f.sc.isCoroutine=false
 gen:f.sc.isGenerator=false
 nofree:∀x,f.sc.names.lookup x≠some .free
 par:∀x∈f.params,f.sc.names.lookup x=some .local\/f.sc.names.lookup x=some .cell
section
variable{P:jS}
theorem FZ:∀{xs:List Str}{vs:List V}{ls ls':Ls},sO xs vs ls=some ls'->xs.length=vs.length:=by
 intro e;induction e with
 |nil=>intro b;cases b with|nil=>intro _ _ _;rwa[rfl]|cons _ _=>intro _ _ h;rwa[k_nn h]
 |cons x xs d=>intro a;cases a with|nil=>intro _ _ h;rwa[k_nn h]|cons v vs=>intro ls ls' h;dsimp![sO]at h;cases c:f9 x ls with|false=>replace h:=(c)▸h;rwa[k_nn h]|true=>replace h:=(c)▸h;simp[d h]
theorem qL(ok:vH)(cx:Ctx P k)(xo:LK P k)(lim:bG.NoLimit)(hh:A.handled=none)(hu:A.units+3+200*k+350<ah2)(hd:A.depth+1+4*k<=900)(hfr:A.frames=some stk){f:Fn}(E:I7 f v)(I:Inv W σ s.heap)(sk:bC W σ s.heap stk)(hv:jY W vs cs)(ns:nh P f vs σ≠.stuck)(p:∀v c σ' W' s',nh P f vs σ=.ok v σ'->Inv W' σ' s'.heap->Step W σ s.heap W' σ' s'.heap eC->Rest s s'->VR W' v c->R (.ok (.ret c)) s')(u:∀x cn σ' W' s',nh P f vs σ=.exc cn σ'->Inv W' σ' s'.heap->Step W σ s.heap W' σ' s'.heap eC->Rest s s'->(∀L,ExcAt W' s.heap L x cn s'.heap)->R (.error x) s'):p7 MG A (.call v ⟨cs,[]⟩) R s:=by
 injections v cx xo hh hu hd hfr _ A stk cs k R s W σ P vs f;erw[ba λC=>?_];obtain⟨a,ob,fd,rfl,ho,N,U,t,hclo,hgl,hbu,O,M⟩:=E.here;have r:bG.StaysIn s.heap:=λb o e=>I.stays b o (I.based b o e);erw[C ?_];delta nh at ns p u;erw[Co (sO f.params vs (Ec f.sc)) (λw=>?_) λls w=>?_]; ·rw[w]at ns;rwa[absurd rfl ns]
 ·rw[w]at ns p u;dsimp only at ns p u;have F:cs.length=f.params.length:=by rw[hv.len,<-FZ w]
  have g:∀x,f.sc.names.lookup x=some .cell->∀i,((ak5 i f.sc.names []).lookup x).isSome=true:=λx G i=>vQ (.inl (mem_lookup G));erw[codeAny_call_cells (fd:=fd) (body:=f.body) (binds:=f.params.zip cs) (by have:recursionLimit=1000:=rfl;rwa[a_2 hd (so this)]) (r _ _ ho) N (lim.keeps r) (O.keeps r) U (M cs F) hclo (λx G=>?_) (λs₁ x=>?_) ((t)▸E.co) ((t)▸E.gen) ((t)▸E.kind)]
  ·erw[(t)▸?_];rcases E.par _ (aq7 G).1 with h|h; ·rwa[.inl h]
   ·rwa[.inr ⟨h,g _ h _⟩]
  generalize hE:callEnvC fd s.heap.objs.size a=env at x;have eL:env.locals=s.heap.objs.size:=by rw[<-hE];rfl
  have eS:env.scope=f.sc:=by rw[<-hE,<-t];rfl
  have eF:env.frame=some env.locals:=by rw[<-hE];rfl
  have eK:∀y,env.kindOf y=f.sc.names.lookup y:=λy=>by delta x8;rw[eS]
  erw[kT x.toInCall.same λh1 tk1 q112=>?_];subst q112;have kk:∀b o,s.heap.get? b=some o->h1.get? b=some o:=x.toInCall.keep;have S1:Step W σ s.heap W σ h1 eC:=Step.more kk;have d:∀b,s.heap.get? b=none->cz W σ (· =b):=λb w c e=>by
   subst e;erw[⟨?_,λl=>?_⟩]; ·cases q:W.F.get? c with|none=>rfl|some o=>replace w:=Vn (am (I.stays c o q)) w;rwa[k_sn w]
   ·obtain⟨o,q⟩:=I.lt l;replace q:=Vn (am w) q;rwa[k_nn q]
  have B:s.heap.get? env.locals=none:=(eL)▸bb _
  have hCf:∀y c,env.cells.lookup y=some c->s.heap.get? c=none/\c≠env.locals:=λy c D=>by have:=x.above y c (mem_of_lookup D);rwa[⟨Xg (by rw[eL]at this;rwa[YM this]),WQ this⟩]
  obtain⟨p1,p2⟩:=FY (W:=W) (kindOf:=env.kindOf) (m:=λY=>none) (cm:=λY=>none) w hv (by rw[F]) (λy j=>by rw[eK];rwa[E.par y j]) λy Y=>by rw[show getL y (Ec f.sc)=none from xk];trivial λy Y=>by rw[show getL y (Ec f.sc)=none from xk];trivial
  have sk1:bC W σ h1 (env::stk):=λe he=>by
   rcases VD.mp he with rfl|he; ·rwa[ba λC=>bw x.toInCall.ns λo es ep q1 q2 Y=>C ⟨(by rw[eS,E.kind];intro z;cases z),_,o,es,ep,eF,q1,q2,(d _ B _ rfl).1,(d _ B _ rfl).2⟩]
   ·rwa[(sk.more kk) e he]
  have ak:qE (A.deeper env) k 10 (env::stk) env.locals:=⟨hh,by show A.units+3+200*k+300+4*10<ah2;rwa[a_1 hu],by show A.depth+1+4*k<=900;omega,by show A.frames.map (env:: ·)=_;rw[hfr];rfl,env,stk,rfl,eF⟩;have a1:At ⟨W,σ,s.heap⟩ ⟨W,σ,s.heap⟩ s env f.sc ls (env::stk) env.locals W σ {s with heap:=h1,toks:=tk1}:=⟨I.more kk,S1,S1.mono λY z=>z.elim,⟨by
   erw[⟨eS,E.kind,by rw[<-hE,<-hgl];rfl,by rw[<-hE,<-hbu];rfl,m_12 _ x.toInCall.ns λy j=>p1 y (by rw[eK];rwa[j]),λy j=>?_,λy z c j hz h1 h2=>name_of_addr x.apart (mem_of_lookup h1) (mem_of_lookup h2),d _ B,λy c j D=>?_⟩]
   ·rcases j with j|j; ·erw[V7 (V4.mp (g y j (s.heap.objs.size+1))) λc D=>?_];rw[<-(by rw[<-hE,<-t];rfl:env.cells=ak5 (s.heap.objs.size+1) f.sc.names [])]at D;rwa[rF c _ D (x.cell y c D) (p2 y (by rw[eK];rwa[j]))]
    ·rwa[absurd j (E.nofree y)]
   ·obtain⟨Z,g2⟩:=hCf y c D;rwa[m_03 (d c Z c rfl).1 (d c Z c rfl).2 g2],sk1,eF⟩,⟨rfl,rfl,rfl⟩⟩;have nsb:RG.Internal.execs P f.keep f.mv f.sc Pk f.body ls (λY=>RG.Internal.ret (V.d .none)) (λv=>RG.Internal.ret v) (λY=>RG.Internal.stq) σ≠.stuck:=λz=>ns (by rw[z];rfl);have H:W.ρ.length=σ.length:=I.len;erw[MP (k:=k) (n:=10) ok cx xo ak env f.sc Pk f.body (λY=>RG.Internal.ret (V.d .none)) (λv=>RG.Internal.ret v) (λY=>RG.Internal.stq) _ _ _ s ls W σ _ ⟨B,λy c Y Y D=>(hCf y c D).1,λy j=>by delta aV at j;rw[Wz,Wb,Wb]at j;rwa[j]⟩ a1 nsb rfl _ _ ⟨λls2 W2 J X a2 Q=>?_,λls2 W2 J X a2 Q=>?_,λv c W2 J X I2 S2 r2 hv2 Q=>?_,λx cn W2 J X Q I2 G r2=>?_⟩]; ·rw[<-Q]at ns p;rwa[x_34 (Es a2.inv a2.st H (v:=.d .none) DR.none rfl ns) λv2 S W3 Z g2 g3 g4=>p v2 .none S W3 X Z g2 g3 a2.rs g4]
  ·rwa[absurd Q.symm nsb]
  ·rw[<-Q]at ns p;rwa[ba λC=>x_34 (Es I2 S2 H hv2 rfl ns) λv2 S W3 Z g2 g3 g4=>C (p v2 c S W3 X Z g2 g3 r2 g4)]
  ·rw[Q]at u;erw[ba λC=>zQ G λW4 σ4 h4 ls4 f4 k4 K S4 G=>C (C4 ak.fr ak.hd (k4.step S4) eF I2 S4 G λW5 h5 I5 S5 k5 x5=>u x cn _ (rJ W5 σ.length) {X with heap:=h5} rfl I5.cut ((K.trans S5).cut H) ⟨r2.gens,r2.drawn,r2.os⟩ λL=>ba λC=>?_)];obtain⟨e,oe,vs',T,oT,ts,q1,q2,q3,q4,q5,q6,q7,q8,q9⟩:=x5;have:kJ (rJ W5 σ.length) s.heap .none x cn h5:=⟨e,oe,vs',T,oT,ts,q1,K.dead q2,q3,q4,q5,q6,q7,K.dead q8,q9⟩;rwa[C this.at]
theorem PW(o:vH)(l:Ctx P k)(p:LK P k)(j:bG.NoLimit)(a:qE A (k+1) n stk L)(t:I7 u v)(I:Inv W σ s.heap)(r:bC W σ s.heap stk)(hv:jY W vs cs):Ref A L eC W σ s (ec v cs) (nh P u vs σ) RV:=λz Q E q e=>by
 rwa[YB (qL o l p j a.hh (by have:=a.un;rwa[a_1 this]) (by have:=a.dp;rwa[a_1 this]) a.fr t I r hv z (λv c f w y h i b g d=>q c v f w y h i b g d) λx B f w y h i b g m=>e x B f w y h i b g (m L))]
end
end
section
open Builtin
structure Et(c:Str)(C:Addr):Prop where
 cls:cG c=some C
 makes:makesIn kG C=true
 init:∃fI f,kt kG (.ref C) "__init__"=some (some (.ref fI))/\ah8 kG (.ref fI)=some (.type "function")/\fnAt (iu c `__init__)=some f/\I7 f (.ref fI)
section
variable{P:jS}
theorem I8(U:vH)(R:Ctx P k)(Z:LK P k)(N:bG.NoLimit)(w:qE A (k+1) n stk L){C:Addr}(H:Et c C)(I:Inv W σ s.heap)(sk:bC W σ s.heap stk)(hv:jY W vs cs):Ref A L eC W σ s (ec (.ref C) cs) (Pm P c vs σ) RV:=λV Q E q e=>by
 erw[LZ H.init λfI f h1 h2 h3 O=>?_];delta Pm at V q e;rw[h3]at V q e;dsimp only at V q e;have X:kG.In s.heap:=λa o z=>I.stays a o (I.known a o z);obtain⟨h,g,d,tk,os⟩:=s;erw[YB (make_core (makes_of (M:=MG) X H.makes) (Z1 X h1) (λt=>bind_fn X t h2) (.inl rfl) (hJ (λT u=>?_) (I.make (h':=(h.push v9).push (ak9 C h.objs.size)) (p:=(h.objs.size+1,h.objs.size)) (o:=.inst c [] []) (X:=eC) (λb x z=>Vr _ (Vr _ z)) (Xg (YE _)) (bb _) (λz=>by cases z) λkF=>.inst H.cls (by have:=VH (h.push v9) (o:=ak9 C h.objs.size) rfl;rw[Wy]at this;rwa[this]) (Vr _ (VH _ rfl)) .nil)))];have j:(made W h ((h.push v9).push (ak9 C h.objs.size)) (h.objs.size+1,h.objs.size)).ρ[σ.length]?=some (h.objs.size+1,h.objs.size):=by show(W.ρ++[_])[σ.length]?=_;rw[VU ((I.len)▸VM _),I.len,Ym];rfl
 erw[qL (s:=⟨(h.push v9).push (ak9 C h.objs.size),g,d,tk,os⟩) U R Z N (A:=A.under (.builtin "type.__call__" ⟨.ref C::cs,[]⟩)) w.hh (by erw[(show(A.under (.builtin "type.__call__" ⟨.ref C::cs,[]⟩)).units=A.units+1 from rfl)▸?_];have:=w.un;rwa[a_1 this]) (by erw[(show(A.under (.builtin "type.__call__" ⟨.ref C::cs,[]⟩)).depth=A.depth+1 from rfl)▸?_];have:=w.dp;rwa[a_1 this]) w.fr O T (sk.step u) (show jY (made W h ((h.push v9).push (ak9 C h.objs.size)) (h.objs.size+1,h.objs.size)) (.cell σ.length::vs) (.ref (h.objs.size+1)::cs)from⟨m_12 _ j rfl,jY.step u hv⟩) (λz=>V (by rw[z])) (λv cv m F K J B y l D=>?_) λx cn m F K J B y l G=>?_]
 ·rw[J]at V q e;cases v with
  |cell i=>rwa[absurd rfl V]
  |d x=>
   obtain⟨⟩:=x<;>first|rwa[absurd rfl V]|skip
   cases D;erw[⟨rfl,q (.ref (h.objs.size+1)) (.cell σ.length) m F K rfl B (u.trans y) ⟨l.gens,l.drawn,l.os⟩ (m_12 (h.objs.size+1,h.objs.size) ?_ rfl)⟩];obtain⟨r,hr⟩:=y.ρ;rw[hr,VS ((V2.mp j).1)];rwa[j]
 ·rw[J]at V q e;erw[e x cn (m.take σ.length) (rJ F σ.length) K rfl B.cut ((u.trans y).cut I.len) ⟨l.gens,l.drawn,l.os⟩ ?_];have:=(G L).le (h₀:=h) λa=>u.dead;rwa[ba λhG=>x_34 this λe oe vs' q1 q2 q3 S=>hG (gO e oe vs' q1 q2 q3 S)]
structure OR:Prop where
 lim:bG.NoLimit
 fnOk:∀q v f,fG q=some v->(classes.map (·.1)).contains q=false->fnAt q=some f->I7 f v
 clsOk:∀q v,fG q=some v->(classes.map (·.1)).contains q=true->∃C,v=.ref C/\Et q C
structure Eu:Prop where
 ok:vH
 mok:Th jp
 bok:Se
 iok:∀c C,cG c=some C->Af kG C
 nok:Tr (Cj 0)
 big:∃a o,xd<a/\bG.get? a=some o
 cw:∀q f,fG q=some f->pd f
 its:∀T:String,T="range"\/T="zip"\/T="enumerate"->∀(sc:e6)(env:Env),env.scope=sc->sc.kind=.function->env.globals=ef->env.builtins=hW->sc.names.lookup (S T)=some .globalImplicit->∀(A:kx)(s:eN)(Q:a8)(E:a8),bG.StaysIn s.heap->Q (.type T) s->ed MG A (KX env (S T)) Q E s
 xo:∀k,LK (Cj 0) k
theorem F2(k:Nat):sN (Cj k)=sN (Cj 0):=by obtain⟨⟩:=k<;>rfl
theorem Eu.xok(b:Eu)(k j:Nat):LK (Cj j) k:=by
 have x:=b.xo k;have e:(Cj j).excs=(Cj 0).excs:=by obtain⟨⟩:=j<;>rfl
 rwa[⟨λy a=>x.load y ((e)▸a),x.test,x.raise,x.cw,x.call⟩]
theorem MQ(b:Eu)(p:OR):∀k,Ctx (Cj k) k:=by intro m;induction m with|zero=>rwa[⟨b.ok,b.mok,b.bok,b.iok,b.nok,b.big,b.cw,b.its,λY Y Y Y Y Y Y Y Y Y Y Y Y Y Y Y=>b7⟩]|succ k g=>erw[⟨b.ok,b.mok,b.bok,b.iok,⟨λx d h=>b.nok.name x d ((F2 (k+1))▸h)⟩,b.big,b.cw,b.its,λA n u L W o s q v w t r I c i hv=>?_⟩];show Ref A L eC W o s (ec v t) (sP (Cj k) q w o) RV;delta sP;cases e:(classes.map (·.1)).contains q with|true=>rwa[x_12 (p.clsOk q v i e) λC a j=>(a)▸I8 b.ok g (b.xok k k) p.lim r j I c hv]|false=>cases l:fnAt q with|none=>rwa[b7]|some f=>rwa[PW b.ok g (b.xok k k) p.lim r (p.fnOk q v f i e l) I c hv]
end
end
section
open Builtin
structure PX(M:Model)(h:Heap)(C fI:Addr):Prop where
 obj:∃oc od cd sl,h.get? C=some ⟨oc,od,.cls cd,sl⟩/\cd.hasDel=false
 call:ol M h (specialOf (.ref C) "__call__") (some (.builtin "type.__call__"))
 typ:ol M h (nc (.ref C) (.type "type")) true
 mro:∃c l,ol M h (mroOf (.ref C)) (c::l)
 made:ol M h (al2 (.ref C)) (some "Exception.__new__")
 chk:∀rest,ol M h (u6 "Exception.__new__" ⟨.ref C::rest,[]⟩) ()
 ist:ol M h (isType (.ref C)) true
 subE:ol M h (gb (.ref C) (.type "Exception")) true
 subB:ol M h (gb (.ref C) (.type "BaseException")) true
 subT:ol M h (gb (.ref C) (.type "type")) false
 here:ol M h (ak0 "BaseException.__new__" (.ref C)) ()
 noA:ol M h (gb (.ref C) (.type "AttributeError")) false
 noN:ol M h (gb (.ref C) (.type "NameError")) false
 self:ol M h (gb (.ref C) (.ref C)) true
 init:ol M h (qu (.ref C) "__init__") (some (.ref fI))
 fn:∀self,ol M h (ai2 (.ref fI) self) (.ref fI,[self])
noncomputable abbrev fj(C t:Addr):Obj:={cls:=.ref C,data:=.fields #[.ref t,.none,.none,.none,.bool false,.none]}
section
variable{w:World}{g:Array GenState}{d:Drawn}{t:Nat}{C fI:Addr}
theorem MR(X:PX (n4 prog w) h C fI){rest:List ea}(a:rest.length<=10)(o:R (.ok (.ret (.ref (h.objs.size+1)))) ⟨(h.push (dA rest 0)).push (fj C h.objs.size),g,d,t,os⟩):p7 (n4 prog w) A (.call (.builtin "Exception.__new__") ⟨.ref C::rest,[]⟩) R ⟨h,g,d,t,os⟩:=by
 injections fI X _ A h os prog R w g d t C rest;erw[ba λs=>?_];obtain⟨⟨G,H,E,sl,r,b⟩,l,q,⟨z,B,v⟩,made,c,u,m,subB,n,j,x,y,i,k,D⟩:=X;have F:=Yq;have c:=c rest;have e:=F.ends;erw[s (codeAny_call_builtin_code (ad1 _ F.quiet) ?_)];repeat lk
 erw[codeAny_builtinAt F.entry (aq3 (aq3 (PySem.wpAt_stack λp f=>ab9 ?_)))];wp_walk;erw[ab9 ((F.owner)▸?_)];repeat(first|(with_reducible erw[YO ?_ (by simp![Wr];rwa[a_1 a])])|lk)
 erw[nd_load (Vr _ (Vr _ r)) (nd_pure ?_)];dsimp only;rw[b];erw[Vs (Vs (Vs ?_))];show R _ _;rw[Wy];rwa[o]
theorem I9(X:PX (n4 prog w) h C fI){rest:List ea}(hrest:rest.length<=10)(hq:p7 (n4 prog w) (A.under (.builtin "type.__call__" ⟨.ref C::rest,[]⟩)) (.call (.ref fI) ⟨.ref (h.objs.size+1)::rest,[]⟩) (InitBack (h.objs.size+1) R) ⟨(h.push (dA rest 0)).push (fj C h.objs.size),g,d,t,os⟩):p7 (n4 prog w) A (.call (.ref C) ⟨rest,[]⟩) R ⟨h,g,d,t,os⟩:=by
 injections fI X _ A h os prog R w g d t C rest;have X':=X;obtain⟨⟨oc,od,cd,sl,hC,hdel⟩,call,typ,⟨c0,l0,mro⟩,made,chk,ist,subE,subB,subT,here,noA,noN,self,init,fn⟩:=X;erw[Z6 ?_];show ed _ _ (callAny (.ref C) _) _ _ _;erw[nd_load hC ?_];show ed _ _ (an3 (.ref C) _) _ _ _;unfold an3;erw[Vm (call.at ?_)];dsimp only;rw[tc_bind];erw[Vm (Vs (Vm (Vs (Vs (a:=Fin.again (.call (.builtin "type.__call__") ⟨.ref C::rest,[]⟩)) (w7 rfl (codeAny_call_builtin_at (ad1 _ ⋯) entry_typeCall (am5 tc_kind tc_split typ (tc_args _ _ _) ?_)))))))];unfold Builtin.«type.__call__»;repeat(first|with_reducible erw[YB ?_]|lk)
 erw[MR X' hrest ?_];have k:∀b o,h.get? b=some o->((h.push (dA rest 0)).push (fj C h.objs.size)).get? b=some o:=λb o e=>Vr _ (Vr _ e);have hx:((h.push (dA rest 0)).push (fj C h.objs.size)).get? (h.objs.size+1)=some (fj C h.objs.size):=by have:=VH (h.push (dA rest 0)) (o:=fj C h.objs.size) rfl;rw[Wy]at this;rwa[this]
 have t1:ol (n4 prog w) ((h.push (dA rest 0)).push (fj C h.objs.size)) (aj2 (.ref (h.objs.size+1))) (.ref C):=(ae6 hx).andThen .now;have s1:=self.keeps k;have i1:=init.keeps k;have b1:=(fn (.ref (h.objs.size+1))).keeps k;unfold nc callSpecial? specialOf;repeat(first|with_reducible erw[YB ?_]|lk)
 erw[Z3 hq λr s' z=>?_];rcases r with e|(v|_|_|_)<;>first|rwa[z]|rwa[z.elim]|skip
 obtain⟨rfl,z⟩:=z;rwa[Vs (Vs z)]
end
end
section
open Builtin Builtin.ObjectAttr
section
variable{w:World}{a:Str}{C e dx:Addr}{es:List Ht}
set_option tactic.hygienic true in theorem tz{M:Model}{Q:aq0->eN->Prop}(d:s.heap.get? dx=some (fY es n))(c:(lookIn a (fY es n)).isSome=true)(i:(putL a (kV M.w.params a) (.str a s.toks) v es).length<=1000)(h:∀h' j,(∀b,b≠dx->h'.get? b=s.heap.get? b)->h'.get? dx=some (fY (putL a (kV M.w.params a) (.str a s.toks) v es) j)->Q (.done (.ret .none)) {s with heap:=h',toks:=s.toks+1}):ed M A (storeInDict dx (.str a m) a v) Q E s:=by
 erw[Vm (Vs (Vm (Vm (Vm (Y3 (Vs (Vm (wpAny_mkText (Vm (Zw d ?_))))))))))];dsimp only;rw[Z0,((by
  rw[<-Y4,<-Y4];have c:(hU a es).isSome=true:=c;delta hU at c;split at c; ·rename_i k f;rw[Xu.mpr (m_12 k (Yo f) (Z5 f))];rfl
  ·split at c; ·rwa[gm c]
   ·rename_i z;simp![Bool.not_eq_true]at z;simp![z,aa6]:(!es.toArray.any (·.key.isStr a)&&es.toArray.any (·.refKey))=false))];erw[ao6 d ?_];have e:(s.heap.update dx (Obj.putName a (kV M.w.params a) (.str a s.toks) v)).get? dx=some (fY (putL a (kV M.w.params a) (.str a s.toks) v es) (putN a es n)):=by erw[(WH _ d ?_).trans ?_]<;>rw[putName_dict .. ];rfl
 rwa[Vm (ao7 e (ao9 (by rw[VV,Wr];rwa[a_1 i])) (Vs (h _ _ (λb g=>V6 _ _ (hg g)) e)))]
structure PY(K:Frag)(C:Addr):Prop where
 setattr:kt K (.ref C) "__setattr__"=some (some (.builtin "object.__setattr__"))
 mro:∃B,(aj6 K C).map (·.mro)=some [.ref C,.ref B,.type "Exception",.type "BaseException",.type "object"]
 has:ah9 K C=true
theorem Dd(a:ea)(C B:Addr):refuseLoop a "__setattr__" [.ref C,.ref B,.type "Exception",.type "BaseException",.type "object"]=pure ():=by kernel_rfl
variable{K:Frag}{vs:Array ea}
theorem Ew(X:K.In s.heap)(x:PY K C)(G:am3 K C (.type "object")=some true)(ha:kt K (.ref C) a=some none)(i:s.heap.get? e=some oe)(y:oe.cls=.ref C)(hd:oe.data=.fields vs)(f:oe.dict=none/\es=[]\/∃n,oe.dict=some dx/\dx≠e/\s.heap.get? dx=some (fY es n)/\(lookIn a (fY es n)).isSome=true)(V:∀t h,(putL a h (.str a t) v es).length<=1000){Q:a9 Unit}(q:∀h' tk c hs t n,(∀b o,b≠e->(oe.dict=some b->False)->s.heap.get? b=some o->h'.get? b=some o)->h'.get? e=some {oe with dict:=some c}->c≠e->h'.get? c=some (fY (putL a hs (.str a t) v es) n)->oe.dict=some c\/s.heap.get? c=none->Q () {s with heap:=h',toks:=tk}):ed (n4 prog w) A (setAttr (.ref e) a v) Q E s:=by
 injections X x G ha i y hd f V _ A oe prog s v E w a C e dx es K vs Q;erw[V7 x.mro λB Z=>x_12 (Ww.mp Z) λcd g k=>x_12 (any_some x.has) λcd' d p=>?_];replace d:=(g)▸d;injection d with h9;subst h9;obtain⟨od,I⟩:=(by
  erw[ag0 f (λN=>hJ (λh Y=>?_) N) λD=>LY D λn L h2 R T=>?_]; ·rwa[⟨none,i,y,by delta notCls;rw[hd],by erw[(h)▸?_];trivial⟩]
  ·rwa[⟨some (fY es n),i,y,by delta notCls;rw[hd],(L)▸R⟩]:∃od,InstAt s.heap e oe C od);have j:=PySem.F.store_object;erw[set_plain X I x.setattr ?_];have P:InstAt (pk {s with toks:=s.toks+1}) e oe C od:=I;have r:K.In (pk {s with toks:=s.toks+1}):=X;have O:ol (n4 prog w) (pk {s with toks:=s.toks+1}) (nc (.ref e) (.type "object")) true:=P.type.andThen (looks_mroIn r G);erw[Yh j.slot.plain j.entry (@check_slot (n4 prog w) _ _ {s with toks:=s.toks+1} "object.__setattr__" "object" "__setattr__" (.ref e) [.str a s.toks,v] [] _ j.kind j.split O (j.args (.ref e) (.str a s.toks) v) ?_)];have hm:ol (n4 prog w) (pk {s with toks:=s.toks+1}) (mroOf (.ref C)) cd.mro:=(af7 r g).andThen .now;simp![osa_eq];dsimp![refuse_eq];erw[Vm (Vm (P.type.here (Vm (hm.here ?_))))];simp![k,Dd];have L3:ol (n4 prog w) (pk {s with toks:=s.toks+1}) (storeTaker? none) none:=.now;erw[Vs (Vm (P.type.here (Vm ((Z1 r ha).here (Vm (L3.here (Vm (Vs (Vm (Vm (Zw (o:=oe) i ?_)))))))))))];obtain⟨oc,odi,W,l⟩:=oe;dsimp only at y hd;subst y hd;erw[Vm ((af7 r g).here ?_)];simp![p];rcases f with⟨h,F⟩|⟨n,L,h2,R,T⟩; ·subst h F;have m:(s.heap.push v9).get? e=some {cls:=.ref C,dict:=none,data:=.fields vs,slots:=l}:=Vr _ i;erw[Vm (wpAny_alloc (Vm (wpAny_update m (Vs (a:=some s.heap.objs.size) ?_))))];have H:s.heap.objs.size≠e:=WQ (Wm i);have J:((s.heap.push v9).update e λo=>{cls:=o.cls,dict:=some s.heap.objs.size,data:=o.data,slots:=o.slots}).get? s.heap.objs.size=some (fY [] 0):=(V6 _ _ (hg H)).trans (VH _ rfl);have hu:((s.heap.push v9).update e λo=>{cls:=o.cls,dict:=some s.heap.objs.size,data:=o.data,slots:=o.slots}).get? e=some {cls:=.ref C,dict:=some s.heap.objs.size,data:=.fields vs,slots:=l}:=WH _ m rfl;rwa[tz (M:=n4 prog w) (s:={s with heap:=(s.heap.push v9).update e λo=>{cls:=o.cls,dict:=some s.heap.objs.size,data:=o.data,slots:=o.slots},toks:=s.toks+1}) J rfl (V _ _) λh' S k1 k2=>q h' _ s.heap.objs.size _ _ S (λb ob U Y u=>(k1 b (Yl (Wm u))).trans ((V6 _ _ (hg U)).trans (Vr _ u))) ((k1 e (hg H)).trans hu) H k2 (.inr (bb _))]
 ·subst L;erw[Vs (a:=some dx) (tz (M:=n4 prog w) R T (V _ _) λh' S k1 k2=>q h' _ dx _ _ S (λb ob U nd u=>(k1 b λz=>nd (by simp![z])).trans u) ((k1 e (hg h2)).trans i) h2 k2 (.inl rfl))]
end
end
section
open Builtin Builtin.ObjectAttr
theorem Ja{K:Frag}{Q:ea×List ea->eN->Prop}(X:K.In s.heap)(b:aj2 (.type m)=pure (.type "type"))(d:aq5 m=false)(e:findCls K (.type m) (.type "type") j=some (.val v))(c:al7 v=true)(h:Q (v,[]) {s with toks:=s.toks+1}):ed (n4 prog w) A (getMethod (.type m) j pl) Q E s:=by have a:ol (n4 prog w) s.heap (aj2 (.type m)) (.type "type"):=as3 b;erw[Vm (Vm (a.here ((Z1 X (t:=.type "type") (r:=some (.builtin "type.__getattribute__")) type_tga).here ?_)))];dsimp only;erw[(WG canon_tga)▸(Vm (WI (Q:=λv=>Q (v,[])) (E:=E) (cls_open X (as3 (by delta opaqueClassAbove;dsimp only;erw[(d)▸?_];rfl)) a type_tga (looks_hook X (r:=none) (by rfl)) (by rfl) e (Vs (by show ed _ _ (handedOut v) _ _ _;rw[handedOut_of c];rwa[Vs h]))) (λY Y z=>Vs z) λY Y z=>z))]
theorem Ay(K:Frag):findCls K (.type "Exception") (.type "type") `__init__=some (.val (.builtin "Exception.__init__")):=∅
theorem Jb:aj2 (.type "Exception")=pure (.type "type"):=∅
theorem Jc:aq5 "Exception"=false:=⋯
section
variable{C e t:Addr}{a b:ea}{m:Str->Option ea}
theorem Jd(c:h.get? e=some (fj C t))(f:h.get? C=some ⟨oc,od,.cls cd,B⟩)(b:ol j h (gb (.ref C) (.type "Exception")) true){Q:a9 Unit}(q:Q () ⟨h,u,w,tk,os⟩):ed j A (u6 "Exception.__init__" ⟨[.ref e,a],[]⟩) Q E ⟨h,u,w,tk,os⟩:=by
 injections od os oc C t B c f b _ A cd h tk E e a j u w Q;have F:=Yq;erw[Vm ((((ae6 c).andThen .now).andThen b).at ?_)];repeat lk
 rwa[q]
theorem vT(i:s.heap.get? e=some (fj C t))(k:s.heap.get? C=some ⟨oc,od,.cls cd,u⟩)(b:ol MG s.heap (gb (.ref C) (.type "Exception")) true)(q:∀h' p,(∀c o,c≠e->s.heap.get? c=some o->h'.get? c=some o)->h'.get? e=some (fj C p)->Q .none {s with heap:=h'}):ed MG A (ec (.builtin "Exception.__init__") [.ref e,a] []) Q E s:=by
 obtain⟨h,g,d,m,n⟩:=s;have F:=Yq;erw[YB (Yh F.init.plain F.initEntry (Jd i k b (Vm (YO ?_ (by simp![Wr];show 1<=_;simp +arith only)))))];have f:(h.push (dA [a] 0)).get? e=some (fj C t):=Vr _ i;erw[Vm (Vm (V5 (s:=⟨h.push (dA [a] 0),g,d,m,n⟩) f rfl rfl (Vm (Xz (s:=⟨h.push (dA [a] 0),g,d,m,n⟩) f rfl (by show 0<6;simp +arith only) (YC (Vs (q _ h.objs.size (λc o j l=>?_) ?_)))))))]; ·rwa[Vn (V6 _ _ (hg j)) (Vr _ l)]
 ·erw[Vn (WH _ f rfl) ?_];rfl
theorem F3(X:kG.In s.heap)(x:PY kG C)(D:am3 kG C (.type "object")=some true)(H:kt kG (.ref C) `what=some none)(T:kt kG (.ref C) `at=some none)(hE:env.scope=iR.sc)(hn:s.heap.Ns env.locals m)(y:env.locals≠e)(N:m `self=some (.ref e))(m2:m `what=some a)(m3:m `at=some b)(he:s.heap.get? e=some (fj C t))(hC:s.heap.get? C=some ⟨oc,od,.cls cd,ε⟩)(W:∃o,kG.lookup C=some o)(k:kG.lookup e=none)(p:ol MG s.heap (gb (.ref C) (.type "Exception")) true)(i:∀(A:kx)(s':eN)(Q:a8)(E:a8),s'.heap=s.heap->Q (.type "Exception") s'->ed MG A (KX env `Exception) Q E s'){Q:a9 Flow}(q:∀s',(∀c o,c≠e->s.heap.get? c=some o->s'.heap.get? c=some o)->iS C e s'.heap->Rest s s'->Q .next s'):ed MG A (j2 iR.body env) Q E s:=by
 conv in iR.body=>whnf
 have kd:∀x,env.kindOf x=iR.sc.names.lookup x:=λx=>by unfold x8;rw[hE]
 have n:env.scope.kind=.function:=by rw[hE];rfl
 have k1:env.kindOf `self=some .local:=by rw[kd];decide +kernel
 have k2:env.kindOf `what=some .local:=by rw[kd];decide +kernel
 have k3:env.kindOf `at=some .local:=by rw[kd];decide +kernel
 have u:∀x:Str,x=`Exception\/x=`self\/x=`what\/x=`at->(x==("__debug__":Str))=false:=by rintro x(rfl|rfl|rfl|rfl)<;>decide +kernel
 erw[Yn (wpAny_Expr_any ?_ (by show(env.scope.kind==.module&&_)=false;rw[n];rfl))];rw[arm_eval_Call];erw[Vm (En rfl (W8 (i _ _ _ _ rfl (Vm (We ?_))) (u _ (.inl rfl))))];unfold methodCall;rw[show ai3 _ _ _=true from rfl];unfold calleeOf methodCallPos;erw[Vm (VX ?_)];rw[WG rfl];erw[Ja (v:=.builtin "Exception.__init__") X Jb Jc (Ay _) rfl ?_];show ed _ _ ((if(!true||(5:Nat)==5)=true then _ else _)>>=_) _ _ _;rw[WG #v[]];erw[Vm (Vs (ZV rfl (evalArgs_plain ?_)))];show ed _ _ (j1 _ env>>=λv=>pure [v]>>=λd=>x9 d (j1 _ env>>=λv=>pure [v]>>=λd=>x9 d (pure [])>>=λr=>pure (d++r))>>=λr=>pure (d++r)) _ _ _;have w:(pk {s with toks:=s.toks+1}).Ns env.locals m:=hn;erw[Vm (W8 (WZ n k1 w N (Vm (Vs (Vm (VX (Vm (W8 (WZ n k2 w m2 (Vm (Vs (Vm (VX (Vs (Vs (Vs ?_)))))))) (u _ (.inr (.inr (.inl rfl))))))))))) (u _ (.inr (.inl rfl))))];show ed _ _ (ec (.builtin "Exception.__init__") [.ref e,a] []) _ _ _;erw[vT (s:={s with toks:=s.toks+1}) he hC p λG t1 l he1=>?_];show ed _ _ (j2 _ env) _ _ _;have neC:C≠e:=λz=>by obtain⟨o,g⟩:=W;rw[z,k]at g;cases g
 have X1:kG.In G:=λc o g=>l c o (λz=>by rw[z,k]at g;cases g) (X c o g);have j:G.Ns env.locals m:=fi hn λo es V q1 P=>m_32 o es V (l _ _ y q1) P;erw[Yn (eQ rfl rfl (W8 (WZ n k2 j m2 (Vm (VX (W8 (WZ n k1 j N (Vm (We (Vm (VX (Ew (s:={s with heap:=G,toks:=s.toks+1}) (es:=[]) (dx:=0) X1 x D H he1 rfl rfl (.inl ⟨rfl,rfl⟩) λt h=>by show 1<=1000;simp +arith only λh2 Z K hs2 t2 n2 f I nd2 L U=>?_)))))) (u _ (.inr (.inl rfl))))))) (u _ (.inr (.inr (.inl rfl))))) λY Y z=>by cases z)];erw[XI ?_];show ed _ _ (j2 _ env) _ _ _;have f:∀c o,c≠e->G.get? c=some o->h2.get? c=some o:=λc o B=>f c o B λz=>by cases z
 have X2:kG.In h2:=λc o g=>f c o (λz=>by rw[z,k]at g;cases g) (X1 c o g);have F:h2.Ns env.locals m:=fi j λo es V q1 P=>m_32 o es V (f _ _ y q1) P;have M:G.get? K=none:=by rcases U with z|z;cases z;rwa[z]
 erw[Yn (eQ rfl rfl (W8 (WZ n k3 F m3 (Vm (VX (W8 (WZ n k1 F N (Vm (We (Vm (VX (Ew (s:={s with heap:=h2,toks:=Z}) (es:=putL `what hs2 (.str `what t2) a []) (dx:=K) X2 x D T I rfl rfl (.inr ⟨n2,rfl,nd2,L,rfl⟩) λt h=>by show 2<=1000;simp +arith only λh3 tk3 d3 hs3 t3 n3 O J nd3 hd3 fr3=>?_)))))) (u _ (.inr (.inl rfl))))))) (u _ (.inr (.inr (.inr rfl))))) λY Y z=>by cases z)];erw[XI (XD (q _ (λc o B eo=>?_) ⟨some d3,t1,J⟩ ⟨rfl,rfl,rfl⟩))];have R:=l c o B eo;rwa[O c o B (λz=>by have z:some K=some c:=z;cases z;rw[M]at R;cases R) (f c o B R)]
end
end
section
open Builtin Builtin.ObjectAttr
structure OS(fI:Addr):Prop where
 here:∃o fd,bG.get? fI=some o/\o.data=.func fd/\fd.body=.stmts iR.body/\fd.scope=iR.sc/\fd.closure=[]/\fd.globals=ef/\fd.builtins=hW/\bG.CodeRec fd.code fd.qualname/\(∀(s:eN)(e a:ea),bG.StaysIn s.heap->BindsTo s fd ⟨[e,a],[]⟩ [(`self,e),(`what,a),(`at,.none)])/\∀(s:eN)(e a b:ea),bG.StaysIn s.heap->BindsTo s fd ⟨[e,a,b],[]⟩ [(`self,e),(`what,a),(`at,b)]
structure Az(fI C:Addr):Prop where
 k:∀h,kG.In h->PX MG h C fI
 s:PY kG C
 cls:∀h,kG.In h->∃od cd sl,h.get? C=some ⟨.type "type",od,.cls cd,sl⟩
 inK:∃o,kG.lookup C=some o
 mo:am3 kG C (.type "object")=some true
 a1:kt kG (.ref C) `what=some none
 a2:kt kG (.ref C) `at=some none
 tup:∀h,kG.In h->ol MG h (nc (.ref C) (.type "tuple")) false
section
variable{e:Addr}
theorem Je{M:Model}(a:h.get? e=some oe)(hd:oe.data=.fields vs):ol M h (isType (.ref e)) false:=(ae6 a).andThen ((hd)▸.now)
theorem F4(x:Az fI C)(f:A.handled=none){Q:a9 Flow}(h:ed MG A u (λv s₁=>∃e,v=.ref e/\kG.In s₁.heap/\iS C e s₁.heap/\E (.ref e) s₁) E s):ed MG A (raiseStmt env (some u) none) Q E s:=by
 erw[Vm (WI h (λv s₁ n=>ba λb=>?_) λY Y x=>x)];obtain⟨e,rfl,X,⟨q,j,a⟩,c⟩:=n;obtain⟨i,g,d,r,p⟩:=s₁;erw[Pc (x.cls _ X) λt o sl k=>?_];have subB:=(x.k _ X).subB;have m:ol MG i (aj2 (.ref e)) (.ref C):=(ae6 a).andThen .now;have l:=Je (M:=MG) a rfl;erw[b ?_];repeat lk
 rwa[ac4 ((f)▸ab0 c)]
theorem Jf(x:Az w u)(a:∀h,kG.In h->ol MG h (gb (.ref C) (.ref u)) B)(X:kG.In s.heap)(i:s.heap.get? e=some oe)(k:oe.cls=.ref C){Q:a9 Bool}(q:Q B s):ed MG A (excMatches (.ref e) (.ref u)) Q E s:=by
 injections s w B x a i k _ A oe E e u C Q;obtain⟨l,g,d,c,b⟩:=s;have K:=x.k _ X;have f:=x.tup _ X;have j:=K.ist;have subB:=K.subB;have a:=a _ X;have m:ol MG l (aj2 (.ref e)) (.ref C):=(ae6 i).andThen ((k)▸.now);obtain⟨⟩:=B
 ·repeat lk
  rwa[q]
 ·repeat lk
  rwa[q]
theorem Sp{C:Prop}:∀{cs:List α}(_:cs.length=1\/cs.length=2)(_:∀a,cs=[a]->C)(_:∀a b,cs=[a,b]->C),C:=by intro f;induction f with|nil=>rwa[λh Y Y=>h.elim nofun nofun]|cons a d e=>clear e;cases d with|nil=>rwa[λY x Y=>x a rfl]|cons b c=>cases c with|nil=>rwa[λY Y x=>x a b rfl]|cons _ _=>rwa[λh Y Y=>h.elim nofun nofun]
theorem Jg(F:OS fI)(x:Az fI C)(U:bG.NoLimit)(j:∀(sc:e6)(env:Env),env.scope=sc->sc.kind=.function->env.globals=ef->env.builtins=hW->sc.names.lookup `Exception=some .globalImplicit->∀(A:kx)(s:eN)(Q:a8)(E:a8),bG.StaysIn s.heap->Q (.type "Exception") s->ed MG A (KX env `Exception) Q E s)(ak:qE A k n stk L)(I:Inv W σ s.heap)(cs:List ea)(G:cs.length=1\/cs.length=2)(q:∀e W' s',Inv W' σ s'.heap->Step W σ s.heap W' σ s'.heap eC->Rest s s'->s.heap.get? e=none->W'.F.get? e=none->iS C e s'.heap->Q (.ref e) s'):ed MG A (ec (.ref C) cs) Q E s:=by
 obtain⟨o,fd,ho,m,r,h,V,N,B,p,D,M⟩:=F.here;have X:kG.In s.heap:=λa o z=>I.stays a o (I.known a o z);obtain⟨c,g,d,tk,os⟩:=s;have f:bG.StaysIn c:=λb o e=>I.stays b o (I.based b o e);erw[YB (I9 (fI:=fI) (x.k _ X) (by lia) ?_)];have k1:∀b o,c.get? b=some o->((c.push (dA cs 0)).push (fj C c.objs.size)).get? b=some o:=λb o e=>Vr _ (Vr _ e);have i:c.get? (c.objs.size+1)=none:=Xg (YE _);erw[Pc (x.cls _ X) λod cd sl hC=>kT ((show∀J:eN,bG.StaysIn J.heap->∃a b,BindsTo J fd ⟨.ref (c.objs.size+1)::cs,[]⟩ [(`self,.ref (c.objs.size+1)),(`what,a),(`at,b)]fromλJ b1=>Sp G (λa e=>e▸nv a .none (D _ _ _ b1)) λa b e=>e▸nv a b (M _ _ _ _ b1)) ⟨(c.push (dA cs 0)).push (fj C c.objs.size),g,d,tk,os⟩ λb o e=>k1 b o (f b o e)) λa b l=>codeAny_call_def (s:=⟨(c.push (dA cs 0)).push (fj C c.objs.size),g,d,tk,os⟩) (by rw[show(A.under (.builtin "type.__call__" ⟨.ref C::cs,[]⟩)).depth=A.depth+1 from rfl];have:=ak.dp;have:recursionLimit=1000:=rfl;lia) (k1 _ _ (f _ _ ho)) m ((U.keeps f).keeps k1) ((p.keeps f).keeps k1) r l (by rw[h];decide +kernel) (by rw[h];intro y hy;simp![VD,ap5,YQ]at hy;rcases hy with rfl|rfl|rfl<;>(dsimp only;decide +kernel)) (λO T u=>?_) (by rw[h];rfl) (by rw[h];rfl) (by rw[h];rfl)];generalize v:callEnv fd ((c.push (dA cs 0)).push (fj C c.objs.size)).objs.size fI=env;have eL:env.locals=((c.push (dA cs 0)).push (fj C c.objs.size)).objs.size:=by rw[<-v];rfl
 have Z:env.scope=iR.sc:=by rw[<-v,<-h];rfl
 have kk:∀b o,c.get? b=some o->O.get? b=some o:=λb o e=>u b o (k1 b o e);have X0:kG.In O:=λa o z=>kk a o (X a o z);erw[F3 (s:=⟨O,g,d,_,os⟩) (a:=a) (b:=b) (e:=c.objs.size+1) (t:=c.objs.size) X0 x.s x.mo x.a1 x.a2 Z (eL▸T) (by simp![eL,Wy,Wy];rwa[ZU _]) ∅ ∅ ∅ (u _ _ (by have:=VH (c.push (dA cs 0)) (o:=fj C c.objs.size) rfl;rw[Wy]at this;rwa[this])) (kk _ _ hC) x.inK (by cases e:kG.lookup (c.objs.size+1)with|none=>rfl|some o=>have:=X _ _ e;replace this:=Vn (am i) this;rwa[k_nn this]) (x.k _ X0).subE (λA' s' Q' E' P w=>j _ env Z rfl (by rw[<-v,<-N];rfl) (by rw[<-v,<-B];rfl) ⋯ A' s' Q' E' (by simp![P];rwa[λb o e=>kk b o (f b o e)]) w) λs' R H K=>⟨rfl,?_⟩];have kf:∀b o,c.get? b=some o->s'.heap.get? b=some o:=λb o e=>R b o (λz=>by rw[z,i]at e;rwa[k_nn e]) (kk b o e);have hF:W.F.get? (c.objs.size+1)=none:=by cases e:W.F.get? (c.objs.size+1)with|none=>rfl|some o=>have:=I.stays _ _ e;rw[i]at this;rwa[k_nn this]
 rwa[q _ W s' (I.more kf) (Step.more kf) ⟨K.gens,K.drawn,K.os⟩ i hF H]
end
end
section
open Builtin Builtin.ObjectAttr
structure Sq(K:Frag)(f:Fn)(a:Addr):Prop where
 here:∃o fd,K.lookup a=some o/\o.data=.func fd/\fd.body=.stmts f.body/\fd.scope=f.sc/\fd.closure=[]/\fd.globals=ef/\fd.builtins=hW/\(∃c oc vs t,fd.code=.ref c/\K.lookup c=some oc/\oc.data=.fields vs/\vs[1]?=some (.str fd.qualname t))/\∀vals:List ea,vals.length=f.params.length->L0 fd ⟨vals,[]⟩=pure (f.params.zip vals)
 cls:ah8 K (.ref a)=some (.type "function")
structure nJ:Prop where
 top:∀x∈fy,nsIn kG ef x.1=some (some (.ref x.2))
 cls:∀x∈dP,nsIn kG ef x.1=some (some (.ref x.2))
 exc:∀x∈fx,nsIn kG ef x.1=some (some (.ref x.2))
 bi:∀x∈jq,nsIn kG ef x.1=some none
 its:∀T:String,T="range"\/T="zip"\/T="enumerate"\/T="Exception"->nsIn kG ef (S T)=some none
 consts:∀x∈jF,∃v,nsIn kG ef x.1=some (some v)/\∀F,DR F x.2 v
 fns:∀x∈fy,∀f,fnAt x.1=some f->Sq kG f x.2
 meths:∀x∈c5,∀C,dP.lookup x.1=some C->kt kG (.ref C) x.2.1=some (some (.ref x.2.2))/\attrOk x.1 x.2.1=false/\ah8 kG (.ref x.2.2)=some (.type "function")
 mfns:∀x∈c5,∀f,fnAt (iu x.1 x.2.1)=some f->Sq kG f x.2.2
 cok:∀x∈dP,HV kG x.1 x.2/\Af kG x.2/\makesIn kG x.2=true
 big:∃o,kG.lookup ef=some o
 keep:∀x∈fy++dP++fx,al5 kG (.ref x.2)=true
 keepM:∀x∈c5,al5 kG (.ref x.2.2)=true
 init:∃o fd,kG.lookup 29=some o/\o.data=.func fd/\fd.body=.stmts iR.body/\fd.scope=iR.sc/\fd.closure=[]/\fd.globals=ef/\fd.builtins=hW/\(∃c oc vs t,fd.code=.ref c/\kG.lookup c=some oc/\oc.data=.fields vs/\vs[1]?=some (.str fd.qualname t))/\(∀(S:l4)(e a:ea),peek kG S (L0 fd ⟨[e,a],[]⟩)=some [(RG.Internal.S "self",e),(RG.Internal.S "what",a),(RG.Internal.S "at",.none)])/\∀(S:l4)(e a b:ea),peek kG S (L0 fd ⟨[e,a,b],[]⟩)=some [(RG.Internal.S "self",e),(RG.Internal.S "what",a),(RG.Internal.S "at",b)]
 excs:∀x∈fx,Az 29 x.2
 sub:∀x∈fx,∀y∈fx,subIn kG (.ref x.2) (.ref y.2)=some (y.1==x.1)
end
section
open Builtin Builtin.ObjectAttr
section
variable{K:Frag}
theorem De(X:K.In s.heap)(c:nsIn K ef x=some (some v))(e:env.scope=sc)(a:sc.kind=.function)(b:env.globals=ef)(d:sc.names.lookup x=some .globalImplicit)(q:Q v s):ed j A (KX env x) Q E s:=by rw[loadName_read ((e)▸a) (by delta x8;rwa[(e)▸d])];delta loadGlobal;rw[b];rwa[Vm ((looks_nsIn X c).here (Vs q))]
theorem Df(X:K.In s.heap)(e:nsIn K ef x=some none)(g:env.scope=sc)(a:sc.kind=.function)(b:env.globals=ef)(d:env.builtins=hW)(f:sc.names.lookup x=some .globalImplicit)(c:s.heap.Ns hW mb)(hv:mb x=some v)(q:Q v s):ed j A (KX env x) Q E s:=by rw[loadName_read ((g)▸a) (by delta x8;rwa[(g)▸f])];delta loadGlobal;rw[b,d];rwa[Vm ((looks_nsIn X e).here (Vm (wpAny_nsGet c ((hv)▸Vs q))))]
theorem xl(i:kA.lookup q=some v):(q,v)∈jq\/(∃a,v=.ref a/\(q,a)∈fy)\/(∃a,v=.ref a/\(q,a)∈dP)\/∃c m a,v=.ref a/\q=iu c m/\(c,m,a)∈c5:=by
 injections q v;have:=mem_lookup i;unfold kA at this;rw[VJ,VJ,VJ]at this;rcases this with((h|h)|h)|h; ·rwa[.inl h]
 ·erw[x_12 (VI.mp h) λg b k=>?_];obtain⟨x,a⟩:=g;clear i;obtain⟨rfl,rfl⟩:=XU k;rwa[.inr (.inl (m_12 a rfl b))]
 ·erw[x_12 (VI.mp h) λj b k=>?_];obtain⟨x,a⟩:=j;injection k with f e;subst f e;rwa[.inr (.inr (.inl (m_12 a rfl b)))]
 ·erw[x_12 (VI.mp h) λd b k=>?_];obtain⟨c,m,a⟩:=d;clear i;clear h;injection k with f e;subst f e;rwa[.inr (.inr (.inr (m_33 c m a rfl rfl b)))]
noncomputable def PZ(f:Fn):Bool:=f.sc.kind==.function&&!f.sc.isCoroutine&&!f.sc.isGenerator&&f.sc.names.all (λy=>y.2 !=.free)&&f.params.all λx=>f.sc.names.lookup x==some .local||f.sc.names.lookup x==some .cell
def tA(q:Str):Bool:=match fnAt q with|some f=>PZ f|none=>true
theorem P0:(fy.map (·.1)).all tA=true:=⋯
theorem Ex:(c5.map λx=>iu x.1 x.2.1).all tA=true:=⋯
theorem Ss:jq.all (λx=>(fnAt x.1).isNone)=true:=⋯
theorem Dg:kA.all (λx=>al7 x.2)=true:=⋯
def MS:Bool:=dP.all λx=>((classes.lookup x.1).getD []).all λm=>c5.any λy=>y.1==x.1&&y.2.1==m&&decide (kA.lookup (iu x.1 m)=some (.ref y.2.2))
theorem Jh:MS=true:=⋯
theorem P3:dP.all (λx=>(classes.map (·.1)).contains x.1)=true:=⋯
theorem MT:dP.all (λx=>c5.any λy=>y.1==x.1&&y.2.1==`__init__)=true:=⋯
theorem F5:c5.all (λx=>(fnAt (iu x.1 x.2.1)).isSome)=true:=⋯
theorem Ji(x:Str×Str×Addr)(a:x∈c5):∃f,fnAt (iu x.1 x.2.1)=some f:=by have h:=VK.mp F5 x a;cases e:fnAt (iu x.1 x.2.1)with|some f=>rwa[⟨f,rfl⟩]|none=>replace h:=(e)▸h;rwa[gm h]
theorem lookup_none{l:List (Str×hP)}(h:l.all λy=>y.2 !=.free=true)(x:Str):l.lookup x≠some .free:=λe=>by have:=VK.mp h _ (mem_lookup e);trivial
theorem Sq.ok(x:Sq kG B a)(X:kG.In bG)(f:PZ B=true):I7 B (.ref a):=by injections a B;erw[ba λh=>?_];obtain⟨o,z,r,C,w,d,m,i,l,⟨c,A,D,t,e,v,q,g⟩,j⟩:=x.here;erw[h ?_];delta PZ at f;simp![Vq,Wn,Wb]at f;obtain⟨⟨⟨⟨k,u⟩,b⟩,s⟩,p⟩:=f;erw[⟨⟨a,o,z,rfl,X _ _ r,C,w,d,m,i,l,Ff c A D t e (X _ _ v) q g,j⟩,k,u,b,λy=>lookup_none s y,λy n=>?_⟩];have:=VK.mp p y n;simp![Wz]at this;simp![Wb,Wb]at this;rwa[this]
theorem Jj(k:nJ)(X:kG.In bG)(b:qr bG mG):OR where
 lim:=b.lim
 fnOk:=λq v f i j e=>by
  rcases xl i with d|⟨a,rfl,d⟩|⟨a,rfl,d⟩|⟨c,m,a,rfl,rfl,d⟩; ·have:=VK.mp Ss _ d;simp![(rfl),e]at this;rwa[gm this]
  ·have hs:=VK.mp P0 q (VI.mpr (m_12 _ d rfl));unfold tA at hs;rw[e]at hs;rwa[(k.fns _ d f e).ok X hs]
  ·have:=VK.mp P3 _ d;simp![(rfl),j]at this;rwa[gm this]
  ·have hs:=VK.mp Ex (iu c m) (VI.mpr (m_12 _ d rfl));unfold tA at hs;rw[e]at hs;rwa[(k.mfns _ d f e).ok X hs]
 clsOk:=λq v i j=>by
  obtain⟨C,h⟩:=(by
   have:(classes.map (·.1)).all (λx=>(dP.lookup x).isSome)=true:=by decide +kernel
   rwa[V4.mp (VK.mp this q (V9.mp j))]);erw[⟨C,by
   have:dP.all (λx=>match kA.lookup x.1 with|some (.ref a)=>a==x.2|_=>false)=true:=by decide +kernel
   have:=VK.mp this _ (mem_lookup h);replace this:=(show kA.lookup q=some v from i)▸this;obtain⟨⟩:=v<;>first|rwa[gm this]|skip
   rw[WA this],h,(k.cok _ (mem_lookup h)).2.2,?_⟩];have:=VK.mp MT _ (mem_lookup h);erw[ba λo=>x_12 (Xu.mp this) λg d l=>?_];obtain⟨c,m,a⟩:=g;simp![Vq,Wb,Wb]at l;clear this;clear i;clear j;obtain⟨rfl,rfl⟩:c=q/\m=`__init__:=l;erw[mL (k.meths _ d C h) λp Y n=>?_];have hs:=VK.mp Ex (iu c `__init__) (VI.mpr (m_12 _ d rfl));obtain⟨f,e⟩:=Ji _ d;erw[o ?_];unfold tA at hs;rw[e]at hs;rwa[Hg a f p n e ((k.mfns _ d f e).ok X hs)]
end
end
section
open Builtin Builtin.ObjectAttr
section
theorem MU:jq.all (λx=>mn x.2.ctorIdx 9||Nat.beq x.2.ctorIdx 8)=true:=⋯
theorem Jk(x:Str×ea)(a:x∈jq):(∃i,x.2=.builtin i)\/∃i,x.2=.type i:=((Wz _ _).mp (VK.mp MU x a)).elim (λh=>.inl (Value.builtin.elim (motive:=λv=>∃i,v=.builtin i) x.2 (WU h) λi=>⟨i,rfl⟩)) λh=>.inr (Value.type.elim (motive:=λv=>∃i,v=.type i) x.2 (WU h) λi=>⟨i,rfl⟩)
theorem mq(X:kG.In bG)(f:al5 kG (.ref a)=true):pd (.ref a):=λA s k first c Q E g Y h d=>callWith_of (P:=bG.StaysIn) (by rw[g];rfl) (λi j=>keeps_K f i λb o e=>j b o (X b o e)) d
theorem Jl:pd (.builtin j):=λA s c first b Q E d Y e a=>ZV d (WI a (λY Y x=>x.2) λY Y x=>x)
theorem Jm:pd (.type j):=λA s e first b Q E c Y d a=>PyProof.Rows.callWith_type c (WI a (λY Y x=>x.2) λY Y x=>x)
theorem F6{P:jS}(e:sN P x=some d):P.consts.lookup x=some d\/d=.fn x/\(P.fns.contains x=true\/sq.contains x=true):=by
 injections d _ x P;delta sN at e;split at e; ·injection e with a;rwa[a▸(.inl ‹_›)]
 ·split at e; ·rename_i h;injection e with a;subst a;rwa[.inr ⟨rfl,by simp![Wz]at h;rwa[h]⟩]
  ·rwa[k_nn e]
theorem Jn:oP.all (λx=>(fy++dP).any λy=>y.1==x&&decide (kA.lookup x=some (.ref y.2)))=true:=⋯
theorem Jo:sq.all (λx=>jq.any λy=>y.1==x&&decide (kA.lookup x=some y.2))=true:=⋯
theorem MV(d:oP.contains x=true):∃a,((x,a)∈fy\/(x,a)∈dP)/\kA.lookup x=some (.ref a):=by erw[x_12 (Xu.mp (VK.mp Jn x (V9.mp d))) λb f c=>?_];obtain⟨y,a⟩:=b;simp![Vq,Wb]at c;obtain⟨e,g⟩:=c;clear d;subst e;rwa[m_12 a (VJ.mp f) (VF g)]
theorem MW(c:sq.contains x=true):∃v,(x,v)∈jq/\kA.lookup x=some v:=by erw[x_12 (Xu.mp (VK.mp Jo x (V9.mp c))) λa d b=>?_];obtain⟨y,v⟩:=a;rw[Vq,Wb]at b;obtain⟨e,f⟩:=b;have e:y=x:=e;clear c;subst e;rwa[m_12 v d (VF f)]
theorem P4 (k:nJ) (X:kG.In bG) (b:qr bG mG):Tr (Cj 0) where
  name:=λx d hd sc env i h2 j l g=>by
    rcases F6 hd with e|⟨rfl,e|e⟩
    · refine x_12 (k.consts _ (mem_lookup e)) λv n m=>?_
      exact (m_12 v (λF Y=>m F) (λA s Q E c q=>De (λa o z=>c a o (X a o z)) n i h2 j g q))
    · refine x_12 (MV e) λa f h=>?_
      exact (m_12 (.ref a) (λF Y=>DR.fn h) (λA s Q E c q=>De (λa o z=>c a o (X a o z)) (f.elim (k.top _) (k.cls _)) i h2 j g q))
    · refine x_12 (MW e) λv f h=>?_
      exact (m_12 v (λF Y=>DR.fn h) (λA s Q E c q=>Df (λa o z=>c a o (X a o z)) (k.bi _ f) i h2 j l g (b.ns.keeps c) (b.bi _ f) q))
theorem P5(k:nJ):Th jp where meth:=λc C m q h b=>by delta jp at b;cases e:classes.lookup c with|none=>replace b:=(e)▸b;rwa[k_nn b]|some ms=>replace b:=(e)▸b;dsimp only at b;cases d:ms.contains m with|false=>replace b:=(d)▸b;rwa[k_nn b]|true=>replace b:=(d)▸b;injection b with n;erw[n▸?_];have:=VK.mp Jh _ (mem_lookup h);dsimp only at this;replace this:=(e)▸this;erw[ba λj=>x_12 (Xu.mp (VK.mp this m (V9.mp d))) λf s g=>?_];obtain⟨u,t,a⟩:=f;simp![Vq,Vq,Wb,Wb]at g;obtain⟨⟨p,h2⟩,r⟩:=g;cases p;cases h2;rwa[mL (k.meths _ s C h) λl o i=>j (Fe a (VF r) l i o)]
theorem P6:Se:=⟨∅,∅,∅,∅,∅,∅,∅,∅,∅,∅,∅⟩
theorem Jp(k:nJ)(X:kG.In bG):OS 29:=by
 erw[ba λh=>?_];obtain⟨o,x,r,B,v,d,m,j,l,⟨c,y,C,t,f,u,p,g⟩,i,n⟩:=k.init;rwa[h ⟨o,x,X _ _ r,B,v,d,m,j,l,Ff c y C t f (X _ _ u) p g,λs e a w=>λM A E Q q=>(Wk (λb o z=>w b o (X b o z)) (i _ e a)).here q,λs e a b w=>λM A E Q q=>(Wk (λb o z=>w b o (X b o z)) (n _ e a b)).here q⟩]
theorem P7(k:nJ)(X:kG.In bG)(b:qr bG mG)n:LK (Cj 0) n where
 load:=λx d=>by
  have f:oO.all (λx=>(fx.lookup x).isSome&&! x==`__debug__)=true:=by decide +kernel
  have:=VK.mp f x (V9.mp d);simp![Vq,Wn]at this;obtain⟨C,p⟩:=V4.mp this.1;rwa[ia C p this.2 λsc env f h2 h i m A s Q E g q=>De (λa o z=>g a o (X a o z)) (k.exc _ (mem_lookup p)) f h2 h m q]
 test:=λc C y G F r A s e oe Q E g w B q=>Jf (k.excs _ (mem_lookup r)) (λh' u=>looks_subIn u (k.sub _ (mem_lookup F) _ (mem_lookup r))) (λa o z=>g a o (X a o z)) w B q
 raise:=λx C d A env t s Q E D l=>F4 (k.excs _ (mem_lookup d)) D (WI l (λv s₁⟨e,f,h2,h,i⟩=>Fe e f (λa o z=>h2 a o (X a o z)) h i) λY Y z=>z)
 cw:=λx C d=>mq X (k.keep _ (VJ.mpr (.inr (mem_lookup d))))
 call:=λx C d A n stq L W σ s cs Q E ak I H j q=>Jg (Jp k X) (k.excs _ (mem_lookup d)) b.lim (λsc env f h2 h i m A s Q E g q=>Df (λa o z=>g a o (X a o z)) (k.its _ (by simp)) f h2 h i m (b.ns.keeps g) (b.its _ (by simp)) q) ak I cs j q
theorem Jq(k:nJ)(X:kG.In bG)(b:qr bG mG):Eu where
 ok:=⟨λc C h=>(k.cok _ (mem_lookup h)).1,λf v g=>VK.mp Dg _ (mem_lookup g)⟩
 mok:=P5 k
 bok:=P6
 iok:=λc C h=>(k.cok _ (mem_lookup h)).2.1
 nok:=P4 k X b
 big:=by obtain⟨o,t⟩:=k.big;rwa[m_22 ef o #v[] (X _ _ t)]
 cw:=λq f g=>by
  rcases xl g with d|⟨a,rfl,d⟩|⟨a,rfl,d⟩|⟨c,m,a,rfl,rfl,d⟩
  ·rcases Jk _ d with⟨i,e⟩|⟨i,e⟩<;>(clear g;subst e); ·rwa[Jl]
   ·rwa[Jm]
  ·rwa[mq X (k.keep _ (VJ.mpr (.inl (VJ.mpr (.inl d)))))]
  ·rwa[mq X (k.keep _ (VJ.mpr (.inl (VJ.mpr (.inr d)))))]
  ·rwa[mq X (k.keepM _ d)]
 its:=λT l sc env w h2 u p r A s Q E j q=>Df (λa o z=>j a o (X a o z)) (k.its T (by rcases l with x|x|x<;>simp[x])) w h2 u p r (b.ns.keeps j) (b.its T (by rcases l with x|x|x<;>simp[x])) q
 xo:=λn=>P7 k X b n
end
end
section
open Builtin Builtin.ObjectAttr
theorem Dh:∀{xs:List Str}{vs:List ea}{x:Str},xs.length=vs.length->x∈xs->((xs.zip vs).lookup x).isSome=true:=by
 intro f;induction f with
 |nil=>intro _ _ _ b;rwa[k_mn b]
 |cons y xs d=>
  intro c;cases c with
  |nil=>intro _ a _;rwa[Hj a]
  |cons v vs=>
   intro x a b;simp![ag3];dsimp![hR];cases e:x==y with
   |true=>rfl
   |false=>
    rcases VD.mp b with rfl|h; ·simp at e
    ·rwa[d (by simpa using a) h]
theorem tB{f g:α->Option β}:∀{l:List α},(∀x∈l,f x=g x)->l.filterMap f=l.filterMap g|[],_=>rfl|x::l,h=>by dsimp![eO];rw[h x (Vv ..),tB (l:=l) λy a=>h y (VB _ a)]
theorem MX:∀{xs:List Str}{vs:List ea},xs.length=vs.length->xs.Nodup->xs.filterMap (λn=>((xs.zip vs).lookup n).map λv=>(n,v))=xs.zip vs:=by
 intro h;induction h with
 |nil=>intro d;cases d with|nil=>rwa[λY Y=>rfl]|cons _ _=>rwa[λa Y=>L2 a]
 |cons y xs f=>intro b;cases b with|nil=>rwa[λa Y=>Hj a]|cons v vs=>intro a c;rw[X4]at c;dsimp![ag3,eO];simp![hR,Y1,nx];congr 1;erw[Vn (tB λx g=>?_) (f (vs:=vs) (by simpa using a) c.2)];have:(x==y)=false:=WE.mpr λe=>c.1 (e▸g);rw[this]
theorem Jr{f:δ->Sem α}:forIn ([]:List β) j g>>=f=f j:=rfl
theorem Di(m:Ed fd.params=some ps)(hd:fd.defaults=.none)(w:ps.Nodup)(b:List ea)(d:b.length=ps.length):L0 fd ⟨b,[]⟩=pure (ps.zip b):=by
 obtain⟨p,E,⟨_|_,D,_|_,_|_,G,_|_,F⟩,z,u,t,y,r,C,i,k,o,j,f,l⟩:=fd<;>first|rwa[k_nn m]|skip
 erw[(show r=.none from hd)▸(Vp m▸?_)];have c:=Vp m;erw[Pc (RB _ _ _ rfl:∃(A B:Sem (List (Str×ea)))(g:Str×ea->List (Str×ea)->Sem (ForInStep (List (Str×ea)))),L0 ⟨p,E,⟨[],D,none,[],G,none,F⟩,z,u,t,y,.none,C,i,k,o,j,f,l⟩ ⟨b,[]⟩=if(decide (b.length>(D.map λa:Arg=>a.arg).length)&&true)=true then A else if(!(((D.map λa:Arg=>a.arg).take ((D.map λa:Arg=>a.arg).length-(ai0 (0-(D.map λa:Arg=>a.arg).length) ([]:List ea)).length)).filter λn=>(((D.map λa:Arg=>a.arg).zip b).lookup n).isNone).isEmpty)=true then B else forIn (List.zip ((D.map λa:Arg=>a.arg).drop ((D.map λa:Arg=>a.arg).length-(ai0 (0-(D.map λa:Arg=>a.arg).length) ([]:List ea)).length)) (ai0 (0-(D.map λa:Arg=>a.arg).length) ([]:List ea))) ((D.map λa:Arg=>a.arg).zip b) g>>=λs=>pure (((D.map λa:Arg=>a.arg)++[]).filterMap λn=>(s.lookup n).map λv=>(n,v))) λA B g e=>e.trans ?_];rw[List.drop_nil,List.zip_nil_right,VC];erw[(WO ?_).trans ((WO ?_).trans (Jr.trans (VT pure (MX (c▸d.symm) (c▸w)))))]; ·rw[VO (c▸d▸Xs _)];rwa[nofun]
 ·rw[YR.mpr λx q h=>by have:=Dh (c▸d.symm) (Wu q);rw[Yr.mp h]at this;rwa[gm this]];rwa[nofun]
end
section
open Builtin Builtin.ObjectAttr
theorem Up(h:vR v=some a):v=.ref a:=iw h λq=>ai6 (motive:=λv=>∀q,ai6 v q some=some a->v=.ref a) v q (λx Y h=>Vp h▸rfl) q
theorem Su(h:vS v=some j):∃t,v=.str j t:=iw h λq=>ai5 (motive:=λv=>∀q,ai5 v q (λq Y=>some q)=some j->∃t,v=.str j t) v q (λx t Y h=>⟨t,Vp h▸rfl⟩) q
theorem Uq(h:vI v=some j):∃t,v=.int j t:=iw h λq=>ai7 (motive:=λv=>∀q,ai7 v q (λq Y=>some q)=some j->∃t,v=.int j t) v q (λx t Y h=>⟨t,Vp h▸rfl⟩) q
theorem Ur(h:dF j=some m):j=.func m:=iw h λq=>aj0 (motive:=λj=>∀q,aj0 j q some=some m->j=.func m) j q (λx Y h=>Vp h▸rfl) q
theorem Us(h:dC j=some m):j=.cls m:=iw h λq=>aj8 (motive:=λj=>∀q,aj8 j q some=some m->j=.cls m) j q (λx Y h=>Vp h▸rfl) q
theorem Ut(h:dV j=some m):j=.fields m:=iw h λq=>ah3 (motive:=λj=>∀q,ah3 j q some=some m->j=.fields m) j q (λx Y h=>Vp h▸rfl) q
theorem Uu(h:tI j=some m):j=.int m:=iw h λq=>Dat.int.elim (motive_1:=λj=>∀q,Dat.int.elim j q some=some m->j=.int m) j q (λx Y h=>Vp h▸rfl) q
theorem Uv(h:tS j=some m):j=.str m:=iw h λq=>Dat.str.elim (motive_1:=λj=>∀q,Dat.str.elim j q some=some m->j=.str m) j q (λx Y h=>Vp h▸rfl) q
theorem ru{K:Frag}(e:Cw K v=some q):∃c oc vs t,v=.ref c/\K.lookup c=some oc/\oc.data=.fields vs/\vs[1]?=some (.str q t):=ob e λc b e=>ob e λo a e=>ob e λvs f e=>ob e λx g e=>V7 (Su e) λt d=>Ff c o vs t (Up b) a (Ut f) (g.trans (VT some d))
theorem rv{K:Frag}(e:jx K a=some fd):∃o,K.lookup a=some o/\o.data=.func fd:=ob e λo b e=>m_12 o b (Ur e)
def MY(x:Str):Bool:=match fnAt x with|some f=>decide f.params.Nodup|none=>true
theorem Js{K:Frag}(g:fnAt x=some u)(b:(jx K a).map (Rp K)=(fnAt x).map Rq)(r:ah8 K (.ref a)=some (.type "function"))(d:MY x=true):Sq K u a:=by replace b:=(g)▸b;delta MY at d;rw[g]at d;cases e:jx K a with|none=>replace b:=(e)▸b;rwa[k_nn b]|some f=>replace b:=(e)▸b;erw[x_12 (rv e) λo i s=>?_];have b:Rp K f=Rq u:=Vp b;delta Rp Rq at b;simp![ZN,Wb]at b;rwa[RH b λk l m h q j p t=>⟨RA o f i s k l m h q (ru t) λc n=>Di j p (VF d) c n,r⟩]
theorem Jt(e:OH d v=true)(F:Heap):DR F d v:=((Wz _ _).mp e).elim (λe=>V7 (V4.mp e) λY e=>ob e λi b e=>ob e λj a e=>d8 e λh Y=>V7 (Uq a) λt c=>by rw[Uu b,c,WA h];rwa[.int]) λe=>V7 (V4.mp e) λY e=>ob e λi b e=>ob e λj a e=>d8 e λh Y=>V7 (Su a) λt c=>by rw[Uv b,c,<-WA h];rwa[.str]
set_option tactic.hygienic true in theorem Ju(h:attrOk c j=true):j∈attrsOf c:=by
 delta attrOk at h;delta attrsOf;split at h; ·rename_i l e;rwa[(e)▸V9.mp h]
 ·rwa[gm h]
theorem Dj{K:Frag}(e:HB K a=true):∃od cd sl,K.lookup a=some ⟨.type "type",od,.cls cd,sl⟩/\cd.hasDel=false:=V7 (V4.mp e) λY e=>ob e λo d e=>ob e λcd c e=>d8 e λh Y=>hJ (λb f=>m_32 o.dict cd o.slots (by rw[<-VF b,<-Us c];rwa[d]) ((Wn _).mp f)) ((Vq _ _).mp h)
noncomputable abbrev st:l4:=⟨pG,wG.params⟩
theorem P8(C:Addr)(h0:HB kG C=true)(h1:ak4 kG (.ref C) "__call__"=some (some (.builtin "type.__call__")))(h2:peek kG st (nc (.ref C) (.type "type"))=some true)(h3:∃c l,peek kG st (mroOf (.ref C))=some (c::l))(h4:peek kG st (al2 (.ref C))=some (some "Exception.__new__"))(h5:∀rest,peek kG st (u6 "Exception.__new__" ⟨.ref C::rest,[]⟩)=some ())(h6:peek kG st (isType (.ref C))=some true)(h7:peek kG st (gb (.ref C) (.type "Exception"))=some true)(h8:peek kG st (gb (.ref C) (.type "BaseException"))=some true)(h9:peek kG st (gb (.ref C) (.type "type"))=some false)(h10:peek kG st (ak0 "BaseException.__new__" (.ref C))=some ())(h11:peek kG st (gb (.ref C) (.type "AttributeError"))=some false)(h12:peek kG st (gb (.ref C) (.type "NameError"))=some false)(h13:peek kG st (gb (.ref C) (.ref C))=some true)(h14:peek kG st (qu (.ref C) "__init__")=some (some (.ref 29)))(h15:∀self,peek kG st (ai2 (.ref 29) self)=some (.ref 29,[self]))(i1:kt kG (.ref C) "__setattr__"=some (some (.builtin "object.__setattr__")))(i2:∃B,(aj6 kG C).map (·.mro)=some [.ref C,.ref B,.type "Exception",.type "BaseException",.type "object"])(i3:ah9 kG C=true)(i4:am3 kG C (.type "object")=some true)(i5:kt kG (.ref C) `what=some none)(i6:kt kG (.ref C) `at=some none)(i7:peek kG st (nc (.ref C) (.type "tuple"))=some false):Az 29 C:=by
 erw[fi (Dj h0) λod cd sl e1 e2=>?_];obtain⟨c,l,e3⟩:=h3;rwa[⟨λh X=>⟨LU _ od cd sl (X _ _ e1) e2,looks_specialIn X h1,Wk X h2,nv c l (Wk X e3),Wk X h4,λr=>Wk X (h5 r),Wk X h6,Wk X h7,Wk X h8,Wk X h9,Wk X h10,Wk X h11,Wk X h12,Wk X h13,Wk X h14,λr=>Wk X (h15 r)⟩,⟨i1,i2,i3⟩,λh X=>RB od cd sl (X _ _ e1),⟨_,e1⟩,i4,i5,i6,λh X=>Wk X i7⟩]
theorem du{l:List α}{f g:α->β}(h:l.map f=l.map g){x:α}(a:x∈l):f x=g x:=YK.mp h x a
theorem MZ:fy.all (λx=>MY x.1)=true:=⋯
theorem Jv:c5.all (λx=>MY (iu x.1 x.2.1))=true:=⋯
theorem Jw:c5.all (λx=>! attrOk x.1 x.2.1)=true:=⋯
theorem F7(h:Cx kG=Fi):nJ:=by
 delta Cx Fi at h;simp![ZN]at h;erw[ba λs=>LX h λq z A w l u k1=>Pb z λN O P K X D=>rG A λH T Z c4=>mL w λp G E=>LX u λM g2 g3 Q V I U=>s ⟨λx c=>du q.1 c,λx c=>du q.2.1 c,λx c=>du q.2.2.1 c,λx c=>du q.2.2.2.1 c,λt ht=>du q.2.2.2.2 (x:=t) (by delta HC;simp;rwa[ht]),?_,?_,?_,?_,?_,V4.mp K,λx c=>du O c,λx c=>du (f:=λx:Str×Str×Addr=>al5 kG (.ref x.2.2)) (g:=λY=>true) P c,?_,?_,λx c y W=>du (du N c) W⟩]; ·intro x c;have h2:=du c4 c;rwa[V7 (V4.mp h2) λY e=>ob e λo e1 e=>ob e λv R e=>d8 e λh Y=>m_12 v (e1.trans (VT some R)) (Jt h)]
 ·rwa[λx c f B=>Js B (du H c) (du T c) (VK.mp MZ x c)]
 ·intro x c C J;have F:=du X c;rw[J]at F;have h2:=VK.mp Jw x c;simp![Wn]at h2;rwa[m_03 (Vp F) h2 (du (f:=λx:Str×Str×Addr=>ah8 kG (.ref x.2.2)) (g:=λY=>some (Value.type "function")) D c)]
 ·rwa[λx c f B=>Js B (du (f:=λx:Str×Str×Addr=>(jx kG x.2.2).map (Rp kG)) (g:=λx=>(fnAt (iu x.1 x.2.1)).map Rq) Z c) (du (f:=λx:Str×Str×Addr=>ah8 kG (.ref x.2.2)) (g:=λY=>some (Value.type "function")) D c) (VK.mp Jv x c)]
 ·rwa[λx c=>m_03 ⟨du l.1 c,du l.2.1 c,du l.2.2.1 c,du l.2.2.2.1 c,du l.2.2.2.2.1 c,du l.2.2.2.2.2.1 c,du l.2.2.2.2.2.2 c,λa L=>du (du M c) (Ju L)⟩ ⟨du g2 c,g3,Q,du V c,du I c⟩ (du U c)]
 ·erw[ba λs=>Co (jx kG 29) (λe=>?_) λfd e=>?_]; ·replace p:=(e)▸p;rwa[k_nn p]
  ·erw[s ?_];rw[e]at p G E;erw[x_12 (rv e) λo q1 q2=>?_];have p:=Vp p;simp![ZN,Wb]at p;rwa[ba λs=>s ⟨o,fd,q1,q2,p.1,p.2.1,p.2.2.1,p.2.2.2.1,p.2.2.2.2.1,ru p.2.2.2.2.2,λS e a=>Wd (Wd (Wd (Vp G) S) e) a,λS e a b=>Wd (Wd (Wd (Wd (Vp E) S) e) a) b⟩]
 ·intro x c;have k:=du k1 c;unfold R3 R4 at k;simp![ZN]at k;rwa[ba λs=>Hh k λd i n m j=>s (P8 x.2 d.1 d.2.1 (Wd d.2.2.1 _) (nv _ _ (Wd d.2.2.2.1 _)) (Wd d.2.2.2.2 _) (λr=>Wd (Wd i.1 _) r) (Wd i.2.1 _) (Wd i.2.2.1 _) (Wd i.2.2.2.1 _) (Wd i.2.2.2.2 _) (Wd n.1 _) (Wd n.2.1 _) (Wd n.2.2.1 _) (Wd n.2.2.2 _) (Wd m.1 _) (λv=>Wd (Wd m.2.1 _) v) m.2.2.1 ⟨39,m.2.2.2⟩ j.1 j.2.1 j.2.2.1 j.2.2.2.1 (Wd j.2.2.2.2 _))]
end
section
open Builtin Builtin.ObjectAttr
theorem P9:kA.lookup `law=some (.ref 453):=∅
theorem M0:(classes.map (·.1)).contains `law=false:=∅
theorem Jx:∀{ns:List Int}{vs:List ea},WellAll j h vs (ofPys (ns.map .int))->c9 h (ns.map .int) vs:=by injections _ h j;intro c;induction c with|nil=>intro _ h;cases h;rwa[.nil]|cons n ns a=>intro _ h;cases h with|cons b d=>cases b;rwa[.cons .int (a d)]
theorem M1:GoodG wG kG bG mG:=by
 intro X w b s P K N a n k f J R A C E F t m q;have u:=F7 w;rw[<-R5];have r:=Jq u X b;have g:=Jj u X b;erw[qL r.ok (MQ r g k) (r.xok k k) b.lim rfl (by show 4+3+200*k+350<9900;rwa[a_1 (Vt 200 t)]) (by show 1+300+1+4*k<=900;rwa[a_1 (Vt 4 t)]) rfl (g.fnOk `law (.ref 453) f P9 M0 F) (by
  rw[A];erw[⟨X,λb o e=>e,λb o e=>e,rfl,?_,λa l=>?_,?_⟩]; ·rwa[λn o p e=>k_nn e]
  ·rwa[fi l λn o p e Y=>k_nn e]
  ·rwa[λi j p q x y Y e=>k_nn e]:Inv ⟨bG,[]⟩ [] s.heap) (λe B=>k_mn B) (show jY ⟨bG,[]⟩ [.d (.list (K.map .int))] [.ref a]from⟨DR.list C (Jx E),trivial⟩) ((m)▸λz=>by cases z) (λv c d L I e G D H h=>?_) λx M d L I e=>by replace e:=Vn (am m) e;rwa[nomatch e]]
 replace e:=Vn (am m) e;obtain⟨rfl,rfl⟩:=Res.ok.inj e;cases h;rwa[q I (λb o e=>G.stays b o (D.F b o e)) H.os H.gens]
end
section
set_option maxRecDepth 1000000
set_option tactic.hygienic true in theorem tC:∀{n:Nat}{s s':eN}{t:Thread}{f:Flow}{c:Code}{q:Pos},segRun tb u w n₀ ann 0 n s t=some (f,s',c,q)->topRun tb u w n₀ ann n s t=some s'
|0,_,_,_,_,_,_,h=>by cases h
|n+1,s,s',t,f,c,q,h=>by
 unfold segRun at h;unfold topRun;have e:through t=(endAt 0 t).isSome:=by
  obtain⟨g,m,pos,d⟩:=t;cases d with
  |nil=>
   obtain⟨⟩:=g<;>try rfl
   rename_i x;obtain⟨⟩:=x<;>rfl
  |cons a b=>rfl
 cases j:endAt 0 t with|some x=>rw[j]at h e;rw[e];cases h;rfl|none=>rw[j]at h e;rw[e];dsimp![Option.isSome]at h⊢;cases k:stepOk n₀ ann t with|false=>rw[k]at h;cases h|true=>rw[k]at h;dsimp only at h⊢;cases hs:step (denote tb) u w s t with|halt a b=>rw[hs]at h;cases h|go l i=>rw[hs]at h;rwa[tC h]
theorem boot_abs(P:ak3)(a:ap9):(OT P a).abs=⟨ql P,#[],aj3,ak6,a⟩:=∅
theorem Jy: @segRunT z4= @PySem.W.Fast.tw10110043849684766642 ae8:=by rw[PySem.W.Fast.te10110043849684766642,PySem.W.Fast.te14364793385576792824]
def fragOf(h:Heap):Frag:=UU.filterMap λa=>(h.get? a).map λo=>(a,o)
theorem F8(h:Heap):(fragOf h).In h:=by
 intro a o e;unfold fragOf at e;have e:=List.lookup_eq_some_iff.mp e;obtain⟨g,j,e,_⟩:=e;have f:(a,o)∈UU.filterMap λa=>(h.get? a).map λo=>(a,o):=by rw[e];simp
 obtain⟨b,i,d⟩:=Wh.mp f;obtain⟨l,c,k⟩:=Ww.mp d;cases k;rwa[c]
theorem fragTe(s:SharedT):fragT s=fragOf s.abs.heap:=by
 unfold fragT fragOf;congr;funext a;congr 1;show _=(absHeap ..).get? a;unfold Heap.get?;rw[absHeap_at];cases (if a<s.n then some ((s.tree.get a).getD default) else none) with|none=>rfl|some o=>obtain⟨c,d,t,l⟩:=o;cases t<;>rfl
end
section
set_option maxRecDepth 1000000
theorem JA{p:ap8}(a:fencedOpening z4 p w N=some ⟨h₀,#[],B,k,os⟩)(b:h₀.isNs ef=true)(f:h₀.objs.size=u)(h:h₀.nsMap ef "__annotations__"=ann)(r:topRun z4 p w u ann N ⟨h₀,#[],B,k,os⟩ (topStub p)=some s₁)(c:(staticsOk (nw p.main.body) h₀ s₁.heap&&am4 p s₁.heap&&gensDone s₁&&laidKept h₀ s₁.heap)=true)(g:al6 j loose (nw p.main.body) Xt true s₁=openGood j loose)(e:Yf s₁=m):(openEnds z4 p w N).map (λs=>(al6 j loose (nw p.main.body) Xt true s,Yf s))=some (openGood j loose,m):=by subst f h;delta openEnds;rw[a];show(topFrom z4 p w N ⟨h₀,#[],B,k,os⟩).map _=_;dsimp![topFrom];rw[show(h₀.isNs ef&&(#[]:Array GenState).size==0)=true by rw[b];rfl];rw[r];dsimp![Option.bind];rw[c];dsimp![am6];rw[g,e]
theorem M2{w:World}{f:SharedT->β}(h:(Sw w os).map (λr=>f r.2.1)=some j):∃s₁,topRun z4 pw w 11 (some (.ref 6)) 6532 ⟨ql w.params,#[],aj3,ak6,os⟩ (topStub pw)=some (SharedT.abs s₁)/\f s₁=j:=by erw[x_12 (Ww.mp h) λa d e=>?_];obtain⟨g,b,c,q⟩:=a;erw[m_12 b ?_ e];rw[<-boot_abs];rwa[tC (segRun_of (f:=g) (c:=c) (q:=q) ((Jy)▸d))]
theorem nK{a b c}{s:SharedT}(h:Jz h₀ s=(a,b,c)):(staticsOk (nw pw.main.body) h₀ s.abs.heap&&am4 pw s.abs.heap&&gensDone s.abs&&laidKept h₀ s.abs.heap)=a/\al6 vw tD (nw pw.main.body) xt true s.abs=b/\Cx (fragOf s.abs.heap)=c:=⟨(XU h).1,(XU (XU h).2).1,(fragTe s)▸(XU (XU h).2).2⟩
theorem M3(w:World):∃os,fencedOpening z4 pw w 6532=some ⟨ql w.params,#[],aj3,ak6,os⟩:=by injections w;erw[x_12 (Ww.mp (boot_open (p:=pw) (N:=6532) ∅ (by rfl) (λs=>rfl) w)) λa b e=>?_];obtain⟨h,g,d,k,os⟩:=a;cases e;rwa[⟨os,b⟩]
theorem M4(P:ak3):(ql P).isNs ef=true:=∅
theorem Ga(P:ak3):(ql P).objs.size=11:=∅
theorem JB(P:ak3):(ql P).nsMap ef "__annotations__"=some (.ref 6):=∅
theorem left:LeftO pw vw tD xt (λs=>Cx (fragOf s.heap)) (λY=>Fi) 6532:=λw=>V7 (M3 w) λb a=>V7 (M2 (f:=Jz (ql w.params)) (F9 w b)) λc r=>JA a (M4 _) (Ga _) (JB _) r.1 (nK r.2).1 (nK r.2).2.1 (nK r.2).2.2
end
section
def UV:Prop:=∀ns:List Int,ns.length<=63->∃k f σ',k<=40/\fnAt `law=some f/\nh (Cj k) f [.d (.list (ns.map .int))] []=.ok (.d (.bool true)) σ'
theorem Qa(T:Top j loose mean mg mb h):qr h mb where
 ns:=T.b
 lim:=T.nolimit
 bi:=λx a=>by have:=VK.mp (by decide +kernel:jq.all λx=>x.1 !="__name__"=true) x a;rwa[(T.builtins _ (by simpa using this))▸YK.mp (by kernel_rfl:jq.map (λx=>bootBuiltins x.1)=jq.map λx=>some x.2) x a]
 its:=λt b=>by rcases b with rfl|rfl|rfl|rfl<;>(erw[Vn (T.builtins _ ⋯) ?_];kernel_rfl)
abbrev rr:=PySem.Challenge.rw_np0319_01.row
theorem Qb:∃d,defOf vw rr.name=some (d,[])/\d.name=`law/\pw.theDef rr.name=some (d.params,d.body,d.scope)/\kwWritten? d.params.kwonlyargs d.params.kw_defaults=some []:=by have a:(defOf vw rr.name).map (λx=>(x.1.name,x.2))=some (`law,[]):=∅;have h:(defOf vw rr.name).map (λx=>(x.1.params,x.1.body,x.1.scope))=pw.theDef rr.name:=∅;have b:(defOf vw rr.name).map (λx=>kwWritten? x.1.params.kwonlyargs x.1.params.kw_defaults)=some (some []):=∅;cases e:defOf vw rr.name with|none=>rw[e]at a;rwa[k_nn a]|some x=>obtain⟨d,g⟩:=x;rw[e]at a h b;obtain⟨f,c⟩:=XU (Vp a);clear a;clear e;subst c;rwa[Fe d rfl f h.symm (Vp b)]
theorem Sx:(chainsOk vw&&opensWell rr.prog&&(frees rr.toRowW&&rr.within.isEmpty))=true:=∅
set_option tactic.hygienic true in theorem holds(i:UV):PySem.Challenge.rw_np0319_01.Holds:=by
 obtain⟨d,c,t,R,p⟩:=Qb;erw[holds_law said λsaid=>holds_open (r:=rr) (q:=vw) (loose:=tD) (Xt:=xt) (XP:=XL vw []) (YP:=λY h=>∃K:Frag,K.In h/\Cx K=Fi) left (λw s e=>⟨_,F8 _,e⟩) (λw h h' S k=>let⟨K,a,b⟩:=S;⟨K,a.keeps k,b⟩) (λs e=>xl_of s (Ze.mp e).1) XL.keeps c R p (λs e=>recFacts_of (Ze.mp e).2) (by rfl) said Sx ⟨rfl,rfl,rfl,rfl,rfl,by decide +kernel⟩ ?hw ?hc];case hw=>w_witness2
 case hc=>
  intro w s₀ s₁ mg mb G S L o pm cd M dV Z ho hd O hD z H args C as m l v n u;obtain⟨K,E,A⟩:=S;have I:nsIn K ef `law=some (some (.ref 453)):=du (f:=λx:Str×Addr=>nsIn K ef x.1) (XU (XU A).1).1 (x:=(`law,453)) ⋯;erw[Ground.open G ?_];intro T B D V TW;have j:L=453:=by have y:=mg_of E T.g I;rw[<-t]at y;rw[z]at y;cases y;rfl
  subst j;wrow_args m l v n u;erw[enter_call ?_];rename_i ns _ _ _ _ _ _ _ a _ _ _ _ W _ X _ F _;erw[Z3 ?_ λY Y g=>GoodW.toG g];cases W with| @list a' vs xs ha hall=>obtain⟨k,f,σ',p,P,N⟩:=i ns (by omega);erw[HD M1 w K _ mb E A (Qa T) rfl ha hall P p N λs' Q h2 U=>⟨.inl ⟨_,.bool true,[],rfl,raisesW_false (by wrow_none_raised),.bool true,postW_of (by wrow_shape) (by wtm_val) (by w_fin),λY=>⟨ab1,λb J=>by cases J⟩⟩,Q,h2,U.trans H⟩]
end
abbrev iT(U:Str->List V->M V):jS:=⟨jF,oP,oO,jp,U,NN⟩
def C(k:Nat):Str->List V->M V:=sP (Cj k)
def vU(P:jS)(n:Nat)(sc:e6)(e:Expr)(ls:Ls):M V:=ev P n .val sc e ls
def vJ(P:jS)(n:Nat)(sc:e6)(e:Expr)(ls:Ls):M Bool:=ev P n .test sc e ls
def Ts(P:jS)(n:Nat)(sc:e6)(e:Expr)(ls:Ls):M Src:=ev P n .iter sc e ls
noncomputable def xm(c:Bool)(a b:M α):M α:=match c with|true=>a|false=>b
def Tt(P:jS)(kp:Bool)(mv:List Str)(sc:e6)(n:Nat)(ss:List Stmt)(ls:Ls)(kn:Ls->M α)(kr:V->M α)(kc:Ls->M α):M α:=execs P kp mv sc n ss ls kn kr kc
def Sy(P:jS)(kp:Bool)(mv:List Str)(sc:e6)(n:Nat)(t:Expr)(body:List Stmt)(x:Dat)(ls:Ls):M LR:=aa (gN (aV sc) t x ls) λls'=>Tt P kp mv sc n body ls' (λl=>ret (.next l)) (λv=>ret (.ret v)) λl=>ret (.next l)
noncomputable def tF(kn:Ls->M α)(kr:V->M α):LR->M α:=rH kn kr
section
variable{f:V->M β}
theorem iF{g:α->M β}{h:β->M γ}:aa (aa m g) h=aa m λa=>aa (g a) h:=by funext σ;delta aa;cases m σ<;>rfl
theorem yB(k:aa m ret σ=r):m σ=r:=by rw[<-k];delta aa;cases m σ<;>rfl
theorem JC(k:m σ=r):aa m ret σ=r:=by simp![<-k];delta aa;cases m σ<;>rfl
theorem M5{f:α->M β}(h:m σ=.ok j σ')(k:f j σ'=r):aa m f σ=r:=by delta aa;rwa[(h)▸k]
theorem Sz{f:α->M β}(h:m σ=.exc c σ'):aa m f σ=.exc c σ':=by delta aa;rw[h]
theorem vV(a:f (.cell σ.length) (σ++[j])=r):aa (aM j) f σ=r:=a
end
section
variable{P:jS}{f:V->M β}{kn kc:Ls->M β}{kr:V->M β}
inductive M6(x:Str)(v:V):Ls->Ls->Prop where|hit{w r:_}:M6 x v ((x,w)::r) ((x,some v)::r)|miss{k w r r':_}:(x==k)=false->M6 x v r r'->M6 x v ((k,w)::r) ((k,w)::r')
def Uw(P:jS)(kp:Bool)(mv:List Str)(sc:e6)(n:Nat)(t:Expr)(body:List Stmt)(ls:Ls)(kn:Ls->M β)(kr:V->M β)(src:Src):M β:=optM (Pj t src) λxs=>aa (forL (Sy P kp mv sc n t body) xs ls) (tF kn kr)
def ry(P:jS)(n:Nat)(sc:e6)(t:Expr)(ifs:List Expr)(elt:Expr)(y:Dat)(ls:Ls):M (Ls×Option Dat):=aa (gN (jT sc) t y ls) λls'=>aa (compIfs (vJ P n) sc ifs ls') λok=>match ok with|true=>aa (vU P n sc elt ls') λv=>aa (frz v) λd=>ret (ls',some d)|false=>ret (ls',none)
theorem xn(a:acc.length<=SL):aD (vJ P n) t ifs sc (compElt (vU P n) sc elt) (y::ys) ls acc=aa (ry P n sc t ifs elt y ls) λr=>aD (vJ P n) t ifs sc (compElt (vU P n) sc elt) ys r.1 (acc++r.2.toList):=by delta ry;erw[Vn ?_ (am iF)];show aa (gN (jT sc) t y ls) _=_;congr 1;funext l1;erw[Vn ?_ (am iF)];congr 1;funext b;cases b with|false=>show _=aD _ _ _ _ _ _ _ (acc++[]);rw[VC]|true=>show aa (aa (vU P n sc elt l1) λv=>aa (frz v) λd=>match er acc.length SL with|true=>ret (l1,acc++[d])|false=>stq) _=aa (aa (vU P n sc elt l1) λv=>aa (frz v) λd=>ret (l1,some d)) _;erw[(V0 a)▸?_];simp![iF];rfl
theorem mr(a:acc.length<=SL)(h:ry P n sc t ifs elt y ls σ=.ok (ls',z) σ'):aD (vJ P n) t ifs sc (compElt (vU P n) sc elt) (y::ys) ls acc σ=aD (vJ P n) t ifs sc (compElt (vU P n) sc elt) ys ls' (acc++z.toList) σ':=by rw[xn a];rwa[M5 h rfl]
theorem JD(a:acc.length<=SL)(h:ry P n sc t ifs elt y ls σ=.exc c σ'):aD (vJ P n) t ifs sc (compElt (vU P n) sc elt) (y::ys) ls acc σ=.exc c σ':=by rw[xn a];rwa[Sz h]
theorem AA{e A:Type}(L:e->Ls)(f:A->Dat)(g:A->Option Dat){ys:List A}(c:ys.length<=SL)(b:∀y∈ys,∀w,∃d,ry P n sc t ifs elt (f y) (L w) σ=.ok (L d,g y) σ)(w:e):∃d,aD (vJ P n) t ifs sc (compElt (vU P n) sc elt) (ys.map f) (L w) [] σ=.ok (L d,ys.filterMap g) σ:=by
 rwa[((by
  intro a;induction a with
  |nil=>rwa[λq w Y Y=>⟨w,by simp![ZC,VC];rfl⟩]
  |cons y a o=>
   intro q w i c;obtain⟨l,p⟩:=b y (i y (Vv ..)) w;have h:(g y).toList.length<=1:=by cases g y<;>simp
   simp![ar]at c;obtain⟨k,j⟩:=o (q++(g y).toList) l (λz h=>i z (VB _ h)) (by rw[al];rwa[a_2 h c]);erw[⟨k,(mr (a_1 c) p).trans (j.trans ?_)⟩];dsimp![eO];rw[VA];cases g y<;>rfl:∀(a:List A)(q:List Dat)(w:e),(∀y∈a,y∈ys)->q.length+a.length<=SL->∃d,aD (vJ P n) t ifs sc (compElt (vU P n) sc elt) (a.map f) (L w) q σ=.ok (L d,q++a.filterMap g) σ)) ys [] w (λy m=>m) (by simpa using c)]
end
inductive tH:List (Str×hP)->Ls->Prop where|nil:tH [] []|loc{x r l:_}:tH r l->tH ((x,.local)::r) ((x,none)::l)|cel{x r l:_}:tH r l->tH ((x,.cell)::r) ((x,none)::l)|glob{x r l:_}:tH r l->tH ((x,.globalImplicit)::r) l
inductive JE:List Str->List V->Ls->Ls->Prop where|nil{l:_}:JE [] [] l l|cons{x xs v vs l l1 l2:_}:M6 x v l l1->JE xs vs l1 l2->JE (x::xs) (v::vs) l l2
inductive tJ:List (Str×hP)->Ls->Ls->Prop where|nil{l:_}:tJ [] l l|loc{x r l l':_}:tJ r l l'->tJ ((x,.local)::r) l ((x,none)::l')|free{x r l l':_}:tJ r l l'->tJ ((x,.free)::r) l l'|glob{x r l l':_}:tJ r l l'->tJ ((x,.globalImplicit)::r) l l'
section
variable{P:jS}{f:V->M β}
theorem Ux(b:(classes.map (·.1)).contains x=false)(a:fnAt x=some j):C k x=nh (Cj k) j:=by delta C sP;rw[b,a]
theorem dZ(h:m=.ok (.d d) σ):back kp σ.length m=.ok (.d d) σ:=by subst h;show Res.ok (V.d d) (σ.take σ.length)=_;rw[XQ]
def cR(P:jS)(n:Nat)(sc:e6)(elt t:Expr)(ifs:List Expr)(src:Src)(ls:Ls):M (List Dat):=match L7 t src with|true=>aa (jU src λxs=>aD (vJ P n) t ifs sc (compElt (vU P n) sc elt) xs ls []) λr=>ret r.2|false=>stq
theorem tK{f:List Dat->M β}(h:∃a,aD (vJ P n) t ifs sc (compElt (vU P n) sc elt) xs ls [] σ=.ok (a,ds) σ')(b:f ds σ'=r):aa (cR P n sc elt t ifs (.items xs) ls) f σ=r:=by erw[V7 h λa h=>?_];show aa (aa (aD (vJ P n) t ifs sc (compElt (vU P n) sc elt) xs ls []) λr=>ret r.2) f σ=r;rw[iF];rwa[M5 h b]
theorem Dk(m:Nat):kX 0 m 1=(eg m).map λi=>Dat.int (i:Nat):=by delta kX;have:=((by intro n;induction n with|zero=>intro a;rfl|succ n b=>intro a;simp![Xo];simp![V3,VQ];show Dat.int a::d7 (a+1) n 1=_;simp![show(a:Int)+1=((a+1:Nat):Int)by lia,b (a+1)];congr 1;erw[WR λi Y=>?_];congr 2;simp +arith only:∀n(a:Nat),d7 a n 1=(eg n).map λi=>Dat.int ((a+i:Nat):Int))) m 0;simpa using this
theorem M7(h:k<n)(a:n<=SL):D7 k n=some k:=by delta D7;rw[W9.mpr (by delta SL at a;simp;omega)];dsimp![seqIndex?];rw[WO (Zt.mpr (Wf k)),WG ((Vq _ _).mpr ⟨Vz (Wf k),Vz (XX.mpr h)⟩)];rfl
theorem pn{A:Type}{f:V->Option α}{g:A->Dat}{h:A->α}(e:∀a,f (.d (g a))=some (h a)):∀{l:List A},ya f (l.map g)=some (l.map h):=by intro d;induction d with|nil=>rwa[rfl]|cons a l c=>show(f (.d (g a))).bind (λb=>(ya f (l.map g)).map (b:: ·))=_;simp![e,c];rfl
theorem lh{A:Type}{h:A->List Nat}{l:List A}:nz (l.map λa=>Dat.str (h a))=some (l.map h):=pn (f:=ny) (g:=λa=>.str (h a)) (h:=h) λY=>rfl
theorem jM:∀{ss:List (List α)},aS [] ss=ss.flatten|[]=>rfl|[x]=>by show x=x++[];simp![VC]|x::y::r=>by show x++[]++aS [] (y::r)=x++(y::r).flatten;simp![jM,VC]
end
end
section
variable{α β γ A τ:Type}{t:Bool}{y y0 y2:Dat}{e:Expr}{F:Fn}{b:Int}{ks:List (List Nat)}{xs l:List Dat}{s sep:List Nat}{kn:Ls->M β}{k i c:Nat}{h:Option Nat}{σ σ':ae}{U:Str->List V->M V}{lo hi:V}{kr:V->M β}{a:α}{f:α->M β}{g:γ->M α}
def defAt(i:Nat)(l:List Stmt):Option (List Str×List Stmt×e6):=(l[i]?).bind λs=>sl 0 s.ctorIdx (λh=>ak8 s h λY a b Y Y Y sc Y Y Y=>some (a.args.map (·.arg),b,sc)) none
def clsAt(i:Nat)(l:List Stmt):List Stmt:=((l[i]?).map λs=>sl 2 s.ctorIdx (λh=>am1 s h λY Y Y b Y Y Y Y Y Y Y=>b) []).getD []
noncomputable def UW:Pos:=⟨0,0,0,0⟩
def JF:Expr:=.Name (S "") UW
def bo(k:Nat)(b:List Stmt):Stmt:=(b[k]?).getD (.Pass UW)
def gi(s:Stmt):List Stmt:=sl 12 s.ctorIdx (λh=>Stmt.If.elim s h λY b Y Y=>b) (sl 9 s.ctorIdx (λh=>aj5 s h λY Y b Y Y=>b) (sl 11 s.ctorIdx (λh=>aq2 s h λY b Y Y=>b) []))
def Qc(s:Stmt):Expr:=sl 9 s.ctorIdx (λh=>aj5 s h λt Y Y Y Y=>t) (sl 5 s.ctorIdx (λh=>v6 s h λts Y Y=>(kI ts).getD JF) JF)
def dJ(s:Stmt):Expr:=sl 9 s.ctorIdx (λh=>aj5 s h λY e Y Y Y=>e) (sl 5 s.ctorIdx (λh=>v6 s h λY e Y=>e) (sl 3 s.ctorIdx (λh=>Stmt.Return.elim s h λe Y=>e.getD JF) (sl 24 s.ctorIdx (λh=>Stmt.Expr.elim s h λe Y=>e) (sl 12 s.ctorIdx (λh=>Stmt.If.elim s h λe Y Y Y=>e) (sl 11 s.ctorIdx (λh=>aq2 s h λe Y Y Y=>e) (sl 16 s.ctorIdx (λh=>Stmt.Raise.elim s h λe Y Y=>e.getD JF) JF))))))
def LL(i:Nat)(l:List Expr):Expr:=(l[i]?).getD JF
def gc(i:Nat)(e:Expr):Expr:=sl 0 e.ctorIdx (λh=>Expr.BoolOp.elim e h λY vs Y=>LL i vs) (sl 2 e.ctorIdx (λh=>Expr.BinOp.elim e h λl Y r Y=>LL i [l,r]) (sl 3 e.ctorIdx (λh=>ao5 e h λY x Y=>x) (sl 5 e.ctorIdx (λh=>Expr.IfExp.elim e h λt b o Y=>LL i [t,b,o]) (sl 8 e.ctorIdx (λh=>ag4 e h λelt gens Y Y=>LL i (elt::gens.map (·.iter)++(gens.map (·.ifs)).flatten)) (sl 15 e.ctorIdx (λh=>Expr.Compare.elim e h λl Y cs Y=>LL i (l::cs)) (sl 16 e.ctorIdx (λh=>ad8 e h λf as Y Y=>LL i (f::as)) (sl 20 e.ctorIdx (λh=>wy e h λo Y Y=>o) (sl 21 e.ctorIdx (λh=>Expr.Subscript.elim e h λo s Y=>LL i [o,s]) (sl 26 e.ctorIdx (λh=>KO e h λlo hi Y Y=>LL i [lo.getD JF,hi.getD JF]) (sl 24 e.ctorIdx (λh=>Expr.List.elim e h λes Y=>LL i es) (sl 25 e.ctorIdx (λh=>J1 e h λes Y Y=>LL i es) JF)))))))))))
def gensE(e:Expr):List qt:=sl 8 e.ctorIdx (λh=>ag4 e h λY gens Y Y=>gens) []
def eH(i:Nat)(e:Expr):qt:=((gensE e)[i]?).getD ⟨JF,JF,[],0⟩
def mN(e:Expr):e6:=sl 8 e.ctorIdx (λh=>ag4 e h λY Y s Y=>s) ⟨.function,[],false,false,[]⟩
section
variable(U:Str->List V->M V)(F:Fn)(n:Nat)
noncomputable def tL(len:Nat):Res V->Res V|.ok (.d .none) σ'=>.ok (.cell len) σ'|.ok _ _=>.stuck|.exc x σ'=>.exc x (σ'.take len)|.stuck=>.stuck
def Sk(k:Nat)(ls:Ls):M V:=Tt (iT U) F.keep F.mv F.sc 24 (F.body.drop k) ls (λY=>ret (V.d .none)) (λv=>ret v) λY=>stq
def Bt(s:Stmt)(k:Nat)(ls:Ls):M LR:=Tt (iT U) F.keep F.mv F.sc n ((gi s).drop k) ls (λl=>ret (.next l)) (λv=>ret (.ret v)) λl=>ret (.next l)
def gr(s:Stmt)(y:Dat)(ls:Ls):M LR:=Sy (iT U) F.keep F.mv F.sc n (Qc s) (gi s) y ls
variable{U F n}in theorem M8{s st:Stmt}{ls':Ls}(h:(gi s).drop k=st::(gi s).drop (k+1))(h2:∀(kn:Ls->M LR)kr kc,exec (iT U) F.keep F.mv F.sc n st ls kn kr kc=kn ls'):Bt U F n s k ls=Bt U F n s (k+1) ls':=by delta Bt Tt execs;rw[h];rwa[h2 _ _ _]
def fr(s:Stmt)(ls:Ls)(kn:Ls->M β)(kr:V->M β)(src:Src):M β:=Uw (iT U) F.keep F.mv F.sc n (Qc s) (gi s) ls kn kr src
def Dl(s:Stmt)(ls:Ls):M Bool:=vJ (iT U) n F.sc (dJ s) ls
def wh(s:Stmt)(ls:Ls)(kn:Ls->M β)(kr:V->M β):M β:=aa (jV (Dl U F n s) (Bt U F n s 0) NN ls) (tF kn kr)
def bR(sc:e6)(e:Expr)(ls:Ls)(src:Src):M (List Dat):=cR (iT U) n (ai sc (mN e)) (gc 0 e) (eH 0 e).target (eH 0 e).ifs src ls
def jg(sc:e6)(e:Expr)(y:Dat)(ls:Ls):M (Ls×Option Dat):=ry (iT U) n (ai sc (mN e)) (eH 0 e).target (eH 0 e).ifs (gc 0 e) y ls
def Ey(sc:e6)(e:Expr)(ls:Ls)(src:Src):M (List Dat):=match L7 (eH 0 e).target src with|true=>aa (jU src λxs=>aD (vJ (iT U) n) (eH 0 e).target (eH 0 e).ifs (ai sc (mN e)) (λls' acc=>aa (Ts (iT U) n (ai sc (mN e)) (eH 1 e).iter ls') λsrc'=>match src' with|.items ys=>aD (vJ (iT U) n) (eH 1 e).target (eH 1 e).ifs (ai sc (mN e)) (compElt (vU (iT U) n) (ai sc (mN e)) (gc 0 e)) ys ls' acc|_=>stq) xs ls []) λr=>ret r.2|false=>stq
def SA(sc:e6)(e:Expr)(ls:Ls):M Src:=Ts (iT U) n (ai sc (mN e)) (eH 1 e).iter ls
def SC(sc:e6)(e:Expr)(y:Dat)(ls:Ls):M Ls:=gN (jT (ai sc (mN e))) (eH 0 e).target y ls
def Qd(sc:e6)(e:Expr)(y:Dat)(ls:Ls):M (Ls×Option Dat):=ry (iT U) n (ai sc (mN e)) (eH 1 e).target (eH 1 e).ifs (gc 0 e) y ls
def cV(m:Str)(ov:V)(as:List V):M V:=aa (reads (dO (iT U) m ov)) λmt=>d5 mt ov as U
def cY(m:Str)(ov:V)(ms:M (List V)):M V:=aa (reads (dO (iT U) m ov)) λmt=>aa ms λas=>d5 mt ov as U
def Qe(s:Stmt)(ls:Ls)(kn:Ls->M β)(v:V):M β:=optM (OD v) λx=>aa (gN (aV F.sc) (Qc s) x ls) kn
end
def bD(m:M Dat):M V:=aa m λd=>ret (.d d)
def bB(m:M Bool):M V:=aa m λt=>ret (.d (.bool t))
def jy(m:M (List V)):M V:=aa m λvs=>aa (frzs vs) λds=>ret (.d (.tuple ds))
def nM(vs:List V):M V:=aa (frzs vs) λds=>ret (.d (.tuple ds))
def kL(m:M (List V)):M V:=aa m λvs=>aa (frzs vs) λds=>ret (.d (.list ds))
def li(vs:List V):M V:=aa (frzs vs) λds=>ret (.d (.list ds))
def SD(vs:List V):M V:=aa (frzs vs) λds=>aM (.list ds)
def cu(m:M (List Dat)):M V:=aa m λds=>ret (.d (.list ds))
def M9(m:M (List Dat)):M V:=aa m λds=>aM (.list ds)
def fO(m k:M Bool):M Bool:=aa m λt=>match BoolOp.And,t with|.And,false=>ret false|.Or,true=>ret true|_,_=>k
def hO(m k:M Bool):M Bool:=aa m λt=>match BoolOp.Or,t with|.And,false=>ret false|.Or,true=>ret true|_,_=>k
def JG(m k:M Bool):M Bool:=aa m λt=>xm t k (ret false)
def yC(m:M Bool):M Bool:=aa m λt=>ret !t
def AB(m:M V):M Bool:=aa m λv=>lift (truth v)
def SE(m k:M V):M V:=aa m λv=>aa (lift (truth v)) λt=>match BoolOp.And,t with|.And,false=>ret v|.Or,true=>ret v|_,_=>k
def Ru(m k:M V):M V:=aa m λv=>aa (lift (truth v)) λt=>match BoolOp.Or,t with|.And,false=>ret v|.Or,true=>ret v|_,_=>k
def de(m:M Bool)(a b:M α):M α:=aa m λt=>xm t a b
noncomputable def lj:List (Str×M V)->M (List (Str×V))|[]=>ret []|(x,m)::r=>aa m λv=>aa (lj r) λq=>ret ((x,v)::q)
theorem OU{K:List (Str×V)->M β}{k:V->V->M β}(h:∀b a,K [(x1,b),(x2,a)]=k b a):aa (lj [(x1,m1),(x2,m2)]) K=aa m1 λb=>aa m2 λa=>k b a:=by delta lj lj lj;simp![iF];congr 1;funext b;congr 1;funext a;rwa[h b a]
theorem U6{K:List (Str×V)->M β}{k:V->V->V->M β}(h:∀c a b,K [(x1,c),(x2,a),(x3,b)]=k c a b):aa (lj [(x1,m1),(x2,m2),(x3,m3)]) K=aa m1 λc=>aa m2 λa=>aa m3 λb=>k c a b:=by dsimp![lj,lj,lj,lj];simp![iF];congr 1;funext c;congr 1;funext a;congr 1;funext b;rwa[h c a b]
theorem UX{K:List (Str×V)->M β}{k:V->V->V->V->M β}(h:∀c a b e,K [(x1,c),(x2,a),(x3,b),(d,e)]=k c a b e):aa (lj [(x1,m1),(x2,m2),(x3,m3),(d,j)]) K=aa m1 λc=>aa m2 λa=>aa m3 λb=>aa j λe=>k c a b e:=by dsimp![lj,lj,lj,lj,lj];simp![iF];congr 1;funext c;congr 1;funext a;congr 1;funext b;congr 1;funext e;rwa[h c a b e]
theorem U7{K:List (Str×V)->M β}{k:V->V->V->V->V->M β}(h:∀c a b e f,K [(x1,c),(x2,a),(x3,b),(d,e),(j,f)]=k c a b e f):aa (lj [(x1,m1),(x2,m2),(x3,m3),(d,m),(j,n)]) K=aa m1 λc=>aa m2 λa=>aa m3 λb=>aa m λe=>aa n λf=>k c a b e f:=by dsimp![lj,lj,lj,lj,lj,lj];simp![iF];congr 1;funext c;congr 1;funext a;congr 1;funext b;congr 1;funext e;congr 1;funext f;rwa[h c a b e f]
section
local macro_rules (kind:=«term#[_,]»)
|s=>let e:=s[1][0];pure (zzP (zzI "V.d") #[if e.isOfKind Lean.strLitKind then zzP (zzI "Dat.str") #[zzP (zzI "T") #[e]]else zzP (zzI "Dat.int") #[e]])
variable{a b c e f g h i:Option V}{A B D E F G H I J K L N O P Q R W X Z:V}
abbrev z1:Str×Option V:=(S ".0",none)
def ll:Fn:=cy (defAt 5 top) [] false
def lm(a b:Option V):Ls:=[(`worth,a),(`width,b)]
theorem Gb(a:ae):C (k+1) `little [A,B] a=back false a.length (Sk (C k) ll 0 (lm A B) a):=∅
def tN:Expr:=gc 1 (dJ (bo 0 ll.body))
theorem Gc:Sk U ll 0 (lm a A)=aa (aa (ao [cu (aa (bI `range [A]) (bR U 21 ll.sc tN (z1::(`at,none)::lm a A)))]) λb=>bD (bi `bytes b)) λc=>ret c:=∅
theorem Gd:jg U 21 ll.sc tN y (z1::(`at,a)::lm A b)=aa (aa (aa (bD (af .Mult #[8] (V.d y))) λc=>bD (af .RShift A c)) λd=>bD (af .BitAnd d #[255])) λe=>aa (frz e) λf=>ret (z1::(`at,V.d y)::lm A b,some f):=∅
def gu:Fn:=cy (defAt 0 (clsAt 15 top)) [] false
def gv(a b c d e f:Option V):Ls:=[(`self,a),(`name,b),(`kind,c),(`key_width,d),(`value_width,e),(`most,f)]
theorem Ge(a:ae):C (k+1) `MapRow [A,B,D,E,F] a=tL a.length (back false (a++[aX.inst `MapRow [] []]).length (Sk (C k) gu 0 (gv (some (.cell a.length)) A B D E F) (a++[aX.inst `MapRow [] []]))):=∅
theorem Gf:Sk U gu 0 (gv A B a b c d)=aa (frz B) λe=>aa (dn A `name e) λY=>Sk U gu 1 (gv A B a b c d):=∅
theorem Gg:Sk U gu 1 (gv A a B b c d)=aa (frz B) λe=>aa (dn A `kind e) λY=>Sk U gu 2 (gv A a B b c d):=∅
theorem Gh:Sk U gu 2 (gv A a b B c d)=aa (frz B) λe=>aa (dn A `key_width e) λY=>Sk U gu 3 (gv A a b B c d):=∅
theorem Gi:Sk U gu 3 (gv A a b c B d)=aa (frz B) λe=>aa (dn A `value_width e) λY=>Sk U gu 4 (gv A a b c B d):=∅
def vW:Fn:=cy (defAt 1 (clsAt 15 top)) [] false
def vX(a:Option V):Ls:=[(`self,a)]
theorem tO(a:ae):C (k+1) (iu `MapRow `told) [A] a=back false a.length (Sk (C k) vW 0 (vX A) a):=∅
def ib:Fn:=cy (defAt 0 (clsAt 16 top)) [] false
def ic(a b c d e:Option V):Ls:=[(`self,a),(`maps,b),(`octets,c),(`symbols,d),(`relocations,e)]
theorem Gj(a:ae):C (k+1) `Object [A,B,D,E] a=tL a.length (back false (a++[aX.inst `Object [] []]).length (Sk (C k) ib 0 (ic (some (.cell a.length)) A B D E) (a++[aX.inst `Object [] []]))):=∅
theorem Gk:Sk U ib 0 (ic A B a b c)=aa (bD (bi `list [B])) λd=>aa (frz d) λe=>aa (dn A `maps e) λY=>Sk U ib 1 (ic A B a b c):=∅
theorem Gl:Sk U ib 1 (ic A a B b c)=aa (bD (bi `bytes [B])) λd=>aa (frz d) λe=>aa (dn A `octets e) λY=>Sk U ib 2 (ic A a B b c):=∅
theorem Gm:Sk U ib 2 (ic A a b B c)=aa (bD (bi `list [B])) λd=>aa (frz d) λe=>aa (dn A `symbols e) λY=>Sk U ib 3 (ic A a b B c):=∅
theorem Gn:Sk U ib 3 (ic A a b c B)=aa (bD (bi `list [B])) λd=>aa (frz d) λe=>aa (dn A `relocations e) λY=>ret (V.d .none):=∅
def dQ:Fn:=cy (defAt 1 (clsAt 16 top)) [] false
def dR(a b:Option V):Ls:=[(`self,a),(`rows,b)]
theorem tP(a:ae):C (k+1) (iu `Object `told) [A] a=back false a.length (Sk (C k) dQ 0 (dR A none) a):=∅
def kB:Expr:=gc 1 (dJ (bo 0 dQ.body))
theorem tQ:Sk U dQ 0 (dR A a)=aa (aa (ao [cu (aa (aa (bp A `maps) bf) (bR U 21 dQ.sc kB (z1::(`row,none)::dR A a)))]) λb=>bD (bi `tuple b)) λc=>Sk U dQ 1 (dR A c):=∅
theorem tR:Sk U dQ 1 (dR A B)=aa (jy (ao [ret B,bp A `octets,aa (ao [bp A `symbols]) λa=>bD (bi `tuple a),aa (ao [bp A `relocations]) λb=>bD (bi `tuple b)])) λc=>ret c:=∅
theorem tT:jg U 21 dQ.sc kB y (z1::(`row,a)::dR b c)=aa (cV U `told (V.d y) []) λd=>aa (frz d) λe=>ret (z1::(`row,V.d y)::dR b c,some e):=∅
def lp:Fn:=cy (defAt 2 (clsAt 16 top)) [] false
def lq(a:Option V):Ls:=[(`self,a)]
theorem rK(a:ae):C (k+1) (iu `Object `count) [A] a=back false a.length (Sk (C k) lp 0 (lq A) a):=∅
theorem rL:Sk U lp 0 (lq A)=aa (aa (aa (ao [bp A `octets]) λa=>bD (bi `len a)) λb=>bD (af .FloorDiv b #[8])) λc=>ret c:=∅
def bh:Fn:=cy (defAt 3 (clsAt 16 top)) [] false
def aU(a b c:Option V):Ls:=[(`self,a),(`name,b),(`number,c)]
theorem lr(a:ae):C (k+1) (iu `Object `map_number) [A,B] a=back false a.length (Sk (C k) bh 0 (aU A B none) a):=∅
def cD:Stmt:=bo 0 bh.body
theorem lu:Sk U bh 0 (aU A a b)=aa (aa (ao [aa (ao [bp A `maps]) λc=>bD (bi `len c)]) λd=>bI `range d) (fr U bh 23 cD (aU A a b) (λe=>Sk U bh 1 e) λf=>ret f):=∅
theorem lw:gr U bh 23 cD y (aU a b c)=Bt U bh 23 cD 0 (aU a b (V.d y)):=∅
theorem j7:Bt U bh 23 cD 0 (aU A B D)=de (aa (aa (aa (bp A `maps) λa=>bD (ay a D)) λb=>bp b `name) λc=>cmp .Eq c B) (ret (.ret D)) (ret (.next (aU A B D))):=∅
def dD:Fn:=cy (defAt 4 (clsAt 16 top)) [] false
def dE(a b c d:Option V):Ls:=[(`self,a),(`name,b),(`one,c),(`slot,d)]
theorem qM(a:ae):C (k+1) (iu `Object `symbol) [A,B] a=back false a.length (Sk (C k) dD 0 (dE A B none none) a):=∅
def jt:Stmt:=bo 0 dD.body
theorem qN:Sk U dD 0 (dE A a b c)=aa (aa (bp A `symbols) bf) (fr U dD 23 jt (dE A a b c) (λd=>Sk U dD 1 d) λe=>ret e):=∅
def bJ:Fn:=cy (defAt 5 (clsAt 16 top)) [] false
def b9(a b:Option V):Ls:=[(`self,a),(`ends,b)]
theorem mO(a:ae):C (k+1) (iu `Object `functions) [A] a=back false a.length (Sk (C k) bJ 0 (b9 A none) a):=∅
def lx:Expr:=gc 0 (dJ (bo 0 bJ.body))
def ly:Expr:=dJ (bo 1 bJ.body)
theorem mP:Sk U bJ 0 (b9 A a)=aa (aa (cu (aa (aa (aa (bp A `symbols) λb=>bD (bq b #[1] (V.d .none))) bf) (bR U 21 bJ.sc lx (z1::(`name,none)::(`slot,none)::b9 A a)))) λc=>aa (kL (ao [cV U `count A []])) λd=>bD (af .Add c d)) λe=>Sk U bJ 1 (b9 A e):=∅
theorem mQ:Sk U bJ 1 (b9 A B)=aa (cu (aa (aa (ao [bp A `symbols,ret B]) λa=>bI `zip a) (bR U 22 bJ.sc ly (z1::(`one,none)::(`end,none)::b9 A B)))) λb=>ret b:=∅
def nq:Fn:=cy (defAt 6 (clsAt 16 top)) [] false
def nr(a b:Option V):Ls:=[(`self,a),(`at,b)]
theorem tU(a:ae):C (k+1) (iu `Object `slot) [A,B] a=back false a.length (Sk (C k) nq 0 (nr A B) a):=∅
theorem tV:Sk U nq 0 (nr A B)=aa (aa (bp A `octets) λa=>aa (bD (af .Mult #[8] B)) λb=>aa (aa (bD (af .Mult #[8] B)) λc=>bD (af .Add c #[8])) λd=>bD (bq a b d)) λe=>ret e:=∅
def gT:Fn:=cy (defAt 17 top) [] false
def gU(a:Option V):Ls:=[(`text,a)]
theorem Dm(a:ae):C (k+1) `is_name [A] a=back false a.length (Sk (C k) gT 0 (gU A) a):=∅
def rz:Expr:=gc 1 (dJ (bo 1 gT.body))
theorem Dn:Sk U gT 0 (gU A)=de (hO (yC (aa (bD (bi `len [A])) λa=>JG (cmp .Lt #[0] a) (cmp .LtE a #[15]))) (hO (aa (bD (ay A #[0])) λb=>aa (bD (bq #["0123456789abcdef"] (V.d .none) #[10])) λc=>cmp .In b c) (ret false))) (ret (V.d (.bool false))) (Sk U gT 1 (gU A)):=∅
theorem Do:Sk U gT 1 (gU A)=aa (aa (ao [cu (aa (bf A) (bR U 21 gT.sc rz (z1::(`sign,none)::gU A)))]) λa=>bD (bi `all a)) λb=>ret b:=∅
theorem Dp:jg U 21 gT.sc rz y (z1::(`sign,a)::gU b)=aa (bB (cmp .In (V.d y) #["abcdefghijklmnopqrstuvwxyz0123456789_"])) λc=>aa (frz c) λd=>ret (z1::(`sign,V.d y)::gU b,some d):=∅
def cO:Fn:=cy (defAt 18 top) [] false
def cP(a b c:Option V):Ls:=[(`octets,a),(`total,b),(`place,c)]
theorem yD(a:ae):C (k+1) `check_sum [A] a=back false a.length (Sk (C k) cO 0 (cP A none none) a):=∅
def hV:Stmt:=bo 1 cO.body
theorem yE:Sk U cO 0 (cP a b c)=Sk U cO 1 (cP a (some #[0]) c):=∅
theorem yF:Sk U cO 1 (cP A a b)=aa (aa (ao [bD (bi `len [A])]) λc=>bI `range c) (fr U cO 23 hV (cP A a b) (λd=>Sk U cO 2 d) λe=>ret e):=∅
theorem yG:Sk U cO 2 (cP a A b)=aa (bD (af .BitAnd A #[4294967295])) λc=>ret c:=∅
theorem yH:gr U cO 23 hV y (cP a b c)=Bt U cO 23 hV 0 (cP a b (V.d y)):=∅
theorem tW:Bt U cO 23 hV 0 (cP A B D)=aa (aa (aa (bD (af .Add D #[1])) λa=>aa (bD (ay A D)) λb=>bD (af .Mult a b)) λc=>bD (af .Add B c)) λd=>ret (.next (cP A d D)):=∅
def lz:Fn:=cy (defAt 19 top) [] false
def lA(a:Option V):Ls:=[(`octets,a)]
theorem Gp(a:ae):C (k+1) `hex_of [A] a=back false a.length (Sk (C k) lz 0 (lA A) a):=∅
def tX:Expr:=gc 1 (dJ (bo 0 lz.body))
theorem Gq:Sk U lz 0 (lA A)=aa (cY U `join #[""] (ao [cu (aa (bf A) (bR U 21 lz.sc tX (z1::(`octet,none)::lA A)))])) λa=>ret a:=∅
theorem Gr:jg U 21 lz.sc tX y (z1::(`octet,a)::lA b)=aa (aa (aa (bD (af .RShift (V.d y) #[4])) λc=>bD (ay #["0123456789abcdef"] c)) λd=>aa (aa (bD (af .BitAnd (V.d y) #[15])) λe=>bD (ay #["0123456789abcdef"] e)) λf=>bD (af .Add d f)) λg=>aa (frz g) λh=>ret (z1::(`octet,V.d y)::lA b,some h):=∅
def aj:Fn:=cy (defAt 20 top) [`lines] true
def ah(a b c d e f g:Option V):Ls:=[(`made,a),(`lines,b),(`row,c),(`at,d),(`name,e),(`slot,f),(`way,g)]
theorem rM(a:ae):C (k+1) `object_lines [A] a=back true a.length (Sk (C k) aj 0 (ah A none none none none none none) a):=∅
def d9:Stmt:=bo 1 aj.body
def fP:Stmt:=bo 2 aj.body
def fQ:Stmt:=bo 3 aj.body
def fR:Stmt:=bo 4 aj.body
def gV:Expr:=gc 1 (gc 1 (gc 1 (dJ (bo 0 (gi d9)))))
theorem rN:Sk U aj 0 (ah a b c d e f g)=aa (SD [#["ringgate object 1"]]) λh=>Sk U aj 1 (ah a h c d e f g):=∅
theorem rO:Sk U aj 1 (ah A a b c d e f)=aa (aa (bp A `maps) bf) (fr U aj 23 d9 (ah A a b c d e f) (λg=>Sk U aj 2 g) λh=>ret h):=∅
theorem rP:Sk U aj 2 (ah A a b c d e f)=aa (aa (ao [cV U `count A []]) λg=>bI `range g) (fr U aj 23 fP (ah A a b c d e f) (λh=>Sk U aj 3 h) λi=>ret i):=∅
theorem rQ:Sk U aj 3 (ah A a b c d e f)=aa (aa (bp A `symbols) bf) (fr U aj 23 fQ (ah A a b c d e f) (λg=>Sk U aj 4 g) λh=>ret h):=∅
theorem rR:Sk U aj 4 (ah A a b c d e f)=aa (aa (bp A `relocations) bf) (fr U aj 23 fR (ah A a b c d e f) (λg=>Sk U aj 5 g) λh=>ret h):=∅
theorem rS:Sk U aj 5 (ah a A b c d e f)=ret A:=∅
theorem rT:gr U aj 23 d9 y (ah a b c d e f g)=Bt U aj 23 d9 0 (ah a b (V.d y) d e f g):=∅
theorem pq:Bt U aj 23 d9 0 (ah a A B b c d e)=aa (cY U `append A (ao [aa (cY U `join #[" "] (ao [cu (aa (aa (cV U `told B []) bf) (bR U 18 aj.sc gV (z1::(`part,none)::ah a A B b c d e)))])) λf=>bD (af .Add #["map "] f)])) λY=>ret (.next (ah a A B b c d e)):=∅
theorem rU:gr U aj 23 fP y (ah a b c d e f g)=Bt U aj 23 fP 0 (ah a b c (V.d y) e f g):=∅
theorem pu:Bt U aj 23 fP 0 (ah A B a D b c d)=aa (cY U `append B (ao [aa (aa (ao [cV U `slot A [D]]) λe=>U `hex_of e) λf=>bD (af .Add #["slot "] f)])) λY=>ret (.next (ah A B a D b c d)):=∅
theorem rV:gr U aj 23 fQ (.tuple [y0,y1]) (ah a b c d e f g)=Bt U aj 23 fQ 0 (ah a b c d (V.d y0) (V.d y1) g):=∅
theorem px:Bt U aj 23 fQ 0 (ah a A b c B D d)=aa (cY U `append A (ao [aa (aa (bD (af .Add #["symbol "] B)) λe=>bD (af .Add e #[" "])) λf=>aa (bD (bi `str [D])) λg=>bD (af .Add f g)])) λY=>ret (.next (ah a A b c B D d)):=∅
theorem rW:gr U aj 23 fR (.tuple [y0,y1,y2]) (ah a b c d e f g)=Bt U aj 23 fR 0 (ah a b c d (V.d y2) (V.d y0) (V.d y1)):=∅
theorem pz:Bt U aj 23 fR 0 (ah a A b c B D E)=aa (cY U `append A (ao [aa (aa (aa (aa (aa (bD (bi `str [D])) λd=>bD (af .Add #["relocation "] d)) λe=>bD (af .Add e #[" "])) λf=>bD (af .Add f E)) λg=>bD (af .Add g #[" "])) λh=>bD (af .Add h B)])) λY=>ret (.next (ah a A b c B D E)):=∅
theorem rX:jg U 18 aj.sc gV y (z1::(`part,a)::ah b c d e f g h)=aa (bD (bi `str [V.d y])) λi=>aa (frz i) λj=>ret (z1::(`part,V.d y)::ah b c d e f g h,some j):=∅
def ee:Fn:=cy (defAt 21 top) [] false
def el(a b:Option V):Ls:=[(`made,a),(`lines,b)]
theorem rY(a:ae):C (k+1) `write_object [A] a=back false a.length (Sk (C k) ee 0 (el A none) a):=∅
theorem rZ:Sk U ee 0 (el A a)=aa (U `object_lines [A]) λb=>Sk U ee 1 (el A b):=∅
theorem r0:Sk U ee 1 (el A B)=aa (cY U `append B (ao [aa (aa (aa (aa (ao [bD (bi `len [B])]) λa=>bD (bi `str a)) λb=>bD (af .Add #["end "] b)) λc=>bD (af .Add c #[" "])) λd=>aa (aa (ao [aa (ao [bp A `octets]) λe=>U `check_sum e]) λf=>bD (bi `str f)) λg=>bD (af .Add d g)])) λY=>Sk U ee 2 (el A B):=∅
theorem r5:Sk U ee 2 (el a A)=aa (aa (cV U `join #["\n"] [A]) λb=>bD (af .Add b #["\n"])) λc=>ret c:=∅
def j8:Fn:=cy (defAt 0 (clsAt 22 top)) [] false
def j9(a b:Option V):Ls:=[(`self,a),(`text,b)]
theorem vY(a:ae):C (k+1) `LineReader [A] a=tL a.length (back false (a++[aX.inst `LineReader [] []]).length (Sk (C k) j8 0 (j9 (some (.cell a.length)) A) (a++[aX.inst `LineReader [] []]))):=∅
theorem vZ:Sk U j8 0 (j9 A B)=aa (cV U `split B [#["\n"]]) λa=>aa (frz a) λb=>aa (dn A `lines b) λY=>Sk U j8 1 (j9 A B):=∅
def eJ:Fn:=cy (defAt 1 (clsAt 22 top)) [] false
def eM(a:Option V):Ls:=[(`self,a)]
theorem mR(a:ae):C (k+1) (iu `LineReader `words) [A] a=back false a.length (Sk (C k) eJ 0 (eM A) a):=∅
theorem mS:Sk U eJ 0 (eM A)=de (aa (bp A `at) λa=>aa (aa (ao [bp A `lines]) λb=>bD (bi `len b)) λc=>cmp .Gt a c) (aa (ao [ret #["a line lacks"],bp A `at]) λY=>D5 `TextError) (Sk U eJ 1 (eM A)):=∅
theorem mT:Sk U eJ 1 (eM A)=aa (aa (aa (bp A `lines) λa=>aa (aa (bp A `at) λb=>bD (af .Sub b #[1])) λc=>bD (ay a c)) λd=>cV U `split d [#[" "]]) λe=>ret e:=∅
def ie:Fn:=cy (defAt 2 (clsAt 22 top)) [] false
def ig(a b:Option V):Ls:=[(`self,a),(`word,b)]
theorem kM(a:ae):C (k+1) (iu `LineReader `is_next) [A,B] a=back false a.length (Sk (C k) ie 0 (ig A B) a):=∅
theorem kO:Sk U ie 0 (ig A B)=aa (aa (aa (cV U `words A []) λa=>bD (ay a #[0])) λb=>bB (cmp .Eq b B)) λc=>ret c:=∅
def bT:Fn:=cy (defAt 3 (clsAt 22 top)) [] false
def bU(a b c:Option V):Ls:=[(`self,a),(`count,b),(`words,c)]
theorem nN(a:ae):C (k+1) (iu `LineReader `take) [A,B] a=back false a.length (Sk (C k) bT 0 (bU A B none) a):=∅
theorem nO:Sk U bT 0 (bU A a b)=aa (cV U `words A []) λc=>Sk U bT 1 (bU A a c):=∅
theorem nP:Sk U bT 1 (bU A B D)=de (aa (bD (bi `len [D])) λa=>cmp .NotEq a B) (aa (ao [ret #["words"],bp A `at]) λY=>D5 `TextError) (Sk U bT 2 (bU A B D)):=∅
theorem nQ:Sk U bT 2 (bU A a b)=aa (aa (bp A `at) λc=>bD (af .Add c #[1])) λd=>aa (frz d) λe=>aa (dn A `at e) λY=>Sk U bT 3 (bU A a b):=∅
theorem nR:Sk U bT 3 (bU a b A)=ret A:=∅
def iy:Fn:=cy (defAt 4 (clsAt 22 top)) [] false
def iz(a b:Option V):Ls:=[(`self,a),(`what,b)]
theorem lB(a:ae):C (k+1) (iu `LineReader `refuse) [A,B] a=back false a.length (Sk (C k) iy 0 (iz A B) a):=∅
theorem lC:Sk U iy 0 (iz A B)=aa (ao [ret B,aa (bp A `at) λa=>bD (af .Sub a #[1])]) λY=>D5 `TextError:=∅
variable{a b c d e f g h i j q l:Option V}{A B D E F G H I J K L N O P Q R W X Z:V}
def bj:Fn:=cy (defAt 5 (clsAt 22 top)) [] false
def bk(a b:Option V):Ls:=[(`self,a),(`word,b)]
theorem lD(a:ae):C (k+1) (iu `LineReader `number) [A,B] a=back false a.length (Sk (C k) bj 0 (bk A B) a):=∅
def fk:Expr:=gc 1 (gc 0 (gc 1 (dJ (bo 0 bj.body))))
theorem lE:Sk U bj 0 (bk A B)=de (hO (yC (aa (bD (bi `len [B])) λa=>JG (cmp .Lt #[0] a) (cmp .LtE a #[10]))) (hO (yC (AB (aa (ao [cu (aa (bf B) (bR U 18 bj.sc fk (z1::(`sign,none)::bk A B)))]) λb=>bD (bi `all b)))) (hO (fO (aa (bD (ay B #[0])) λc=>cmp .Eq c #["0"]) (fO (cmp .NotEq B #["0"]) (ret true))) (ret false)))) (aa (cV U `refuse A [#["number"]]) λY=>Sk U bj 1 (bk A B)) (Sk U bj 1 (bk A B)):=∅
theorem lF:Sk U bj 1 (bk a A)=aa (bD (bi `int [A])) λb=>ret b:=∅
theorem lG:jg U 18 bj.sc fk y (z1::(`sign,a)::bk b c)=aa (bB (aa (bD (bq #["0123456789abcdef"] (V.d .none) #[10])) λd=>cmp .In (V.d y) d)) λe=>aa (frz e) λf=>ret (z1::(`sign,V.d y)::bk b c,some f):=∅
def fm:Fn:=cy (defAt 6 (clsAt 22 top)) [] false
def fq(a b:Option V):Ls:=[(`self,a),(`word,b)]
theorem nT(a:ae):C (k+1) (iu `LineReader `name) [A,B] a=back false a.length (Sk (C k) fm 0 (fq A B) a):=∅
theorem nU:Sk U fm 0 (fq A B)=de (yC (AB (U `is_name [B]))) (aa (cV U `refuse A [#["name"]]) λY=>Sk U fm 1 (fq A B)) (Sk U fm 1 (fq A B)):=∅
def bz:Fn:=cy (defAt 23 top) [] false
def bA(a b c d e:Option V):Ls:=[(`reader,a),(`names,b),(`words,c),(`name,d),(`widths,e)]
theorem AC(a:ae):C (k+1) `read_map [A,B] a=back false a.length (Sk (C k) bz 0 (bA A B none none none) a):=∅
def ka:Expr:=dJ (bo 3 bz.body)
theorem AD:Sk U bz 0 (bA A a b c d)=aa (cV U `take A [#[6]]) λe=>Sk U bz 1 (bA A a e c d):=∅
theorem AE:Sk U bz 1 (bA A a B b c)=aa (cY U `name A (ao [bD (ay B #[1])])) λd=>Sk U bz 2 (bA A a B d c):=∅
theorem AF:Sk U bz 2 (bA A B a D b)=de (cmp .In D B) (aa (cV U `refuse A [#["name told twice"]]) λY=>Sk U bz 3 (bA A B a D b)) (Sk U bz 3 (bA A B a D b)):=∅
theorem AG:Sk U bz 3 (bA a b A c d)=aa (cu (aa (aa (bD (bq A #[3] (V.d .none))) bf) (bR U 22 bz.sc ka (z1::(`word,none)::bA a b A c d)))) λe=>Sk U bz 4 (bA a b A c e):=∅
theorem AH:Sk U bz 4 (bA A a B b c)=de (yC (AB (aa (ao [bD (ay B #[2])]) λd=>U `is_name d))) (aa (cV U `refuse A [#["kind"]]) λY=>Sk U bz 5 (bA A a B b c)) (Sk U bz 5 (bA A a B b c)):=∅
theorem AI:Sk U bz 5 (bA a b A B D)=aa (aa (ao [ret B,bD (ay A #[2]),bD (ay D #[0]),bD (ay D #[1]),bD (ay D #[2])]) λc=>U `MapRow c) λd=>ret d:=∅
theorem AJ:jg U 22 bz.sc ka y (z1::(`word,a)::bA A b c d e)=aa (cV U `number A [V.d y]) λf=>aa (frz f) λg=>ret (z1::(`word,V.d y)::bA A b c d e,some g):=∅
def cA:Fn:=cy (defAt 24 top) [] false
def cQ(a b:Option V):Ls:=[(`reader,a),(`figures,b)]
theorem yI(a:ae):C (k+1) `read_slot [A] a=back false a.length (Sk (C k) cA 0 (cQ A none) a):=∅
def wa:Expr:=gc 1 (gc 0 (gc 1 (dJ (bo 1 cA.body))))
def nt:Expr:=gc 1 (dJ (bo 2 cA.body))
theorem yJ:Sk U cA 0 (cQ A a)=aa (aa (cV U `take A [#[2]]) λb=>bD (ay b #[1])) λc=>Sk U cA 1 (cQ A c):=∅
theorem yK:Sk U cA 1 (cQ A B)=de (hO (aa (bD (bi `len [B])) λa=>aa (bD (af .Mult #[2] #[8])) λb=>cmp .NotEq a b) (hO (yC (AB (aa (ao [cu (aa (bf B) (bR U 18 cA.sc wa (z1::(`sign,none)::cQ A B)))]) λc=>bD (bi `all c)))) (ret false))) (aa (cV U `refuse A [#["octets"]]) λY=>Sk U cA 2 (cQ A B)) (Sk U cA 2 (cQ A B)):=∅
theorem yL:Sk U cA 2 (cQ a A)=aa (aa (ao [cu (aa (aa (ao [ret #[0],bD (bi `len [A]),ret #[2]]) λb=>bI `range b) (bR U 21 cA.sc nt (z1::(`at,none)::cQ a A)))]) λc=>bD (bi `bytes c)) λd=>ret d:=∅
theorem yM:jg U 21 cA.sc nt y (z1::(`at,a)::cQ b A)=aa (aa (ao [aa (bD (af .Add (V.d y) #[2])) λc=>bD (bq A (V.d y) c),ret #[16]]) λd=>bD (bi `int d)) λe=>aa (frz e) λf=>ret (z1::(`at,V.d y)::cQ b A,some f):=∅
def bc:Fn:=cy (defAt 25 top) [] false
def bv(a b c d e f:Option V):Ls:=[(`reader,a),(`symbols,b),(`count,c),(`words,d),(`name,e),(`slot,f)]
theorem tY(a:ae):C (k+1) `read_symbol [A,B,D] a=back false a.length (Sk (C k) bc 0 (bv A B D none none none) a):=∅
def r6:Expr:=gc 1 (dJ (bo 2 bc.body))
theorem tZ:Sk U bc 0 (bv A a b c d e)=aa (cV U `take A [#[3]]) λf=>Sk U bc 1 (bv A a b f d e):=∅
theorem t4:Sk U bc 1 (bv A a c B d e)=aa (cY U `name A (ao [bD (ay B #[1])])) λf=>aa (cY U `number A (ao [bD (ay B #[2])])) λg=>Sk U bc 2 (bv A a c B f g):=Vn (b:=aa (lj [(`name,cY U `name A (ao [bD (ay B #[1])])),(`slot,cY U `number A (ao [bD (ay B #[2])]))]) λh=>aa (gg (aV bc.sc) h (bv A a c B d e)) λi=>Sk U bc 2 i) ∅ (OU λf g=>∅)
theorem t5:Sk U bc 2 (bv A B a b D c)=de (aa (cu (aa (bf B) (bR U 21 bc.sc r6 (z1::(`one,none)::(`other,none)::bv A B a b D c)))) λd=>cmp .In D d) (aa (cV U `refuse A [#["name told twice"]]) λY=>Sk U bc 3 (bv A B a b D c)) (Sk U bc 3 (bv A B a b D c)):=∅
theorem t6:Sk U bc 3 (bv A B D a b E)=de (hO (cmp .GtE E D) (hO (fO (cmp .NotEq B (V.d (.list []))) (fO (aa (aa (bD (ay B #[-1])) λc=>bD (ay c #[1])) λd=>cmp .LtE E d) (ret true))) (hO (fO (cmp .Eq B (V.d (.list []))) (fO (cmp .NotEq E #[0]) (ret true))) (ret false)))) (aa (cV U `refuse A [#["symbol out of order"]]) λY=>Sk U bc 4 (bv A B D a b E)) (Sk U bc 4 (bv A B D a b E)):=∅
def aI:Fn:=cy (defAt 26 top) [] false
def aN(a b c d e f:Option V):Ls:=[(`reader,a),(`relocations,b),(`count,c),(`words,d),(`slot,e),(`name,f)]
theorem nV(a:ae):C (k+1) `read_relocation [A,B,D] a=back false a.length (Sk (C k) aI 0 (aN A B D none none none) a):=∅
theorem nW:Sk U aI 0 (aN A a b c d e)=aa (cV U `take A [#[4]]) λf=>Sk U aI 1 (aN A a b f d e):=∅
theorem nX:Sk U aI 1 (aN A a c B d e)=aa (cY U `number A (ao [bD (ay B #[1])])) λf=>aa (cY U `name A (ao [bD (ay B #[3])])) λg=>Sk U aI 2 (aN A a c B f g):=Vn (b:=aa (lj [(`slot,cY U `number A (ao [bD (ay B #[1])])),(`name,cY U `name A (ao [bD (ay B #[3])]))]) λh=>aa (gg (aV aI.sc) h (aN A a c B d e)) λi=>Sk U aI 2 i) ∅ (OU λf g=>∅)
theorem nY:Sk U aI 2 (aN A a b B c d)=de (aa (bD (ay B #[2])) λe=>aa (nM [#["map"],#["call"]]) λf=>cmp .NotIn e f) (aa (cV U `refuse A [#["relocation"]]) λY=>Sk U aI 3 (aN A a b B c d)) (Sk U aI 3 (aN A a b B c d)):=∅
theorem nZ:Sk U aI 3 (aN A B D a E b)=de (hO (cmp .GtE E D) (hO (fO (cmp .NotEq B (V.d (.list []))) (fO (aa (aa (bD (ay B #[-1])) λc=>bD (ay c #[0])) λd=>cmp .LtE E d) (ret true))) (ret false))) (aa (cV U `refuse A [#["relocation out of order"]]) λY=>Sk U aI 4 (aN A B D a E b)) (Sk U aI 4 (aN A B D a E b)):=∅
theorem n0:Sk U aI 4 (aN a b c A B D)=aa (jy (ao [ret B,bD (ay A #[2]),ret D])) λd=>ret d:=∅
def ab:Fn:=cy (defAt 27 top) [`maps,`symbols,`relocations] false
def ag(a b c d e f g h:Option V):Ls:=[(`text,a),(`reader,b),(`maps,c),(`octets,d),(`symbols,e),(`relocations,f),(`count,g),(`words,h)]
theorem t7(a:ae):C (k+1) `read_object [A] a=back false a.length (Sk (C k) ab 0 (ag A none none none none none none none) a):=∅
def dG:Stmt:=bo 2 ab.body
def eR:Stmt:=bo 3 ab.body
def eU:Stmt:=bo 4 ab.body
def eV:Stmt:=bo 5 ab.body
def r7:Expr:=gc 2 (gc 1 (dJ (bo 0 (gi dG))))
theorem t8:Sk U ab 0 (ag A a c d e f g h)=aa (U `LineReader [A]) λi=>aa (aM (.list [])) λj=>aa (ret (V.d (.bytes []))) λq=>aa (aM (.list [])) λl=>aa (aM (.list [])) λm=>Sk U ab 1 (ag A i j q l m g h):=Vn (b:=aa (lj [(`reader,U `LineReader [A]),(`maps,aM (.list [])),(`octets,ret (V.d (.bytes []))),(`symbols,aM (.list [])),(`relocations,aM (.list []))]) λn=>aa (gg (aV ab.sc) n (ag A a c d e f g h)) λo=>Sk U ab 1 o) ∅ (U7 λi j q l m=>∅)
theorem t9:Sk U ab 1 (ag a A b c d e f g)=de (aa (cV U `take A [#[3]]) λh=>aa (cV U `split #["ringgate object 1"] [#[" "]]) λi=>cmp .NotEq h i) (aa (cV U `refuse A [#["head"]]) λY=>Sk U ab 2 (ag a A b c d e f g)) (Sk U ab 2 (ag a A b c d e f g)):=∅
theorem ua:Sk U ab 2 (ag a b c d e f g h)=wh U ab 23 dG (ag a b c d e f g h) (λi=>Sk U ab 3 i) λj=>ret j:=∅
theorem ub:Sk U ab 3 (ag a b c d e f g h)=wh U ab 23 eR (ag a b c d e f g h) (λi=>Sk U ab 4 i) λj=>ret j:=∅
theorem uc:Sk U ab 4 (ag a b c d e f g h)=wh U ab 23 eU (ag a b c d e f g h) (λi=>Sk U ab 5 i) λj=>ret j:=∅
theorem ud:Sk U ab 5 (ag a b c d e f g h)=wh U ab 23 eV (ag a b c d e f g h) (λi=>Sk U ab 6 i) λj=>ret j:=∅
theorem ue:Sk U ab 6 (ag a A c d e f g h)=aa (aa (bp A `at) λi=>bD (af .Sub i #[1])) λj=>aa (cV U `take A [#[3]]) λq=>Sk U ab 7 (ag a A c d e f j q):=Vn (b:=aa (lj [(`count,aa (bp A `at) λi=>bD (af .Sub i #[1])),(`words,cV U `take A [#[3]])]) λl=>aa (gg (aV ab.sc) l (ag a A c d e f g h)) λm=>Sk U ab 7 m) ∅ (OU λj q=>∅)
theorem uf:Sk U ab 7 (ag a A b c d e B D)=de (hO (aa (bD (ay D #[0])) λf=>cmp .NotEq f #["end"]) (hO (aa (cY U `number A (ao [bD (ay D #[1])])) λg=>cmp .NotEq g B) (ret false))) (aa (cV U `refuse A [#["end"]]) λY=>Sk U ab 8 (ag a A b c d e B D)) (Sk U ab 8 (ag a A b c d e B D)):=∅
theorem ug:Sk U ab 8 (ag a A b B c d e D)=de (aa (cY U `number A (ao [bD (ay D #[2])])) λf=>aa (U `check_sum [B]) λg=>cmp .NotEq f g) (aa (cV U `refuse A [#["sum"]]) λY=>Sk U ab 9 (ag a A b B c d e D)) (Sk U ab 9 (ag a A b B c d e D)):=∅
theorem uh:Sk U ab 9 (ag a A b c d e f g)=de (aa (aa (bp A `lines) λh=>aa (aa (bp A `at) λi=>bD (af .Sub i #[1])) λj=>bD (bq h j (V.d .none))) λq=>aa (li [#[""]]) λl=>cmp .NotEq q l) (aa (ao [ret #["more behind the end"],bp A `at]) λY=>D5 `TextError) (Sk U ab 10 (ag a A b c d e f g)):=∅
theorem r8:Sk U ab 10 (ag a b A B D E c d)=aa (U `Object [A,B,D,E]) λe=>ret e:=∅
theorem ui:Dl U ab 23 dG (ag a A b c d e f g)=AB (cV U `is_next A [#["map"]]):=∅
theorem qO:Bt U ab 23 dG 0 (ag a A B b c d e f)=aa (cY U `append B (ao [aa (ao [ret A,cu (aa (bf B) (bR U 19 ab.sc r7 (z1::(`row,none)::ag a A B b c d e f)))]) λg=>U `read_map g])) λY=>ret (.next (ag a A B b c d e f)):=∅
theorem uj:Dl U ab 23 eR (ag a A b c d e f g)=AB (cV U `is_next A [#["slot"]]):=∅
theorem qP:Bt U ab 23 eR 0 (ag a A b B c d e f)=aa (aa (U `read_slot [A]) λg=>bD (af .Add B g)) λh=>ret (.next (ag a A b h c d e f)):=∅
theorem uk:Dl U ab 23 eU (ag a A b c d e f g)=AB (cV U `is_next A [#["symbol"]]):=∅
theorem qQ:Bt U ab 23 eU 0 (ag a A b B D c d e)=aa (cY U `append D (ao [aa (ao [ret A,ret D,aa (bD (bi `len [B])) λf=>bD (af .FloorDiv f #[8])]) λg=>U `read_symbol g])) λY=>ret (.next (ag a A b B D c d e)):=∅
theorem ul:Dl U ab 23 eV (ag a A b c d e f g)=AB (cV U `is_next A [#["relocation"]]):=∅
theorem qR:Bt U ab 23 eV 0 (ag a A b B c D d e)=aa (cY U `append D (ao [aa (ao [ret A,ret D,aa (bD (bi `len [B])) λf=>bD (af .FloorDiv f #[8])]) λg=>U `read_relocation g])) λY=>ret (.next (ag a A b B c D d e)):=∅
def cH:Fn:=cy (defAt 28 top) [] false
def dg(a b c d e:Option V):Ls:=[(`made,a),(`slot,b),(`name,c),(`number,d),(`old,e)]
theorem wb(a:ae):C (k+1) `filled_map [A,B,D] a=back false a.length (Sk (C k) cH 0 (dg A B D none none) a):=∅
theorem wc:Sk U cH 0 (dg A B D a c)=aa (cV U `map_number A [D]) λd=>aa (cV U `slot A [B]) λe=>Sk U cH 1 (dg A B D d e):=Vn (b:=aa (lj [(`number,cV U `map_number A [D]),(`old,cV U `slot A [B])]) λf=>aa (gg (aV cH.sc) f (dg A B D a c)) λg=>Sk U cH 1 g) ∅ (OU λd e=>∅)
theorem we:Sk U cH 1 (dg a A b B c)=de (cmp .Lt B #[0]) (D5 `ProgramError) (Sk U cH 2 (dg a A b B c)):=∅
theorem wg:Sk U cH 2 (dg A B a b D)=de (hO (aa (bD (ay D #[0])) λc=>cmp .NotEq c #[24]) (hO (aa (aa (bD (ay D #[1])) λd=>bD (af .RShift d #[4])) λe=>cmp .NotEq e #[0]) (hO (aa (aa (bD (bq D #[2] (V.d .none))) λf=>aa (cY U `slot A (ao [bD (af .Add B #[1])])) λg=>bD (af .Add f g)) λh=>aa (bD (bi `bytes [#[14]])) λi=>cmp .NotEq h i) (ret false)))) (D5 `ProgramError) (Sk U cH 3 (dg A B a b D)):=∅
theorem wi:Sk U cH 3 (dg a b c A B)=aa (aa (aa (ao [kL (ao [bD (ay B #[0]),aa (bD (ay B #[1])) λd=>aa (bD (af .LShift #[1] #[4])) λe=>bD (af .BitOr d e),ret #[0],ret #[0]])]) λf=>bD (bi `bytes f)) λg=>aa (U `little [A,#[4]]) λh=>bD (af .Add g h)) λi=>ret i:=∅
def ck:Fn:=cy (defAt 29 top) [] false
def cJ(a b c d e:Option V):Ls:=[(`made,a),(`slot,b),(`name,c),(`goal,d),(`old,e)]
theorem um(a:ae):C (k+1) `filled_call [A,B,D] a=back false a.length (Sk (C k) ck 0 (cJ A B D none none) a):=∅
theorem uo:Sk U ck 0 (cJ A B D a c)=aa (cV U `symbol A [D]) λd=>aa (cV U `slot A [B]) λe=>Sk U ck 1 (cJ A B D d e):=Vn (b:=aa (lj [(`goal,cV U `symbol A [D]),(`old,cV U `slot A [B])]) λf=>aa (gg (aV ck.sc) f (cJ A B D a c)) λg=>Sk U ck 1 g) ∅ (OU λd e=>∅)
theorem uq:Sk U ck 1 (cJ a A b B c)=de (cmp .Lt B #[0]) (D5 `ProgramError) (Sk U ck 2 (cJ a A b B c)):=∅
theorem ur:Sk U ck 2 (cJ a A b c B)=de (aa (aa (ao [kL (ao [ret #[133],bD (af .LShift #[1] #[4]),ret #[0],ret #[0],ret #[255],ret #[255],ret #[255],ret #[255]])]) λd=>bD (bi `bytes d)) λe=>cmp .NotEq B e) (D5 `ProgramError) (Sk U ck 3 (cJ a A b c B)):=∅
theorem ut:Sk U ck 3 (cJ a A b B D)=aa (aa (bD (bq D (V.d .none) #[4])) λc=>aa (aa (ao [aa (bD (af .Sub B A)) λd=>bD (af .Sub d #[1]),ret #[4]]) λe=>U `little e) λf=>bD (af .Add c f)) λg=>ret g:=∅
def c6:Fn:=cy (defAt 30 top) [`rows] false
def dK(a b c d e:Option V):Ls:=[(`made,a),(`rows,b),(`slot,c),(`way,d),(`name,e)]
theorem Gs(a:ae):C (k+1) `filled [A] a=back false a.length (Sk (C k) c6 0 (dK A none none none none) a):=∅
def iU:Stmt:=bo 1 c6.body
def uu:Expr:=dJ (bo 0 c6.body)
theorem Gu:Sk U c6 0 (dK A a b c d)=aa (M9 (aa (aa (ao [cV U `count A []]) λe=>bI `range e) (bR U 22 c6.sc uu (z1::(`at,none)::dK A a b c d)))) λf=>Sk U c6 1 (dK A f b c d):=∅
theorem Gv:Sk U c6 1 (dK A a b c d)=aa (aa (bp A `relocations) bf) (fr U c6 23 iU (dK A a b c d) (λe=>Sk U c6 2 e) λf=>ret f):=∅
theorem Gw:Sk U c6 2 (dK a A b c d)=aa (cV U `join (V.d (.bytes [])) [A]) λe=>ret e:=∅
theorem Gx:gr U c6 23 iU (.tuple [y0,y1,y2]) (dK a b c d e)=Bt U c6 23 iU 0 (dK a b (V.d y0) (V.d y1) (V.d y2)):=∅
theorem AK:Bt U c6 23 iU 0 (dK A B D E F)=aa (de (cmp .Eq E #["map"]) (U `filled_map [A,D,F]) (U `filled_call [A,D,F])) λa=>aa (frz a) λb=>aa (dq B D b) λY=>ret (.next (dK A B D E F)):=∅
theorem Gy:jg U 22 c6.sc uu y (z1::(`at,a)::dK A b c d e)=aa (cV U `slot A [V.d y]) λf=>aa (frz f) λg=>ret (z1::(`at,V.d y)::dK A b c d e,some g):=∅
def cq:Fn:=cy (defAt 31 top) [`found,`by_name] false
def bK(a b c d e:Option V):Ls:=[(`objects,a),(`found,b),(`by_name,c),(`made,d),(`row,e)]
theorem uw(a:ae):C (k+1) `joined_maps [A] a=back false a.length (Sk (C k) cq 0 (bK A none none none none) a):=∅
def il:Stmt:=bo 1 cq.body
def eW:Stmt:=bo 0 (gi il)
theorem ux:gr U cq 22 eW y (bK a b c d e)=Bt U cq 22 eW 0 (bK a b c d (V.d y)):=∅
theorem qS:Bt U cq 22 eW 0 (bK a A B b D)=de (aa (bp D `name) λc=>cmp .NotIn c B) (aa (bp D `name) λd=>aa (frz D) λe=>aa (dq B d e) λY=>aa (cV U `append A [D]) λY=>ret (.next (bK a A B b D))) (de (aa (aa (aa (bp D `name) λf=>bD (ay B f)) λg=>cV U `told g []) λh=>aa (cV U `told D []) λi=>cmp .NotEq h i) (D5 `MapError) (ret (.next (bK a A B b D)))):=∅
def cB:Fn:=cy (defAt 32 top) [`symbols,`relocations,`seen] false
def cC(a b c d e f g h i:Option V):Ls:=[(`objects,a),(`octets,b),(`symbols,c),(`relocations,d),(`seen,e),(`made,f),(`base,g),(`name,h),(`slot,i)]
theorem Na(a:ae):C (k+1) `join [A] a=back false a.length (Sk (C k) cB 0 (cC A none none none none none none none none) a):=∅
def eX:Stmt:=bo 1 cB.body
def gx:Stmt:=bo 1 (gi eX)
def JH:Expr:=gc 1 (dJ (bo 2 (gi eX)))
theorem Nb:Sk U cB 0 (cC a c d e f g h i j)=aa (ret (V.d (.bytes []))) λq=>aa (aM (.list [])) λl=>aa (aM (.list [])) λm=>aa (aM (.list [])) λn=>Sk U cB 1 (cC a q l m n g h i j):=Vn (b:=aa (lj [(`octets,ret (V.d (.bytes []))),(`symbols,aM (.list [])),(`relocations,aM (.list [])),(`seen,aM (.list []))]) λo=>aa (gg (aV cB.sc) o (cC a c d e f g h i j)) λp=>Sk U cB 1 p) ∅ (UX λq l m n=>∅)
theorem Nc:Sk U cB 2 (cC A B D E a b c d e)=aa (aa (ao [U `joined_maps [A],ret B,ret D,ret E]) λf=>U `Object f) λg=>ret g:=∅
theorem Nd:gr U cB 23 eX y (cC a b c d e f g h i)=Bt U cB 23 eX 0 (cC a b c d e (V.d y) g h i):=∅
theorem Gz:Bt U cB 23 eX 0 (cC a A b c d e f g h)=aa (aa (bD (bi `len [A])) λi=>bD (af .FloorDiv i #[8])) λj=>Bt U cB 23 eX 1 (cC a A b c d e j g h):=∅
theorem GA:Bt U cB 23 eX 2 (cC a b c A d B e f g)=aa (cY U `extend A (ao [cu (aa (aa (bp B `relocations) bf) (bR U 20 cB.sc JH (z1::(`slot,none)::(`way,none)::(`name,none)::cC a b c A d B e f g)))])) λY=>Bt U cB 23 eX 3 (cC a b c A d B e f g):=∅
theorem GB:Bt U cB 23 eX 3 (cC a A b c d B e f g)=aa (aa (bp B `octets) λh=>bD (af .Add A h)) λi=>ret (.next (cC a i b c d B e f g)):=∅
theorem Nf:gr U cB 22 gx (.tuple [y0,y1]) (cC a b c d e f g h i)=Bt U cB 22 gx 0 (cC a b c d e f g (V.d y0) (V.d y1)):=∅
theorem GC:Bt U cB 22 gx 0 (cC a b c d A e B D E)=de (cmp .In D A) (aa (ao [ret #["function told twice"],bD (af .Add B E)]) λY=>D5 `ProgramError) (Bt U cB 22 gx 1 (cC a b c d A e B D E)):=∅
theorem GD:Bt U cB 22 gx 1 (cC a b c d A e f B g)=aa (cV U `append A [B]) λY=>Bt U cB 22 gx 2 (cC a b c d A e f B g):=∅
theorem GE:Bt U cB 22 gx 2 (cC a b A c d e B D E)=aa (cY U `append A (ao [jy (ao [ret D,bD (af .Add B E)])])) λY=>ret (.next (cC a b A c d e B D E)):=∅
def aK:Fn:=cy (defAt 33 top) [`found,`waiting] false
def aO(a b c d e f g:Option V):Ls:=[(`made,a),(`name,b),(`found,c),(`waiting,d),(`one,e),(`begin,f),(`end,g)]
theorem GF(a:ae):C (k+1) `needed [A] a=back false a.length (Sk (C k) aK 0 (aO A none none none none none none) a):=∅
def cZ:Stmt:=bo 1 aK.body
def fF:Stmt:=bo 3 (gi cZ)
def n5:Expr:=gc 1 (dJ (bo 0 aK.body))
def n6:Expr:=dJ (bo 2 aK.body)
def uy:Expr:=gc 1 (dJ (bo 0 (gi (bo 0 (gi fF)))))
theorem GG:Sk U aK 0 (aO A a c d e f g)=aa (aM (.list [])) λh=>aa (M9 (aa (aa (aa (bp A `symbols) λi=>bD (bq i (V.d .none) #[1])) bf) (bR U 22 aK.sc n5 (z1::(`name,none)::(`slot,none)::aO A a c d e f g)))) λj=>Sk U aK 1 (aO A a h j e f g):=Vn (b:=aa (lj [(`found,aM (.list [])),(`waiting,M9 (aa (aa (aa (bp A `symbols) λi=>bD (bq i (V.d .none) #[1])) bf) (bR U 22 aK.sc n5 (z1::(`name,none)::(`slot,none)::aO A a c d e f g))))]) λq=>aa (gg (aV aK.sc) q (aO A a c d e f g)) λl=>Sk U aK 1 l) ∅ (OU λh j=>∅)
theorem GH:Sk U aK 2 (aO A a b c d e f)=aa (cu (aa (aa (bp A `symbols) bf) (bR U 22 aK.sc n6 (z1::(`name,none)::(`slot,none)::aO A a b c d e f)))) λg=>ret g:=∅
theorem GI:Dl U aK 23 cZ (aO a b c A d e f)=cmp .NotEq A (V.d (.list [])):=∅
theorem AL:Bt U aK 23 cZ 0 (aO a b c A d e f)=aa (cV U `pop A []) λg=>Bt U aK 23 cZ 1 (aO a g c A d e f):=∅
theorem AM:Bt U aK 23 cZ 1 (aO A B D a b c d)=de (hO (cmp .In B D) (hO (aa (cV U `symbol A [B]) λe=>cmp .Lt e #[0]) (ret false))) (ret (.next (aO A B D a b c d))) (Bt U aK 23 cZ 2 (aO A B D a b c d)):=∅
theorem AN:Bt U aK 23 cZ 2 (aO a A B b c d e)=aa (cV U `append B [A]) λY=>Bt U aK 23 cZ 3 (aO a A B b c d e):=∅
theorem AO:Bt U aK 23 cZ 3 (aO A a b c d e f)=aa (aa (cV U `functions A []) bf) (fr U aK 22 fF (aO A a b c d e f) (λg=>ret (.next g)) λh=>ret (.ret h)):=∅
theorem GJ:gr U aK 22 fF (.tuple [y0,y1,y2]) (aO a b c d e f g)=Bt U aK 22 fF 0 (aO a b c d (V.d y0) (V.d y1) (V.d y2)):=∅
theorem AP:Bt U aK 22 fF 0 (aO A B a D E b c)=de (cmp .Eq E B) (aa (cY U `extend D (ao [cu (aa (aa (bp A `relocations) bf) (bR U 18 aK.sc uy (z1::(`slot,none)::(`way,none)::(`goal,none)::aO A B a D E b c)))])) λY=>ret (.next (aO A B a D E b c))) (ret (.next (aO A B a D E b c))):=∅
theorem GK:jg U 22 aK.sc n6 (.tuple [y0,y1]) (z1::(`name,a)::(`slot,b)::aO c d A e f g h)=de (de (cmp .In (V.d y0) A) (ret true) (ret false)) (aa (frz (V.d y0)) λi=>ret (z1::(`name,V.d y0)::(`slot,V.d y1)::aO c d A e f g h,some i)) (ret (z1::(`name,V.d y0)::(`slot,V.d y1)::aO c d A e f g h,none)):=∅
theorem GL:jg U 18 aK.sc uy (.tuple [y0,y1,y2]) (z1::(`slot,a)::(`way,b)::(`goal,c)::aO d e f g h A B)=de (de (fO (cmp .Eq (V.d y1) #["call"]) (fO (JG (cmp .LtE A (V.d y0)) (cmp .Lt (V.d y0) B)) (ret true))) (ret true) (ret false)) (aa (frz (V.d y2)) λi=>ret (z1::(`slot,V.d y0)::(`way,V.d y1)::(`goal,V.d y2)::aO d e f g h A B,some i)) (ret (z1::(`slot,V.d y0)::(`way,V.d y1)::(`goal,V.d y2)::aO d e f g h A B,none)):=∅
def bQ:Fn:=cy (defAt 34 top) [`symbols,`relocations] false
def bH(a b c d e f g h i j:Option V):Ls:=[(`made,a),(`kept,b),(`octets,c),(`symbols,d),(`relocations,e),(`name,f),(`begin,g),(`end,h),(`base,i),(`used,j)]
theorem JI(a:ae):C (k+1) `strip [A] a=back false a.length (Sk (C k) bQ 0 (bH A none none none none none none none none none) a):=∅
def gW:Stmt:=bo 1 bQ.body
def qT:Expr:=dJ (bo 2 bQ.body)
def xp:Expr:=gc 1 (dJ (bo 3 bQ.body))
def xq:Expr:=gc 1 (dJ (bo 2 (gi (bo 0 (gi gW)))))
theorem JJ:Sk U bQ 0 (bH A a c d e f g h i j)=aa (U `needed [A]) λq=>aa (ret (V.d (.bytes []))) λl=>aa (aM (.list [])) λm=>aa (aM (.list [])) λn=>Sk U bQ 1 (bH A q l m n f g h i j):=Vn (b:=aa (lj [(`kept,U `needed [A]),(`octets,ret (V.d (.bytes []))),(`symbols,aM (.list [])),(`relocations,aM (.list []))]) λo=>aa (gg (aV bQ.sc) o (bH A a c d e f g h i j)) λp=>Sk U bQ 1 p) ∅ (UX λq l m n=>∅)
theorem JK:Sk U bQ 1 (bH A a b c d e f g h i)=aa (aa (cV U `functions A []) bf) (fr U bQ 23 gW (bH A a b c d e f g h i) (λj=>Sk U bQ 2 j) λq=>ret q):=∅
theorem JL:Sk U bQ 2 (bH a b c d A e f g h i)=aa (cu (aa (bf A) (bR U 22 bQ.sc qT (z1::(`slot,none)::(`way,none)::(`name,none)::bH a b c d A e f g h i)))) λj=>Sk U bQ 3 (bH a b c d A e f g h j):=∅
theorem JM:Sk U bQ 3 (bH A a B D E b c d e f)=aa (aa (ao [cu (aa (aa (bp A `maps) bf) (bR U 21 bQ.sc xp (z1::(`row,none)::bH A a B D E b c d e f))),ret B,ret D,ret E]) λg=>U `Object g) λh=>ret h:=∅
theorem JN:gr U bQ 23 gW (.tuple [y0,y1,y2]) (bH a b c d e f g h i j)=Bt U bQ 23 gW 0 (bH a b c d e (V.d y0) (V.d y1) (V.d y2) i j):=∅
theorem Dq:Bt U bQ 23 gW 0 (bH A B D E F G H I a b)=de (cmp .In G B) (aa (aa (bD (bi `len [D])) λc=>bD (af .FloorDiv c #[8])) λd=>aa (cY U `append E (ao [nM [G,d]])) λY=>aa (cY U `extend F (ao [cu (aa (aa (bp A `relocations) bf) (bR U 19 bQ.sc xq (z1::(`slot,none)::(`way,none)::(`goal,none)::bH A B D E F G H I d b)))])) λY=>aa (aa (aa (bp A `octets) λe=>aa (bD (af .Mult #[8] H)) λf=>aa (bD (af .Mult #[8] I)) λg=>bD (bq e f g)) λh=>bD (af .Add D h)) λi=>ret (.next (bH A B i E F G H I d b))) (ret (.next (bH A B D E F G H I a b))):=∅
theorem JO:jg U 22 bQ.sc qT (.tuple [y0,y1,y2]) (z1::(`slot,a)::(`way,b)::(`name,c)::bH d e f g h i j q l m)=de (de (cmp .Eq (V.d y1) #["map"]) (ret true) (ret false)) (aa (frz (V.d y2)) λn=>ret (z1::(`slot,V.d y0)::(`way,V.d y1)::(`name,V.d y2)::bH d e f g h i j q l m,some n)) (ret (z1::(`slot,V.d y0)::(`way,V.d y1)::(`name,V.d y2)::bH d e f g h i j q l m,none)):=∅
theorem JP:jg U 21 bQ.sc xp y (z1::(`row,a)::bH b c d e f g h i j A)=de (de (aa (bp (V.d y) `name) λq=>cmp .In q A) (ret true) (ret false)) (aa (frz (V.d y)) λl=>ret (z1::(`row,V.d y)::bH b c d e f g h i j A,some l)) (ret (z1::(`row,V.d y)::bH b c d e f g h i j A,none)):=∅
theorem JQ:jg U 19 bQ.sc xq (.tuple [y0,y1,y2]) (z1::(`slot,a)::(`way,b)::(`goal,c)::bH d e f g h i A B D j)=de (de (JG (cmp .LtE A (V.d y0)) (cmp .Lt (V.d y0) B)) (ret true) (ret false)) (aa (jy (ao [aa (bD (af .Add D (V.d y0))) λq=>bD (af .Sub q A),ret (V.d y1),ret (V.d y2)])) λl=>aa (frz l) λm=>ret (z1::(`slot,V.d y0)::(`way,V.d y1)::(`goal,V.d y2)::bH d e f g h i A B D j,some m)) (ret (z1::(`slot,V.d y0)::(`way,V.d y1)::(`goal,V.d y2)::bH d e f g h i A B D j,none)):=∅
def dH:Fn:=cy (defAt 36 top) [] true
def fg(a b c:Option V):Ls:=[(`script,a),(`number,b),(`cell,c)]
theorem Dr(a:ae):C (k+1) `_law_pen [A] a=back true a.length (Sk (C k) dH 0 (fg A none none) a):=∅
def ii:Stmt:=bo 1 dH.body
theorem Ds:Sk U dH 0 (fg a b c)=Sk U dH 1 (fg a (some #[13]) c):=∅
theorem Dt:Sk U dH 1 (fg A a b)=aa (aa (bD (bq A (V.d .none) #[24])) bf) (fr U dH 23 ii (fg A a b) (λc=>Sk U dH 2 c) λd=>ret d):=∅
theorem Du:gr U dH 23 ii y (fg a b c)=Bt U dH 23 ii 0 (fg a b (V.d y)):=∅
theorem yN:Bt U dH 23 ii 0 (fg a A B)=aa (aa (bD (af .Mult A #[1019])) λb=>aa (aa (aa (aa (aa (ao [bD (bi `int [B])]) λc=>bD (bi `abs c)) λd=>bD (af .Mult #[2] d)) λe=>aa (aa (ao [bB (cmp .Lt B #[0])]) λf=>bD (bi `int f)) λg=>bD (af .Add e g)) λh=>aa (bD (af .Pow #[10] #[40])) λi=>bD (af .Mod h i)) λj=>bD (af .Add b j)) λq=>ret (.next (fg a q B)):=∅
def dS:Fn:=cy (defAt 37 top) [] false
def dT(a b c:Option V):Ls:=[(`pen,a),(`many,b),(`digit,c)]
theorem AQ(a:ae):C (k+1) `_law_draw [A,B] a=back false a.length (Sk (C k) dS 0 (dT A B none) a):=∅
theorem AR:Sk U dS 0 (dT A a b)=de (aa (bD (ay A #[0])) λc=>cmp .Eq c #[0]) (aa (aa (bD (ay A #[1])) λd=>bD (af .Add d #[1])) λe=>aa (frz e) λf=>aa (dq A #[1] f) λY=>aa (aa (aa (aa (bD (ay A #[1])) λg=>bD (af .Mult #[2038] g)) λh=>bD (af .Add h #[7013])) λi=>bD (af .Pow i #[9])) λj=>aa (frz j) λq=>aa (dq A #[0] q) λY=>Sk U dS 1 (dT A a b)) (Sk U dS 1 (dT A a b)):=∅
theorem AS:Sk U dS 1 (dT A B a)=aa (aa (bD (ay A #[0])) λb=>bD (af .Mod b B)) λc=>Sk U dS 2 (dT A B c):=∅
theorem AU:Sk U dS 2 (dT A B a)=aa (aa (bD (ay A #[0])) λb=>bD (af .FloorDiv b B)) λc=>aa (frz c) λd=>aa (dq A #[0] d) λY=>Sk U dS 3 (dT A B a):=∅
theorem AV:Sk U dS 3 (dT a b A)=ret A:=∅
def uz:Fn:=cy (defAt 38 top) [] false
def uA(a b:Option V):Ls:=[(`pen,a),(`some,b)]
theorem AW(a:ae):C (k+1) `_law_pick [A,B] a=back false a.length (Sk (C k) uz 0 (uA A B) a):=∅
theorem AX:Sk U uz 0 (uA A B)=aa (aa (aa (ao [ret A,bD (bi `len [B])]) λa=>U `_law_draw a) λb=>bD (ay B b)) λc=>ret c:=∅
def aJ:Fn:=cy (defAt 39 top) [`found] false
def aL(a b c d e f g:Option V):Ls:=[(`pen,a),(`many,b),(`tails,c),(`found,d),(`turn,e),(`name,f),(`spot,g)]
theorem yO(a:ae):C (k+1) `_law_names [A,B,D] a=back false a.length (Sk (C k) aJ 0 (aL A B D none none none none) a):=∅
def bM:Stmt:=bo 1 aJ.body
def fh:Stmt:=bo 1 (gi bM)
theorem yP:Sk U aJ 0 (aL a b c d e f g)=aa (aM (.list [])) λh=>Sk U aJ 1 (aL a b c h e f g):=∅
theorem yQ:Sk U aJ 1 (aL a A b c d e f)=aa (bI `range [A]) (fr U aJ 23 bM (aL a A b c d e f) (λg=>Sk U aJ 2 g) λh=>ret h):=∅
theorem yR:gr U aJ 23 bM y (aL a b c d e f g)=Bt U aJ 23 bM 0 (aL a b c d (V.d y) f g):=∅
theorem uB:Bt U aJ 23 bM 0 (aL A a b c d e f)=aa (aa (U `_law_draw [A,#[27]]) λg=>bD (ay #["abcdefghijklmnopqrstuvwxyz_"] g)) λh=>Bt U aJ 23 bM 1 (aL A a b c d h f):=∅
theorem uC:Bt U aJ 23 bM 1 (aL A a b c d e f)=aa (aa (ao [aa (ao [ret A,li [#[0],#[1],#[2],#[13]]]) λg=>U `_law_pick g]) λh=>bI `range h) (fr U aJ 22 fh (aL A a b c d e f) (λi=>Bt U aJ 23 bM 2 i) λj=>ret (.ret j)):=∅
theorem uD:Bt U aJ 23 bM 2 (aL a b A B D E c)=aa (cY U `append B (ao [aa (bD (ay A D)) λd=>bD (af .Add E d)])) λY=>ret (.next (aL a b A B D E c)):=∅
theorem yS:gr U aJ 22 fh y (aL a b c d e f g)=Bt U aJ 22 fh 0 (aL a b c d e f (V.d y)):=∅
theorem uE:Bt U aJ 22 fh 0 (aL A a b c d B e)=aa (aa (aa (U `_law_draw [A,#[37]]) λf=>bD (ay #["abcdefghijklmnopqrstuvwxyz0123456789_"] f)) λg=>bD (af .Add B g)) λh=>ret (.next (aL A a b c d h e)):=∅
def aY:Fn:=cy (defAt 40 top) [`items] false
def bg(a b c d e f g h:Option V):Ls:=[(`pen,a),(`at,b),(`names,c),(`maps,d),(`items,e),(`turn,f),(`kind,g),(`dst,h)]
theorem yT(a:ae):C (k+1) `_law_items [A,B,D,E] a=back false a.length (Sk (C k) aY 0 (bg A B D E none none none none) a):=∅
def ct:Stmt:=bo 1 aY.body
theorem yU:Sk U aY 0 (bg a b c d e f g h)=aa (aM (.list [])) λi=>Sk U aY 1 (bg a b c d i f g h):=∅
theorem yV:Sk U aY 1 (bg A a b c d e f g)=aa (aa (ao [U `_law_draw [A,#[4]]]) λh=>bI `range h) (fr U aY 23 ct (bg A a b c d e f g) (λi=>Sk U aY 2 i) λj=>ret j):=∅
theorem yW:Sk U aY 2 (bg a b c d A e f g)=aa (aa (kL (ao [nM [#["exit"],#[0],#[0]]])) λh=>bD (af .Add A h)) λi=>ret i:=∅
theorem yX:gr U aY 23 ct y (bg a b c d e f g h)=Bt U aY 23 ct 0 (bg a b c d e (V.d y) g h):=∅
theorem uF:Bt U aY 23 ct 0 (bg A a c d e f g h)=aa (U `_law_draw [A,#[4]]) λi=>aa (U `_law_draw [A,#[10]]) λj=>Bt U aY 23 ct 1 (bg A a c d e f i j):=Vn (b:=aa (lj [(`kind,U `_law_draw [A,#[4]]),(`dst,U `_law_draw [A,#[10]])]) λq=>aa (gg (aV aY.sc) q (bg A a c d e f g h)) λl=>Bt U aY 23 ct 1 l) ∅ (OU λi j=>∅)
theorem uG:Bt U aY 23 ct 1 (bg A B D E F a G H)=de (cmp .Eq G #[0]) (aa (cY U `append F (ao [jy (ao [ret #["move"],ret H,aa (ao [ret A,bD (af .Pow #[2] #[32])]) λb=>U `_law_draw b])])) λY=>ret (.next (bg A B D E F a G H))) (de (cmp .Eq G #[1]) (aa (cY U `append F (ao [jy (ao [ret #["wide"],ret H,aa (ao [ret A,bD (af .Pow #[2] #[64])]) λc=>U `_law_draw c])])) λY=>ret (.next (bg A B D E F a G H))) (de (fO (cmp .Eq G #[2]) (fO (cmp .NotEq E (V.d (.list []))) (ret true))) (aa (cY U `append F (ao [jy (ao [ret #["map"],ret H,U `_law_pick [A,E]])])) λY=>ret (.next (bg A B D E F a G H))) (de (aa (aa (bD (af .Add B #[1])) λd=>bD (bq D d (V.d .none))) λe=>cmp .NotEq e (V.d (.list []))) (aa (cY U `append F (ao [jy (ao [ret #["call"],ret #[0],aa (ao [ret A,aa (bD (af .Add B #[1])) λf=>bD (bq D f (V.d .none))]) λg=>U `_law_pick g])])) λY=>ret (.next (bg A B D E F a G H))) (ret (.next (bg A B D E F a G H)))))):=∅
def gy:Fn:=cy (defAt 41 top) [] false
def gz(a b:Option V):Ls:=[(`worth,a),(`width,b)]
theorem wj(a:ae):C (k+1) `_law_little [A,B] a=back false a.length (Sk (C k) gy 0 (gz A B) a):=∅
def lH:Expr:=dJ (bo 0 gy.body)
theorem wk:Sk U gy 0 (gz a A)=aa (cu (aa (bI `range [A]) (bR U 22 gy.sc lH (z1::(`spot,none)::gz a A)))) λb=>ret b:=∅
theorem wl:jg U 22 gy.sc lH y (z1::(`spot,a)::gz A b)=aa (aa (aa (bD (af .Pow #[256] (V.d y))) λc=>bD (af .FloorDiv A c)) λd=>bD (af .Mod d #[256])) λe=>aa (frz e) λf=>ret (z1::(`spot,V.d y)::gz A b,some f):=∅
variable{a b c d e f g h i x l s:Option V}{A B D E F G H I J K L N O P Q R W X Z:V}
def br:Fn:=cy (defAt 42 top) [] false
def bE(a b c d e:Option V):Ls:=[(`item,a),(`worth,b),(`kind,c),(`dst,d),(`told,e)]
theorem wm(a:ae):C (k+1) `_law_octets [A,B] a=back false a.length (Sk (C k) br 0 (bE A B none none none) a):=∅
def lI:Stmt:=bo 0 br.body
theorem wn:Sk U br 0 (bE A a b c d)=aa (ret A) (Qe br lI (bE A a b c d) λe=>Sk U br 1 e):=∅
theorem f6:Sk U br 1 (bE a b A B D)=de (cmp .Eq A #["move"]) (aa (aa (li [#[183],B,#[0],#[0]]) λc=>aa (U `_law_little [D,#[4]]) λd=>bD (af .Add c d)) λe=>ret e) (Sk U br 2 (bE a b A B D)):=∅
theorem hY:Sk U br 2 (bE a b A B D)=de (cmp .Eq A #["wide"]) (aa (aa (aa (aa (li [#[24],B,#[0],#[0]]) λc=>aa (U `_law_little [D,#[4]]) λd=>bD (af .Add c d)) λe=>aa (li [#[0],#[0],#[0],#[0]]) λf=>bD (af .Add e f)) λg=>aa (aa (ao [aa (bD (af .Pow #[2] #[32])) λh=>bD (af .FloorDiv D h),ret #[4]]) λi=>U `_law_little i) λj=>bD (af .Add g j)) λx=>ret x) (Sk U br 3 (bE a b A B D)):=∅
theorem jz:Sk U br 3 (bE a A B D b)=de (cmp .Eq B #["map"]) (aa (aa (aa (kL (ao [ret #[24],aa (de (cmp .Is A (V.d .none)) (ret #[0]) (ret #[16])) λc=>bD (af .Add D c),ret #[0],ret #[0]])) λd=>aa (aa (ao [de (cmp .Is A (V.d .none)) (ret #[0]) (ret A),ret #[4]]) λe=>U `_law_little e) λf=>bD (af .Add d f)) λg=>aa (aa (li [#[0]]) λh=>bD (af .Mult h #[8])) λi=>bD (af .Add g i)) λj=>ret j) (Sk U br 4 (bE a A B D b)):=∅
theorem nu:Sk U br 4 (bE a A B b c)=de (cmp .Eq B #["call"]) (aa (aa (li [#[133],#[16],#[0],#[0]]) λd=>aa (aa (ao [de (cmp .Is A (V.d .none)) (ret #[-1]) (ret A),ret #[4]]) λe=>U `_law_little e) λf=>bD (af .Add d f)) λg=>ret g) (Sk U br 5 (bE a A B b c)):=∅
theorem wo:Sk U br 5 (bE a b c d e)=aa (aa (li [#[149]]) λf=>aa (aa (li [#[0]]) λg=>bD (af .Mult g #[7])) λh=>bD (af .Add f h)) λi=>ret i:=∅
theorem f7:Qe br lI (bE a b c d e) kn (V.d (.tuple [y0,y1,y2]))=kn (bE a b (V.d y0) (V.d y1) (V.d y2)):=∅
def AY:Fn:=cy (defAt 43 top) [] false
def AZ(a:Option V):Ls:=[(`item,a)]
theorem yY(a:ae):C (k+1) `_law_width [A] a=back false a.length (Sk (C k) AY 0 (AZ A) a):=∅
def aW:Fn:=cy (defAt 44 top) [`symbols,`relocations,`rows] false
def bt(a b c d e f g h:Option V):Ls:=[(`functions,a),(`names,b),(`symbols,c),(`relocations,d),(`rows,e),(`slot,f),(`name,g),(`item,h)]
theorem A0(a:ae):C (k+1) `_law_laid [A,B] a=back false a.length (Sk (C k) aW 0 (bt A B none none none none none none) a):=∅
def dM:Stmt:=bo 1 aW.body
def bY:Stmt:=bo 1 (gi dM)
theorem A1:gr U aW 23 dM y (bt a b c d e f g h)=Bt U aW 23 dM 0 (bt a b c d e f (V.d y) h):=∅
theorem wq:Bt U aW 23 dM 0 (bt a b A c d B D e)=aa (cY U `append A (ao [nM [D,B]])) λY=>Bt U aW 23 dM 1 (bt a b A c d B D e):=∅
theorem wt:Bt U aW 23 dM 1 (bt A a b c d e B f)=aa (aa (bD (ay A B)) bf) (fr U aW 22 bY (bt A a b c d e B f) (λg=>ret (.next g)) λh=>ret (.ret h)):=∅
theorem A2:gr U aW 22 bY y (bt a b c d e f g h)=Bt U aW 22 bY 0 (bt a b c d e f g (V.d y)):=∅
theorem wu:Bt U aW 22 bY 0 (bt a b c A d B e D)=de (aa (bD (ay D #[0])) λf=>aa (nM [#["map"],#["call"]]) λg=>cmp .In f g) (aa (cY U `append A (ao [jy (ao [ret B,bD (ay D #[0]),bD (ay D #[2])])])) λY=>Bt U aW 22 bY 1 (bt a b c A d B e D)) (Bt U aW 22 bY 1 (bt a b c A d B e D)):=∅
theorem ww:Bt U aW 22 bY 1 (bt a b c d A B e D)=aa (cY U `append A (ao [nM [B,D]])) λY=>Bt U aW 22 bY 2 (bt a b c d A B e D):=∅
theorem wz:Bt U aW 22 bY 2 (bt a b c d e A f B)=aa (aa (U `_law_width [B]) λg=>bD (af .Add A g)) λh=>ret (.next (bt a b c d e h f B)):=∅
def cb:Fn:=cy (defAt 45 top) [] false
def cE(a b c d e f g h i j:Option V):Ls:=[(`functions,a),(`names,b),(`maps,c),(`used,d),(`symbols,e),(`relocations,f),(`rows,g),(`octets,h),(`slot,i),(`item,j)]
theorem A3(a:ae):C (k+1) `_law_told [A,B,D,E] a=back false a.length (Sk (C k) cb 0 (cE A B D E none none none none none none) a):=∅
def yZ:Stmt:=bo 0 cb.body
def iG:Stmt:=bo 2 cb.body
def pA:Expr:=gc 1 (gc 0 (dJ (bo 3 cb.body)))
theorem A4:Sk U cb 0 (cE A B a b c d e f g h)=aa (U `_law_laid [A,B]) (Qe cb yZ (cE A B a b c d e f g h) λi=>Sk U cb 1 i):=∅
theorem A5:Sk U cb 3 (cE a b A c B D d E e f)=aa (jy (ao [aa (ao [cu (aa (bf A) (bR U 20 cb.sc pA (z1::(`row,none)::cE a b A c B D d E e f)))]) λg=>bD (bi `tuple g),bD (bi `bytes [E]),bD (bi `tuple [B]),bD (bi `tuple [D])])) λh=>ret h:=∅
theorem A6:gr U cb 23 iG (.tuple [y0,y1]) (cE a b c d e f g h i j)=Bt U cb 23 iG 0 (cE a b c d e f g h (V.d y0) (V.d y1)):=∅
theorem wA:Bt U cb 23 iG 0 (cE a b c d e f g A h B)=aa (aa (U `_law_octets [B,V.d .none]) λi=>bD (af .Add A i)) λj=>ret (.next (cE a b c d e f g j h B)):=∅
theorem A7:jg U 20 cb.sc pA y (z1::(`row,a)::cE b c d A e f g h i j)=de (de (aa (bD (ay (V.d y) #[0])) λx=>cmp .In x A) (ret true) (ret false)) (aa (frz (V.d y)) λl=>ret (z1::(`row,V.d y)::cE b c d A e f g h i j,some l)) (ret (z1::(`row,V.d y)::cE b c d A e f g h i j,none)):=∅
def fH:Fn:=cy (defAt 46 top) [] false
def dU(a b:Option V):Ls:=[(`functions,a),(`names,b)]
theorem A8(a:ae):C (k+1) `_law_used [A,B] a=back false a.length (Sk (C k) fH 0 (dU A B) a):=∅
def gA:Expr:=dJ (bo 0 fH.body)
theorem A9:Sk U fH 0 (dU a A)=aa (cu (aa (bf A) (Ey U 22 fH.sc gA (z1::(`name,none)::(`item,none)::dU a A)))) λb=>ret b:=∅
theorem Ba:Qd U 22 fH.sc gA y (z1::(`name,a)::(`item,b)::dU c d)=de (de (aa (bD (ay (V.d y) #[0])) λe=>cmp .Eq e #["map"]) (ret true) (ret false)) (aa (bD (ay (V.d y) #[2])) λf=>aa (frz f) λg=>ret (z1::(`name,a)::(`item,V.d y)::dU c d,some g)) (ret (z1::(`name,a)::(`item,V.d y)::dU c d,none)):=∅
theorem Bb:SC fH.sc gA y (z1::(`name,a)::(`item,b)::dU c d)=ret (z1::(`name,V.d y)::(`item,b)::dU c d):=∅
theorem Bc:SA U 22 fH.sc gA (z1::(`name,A)::(`item,a)::dU B b)=aa (bD (ay B A)) bf:=∅
def aR:Fn:=cy (defAt 47 top) [] false
def aF(a b c d:Option V):Ls:=[(`functions,a),(`names,b),(`found,c),(`turn,d)]
theorem uH(a:ae):C (k+1) `_law_reached [A,B] a=back false a.length (Sk (C k) aR 0 (aF A B none none) a):=∅
def eY:Stmt:=bo 1 aR.body
def bN:Expr:=dJ (bo 0 (gi eY))
def dI:Expr:=gc 1 (gc 1 (gc 2 bN))
theorem uI:Sk U aR 0 (aF a A b c)=aa (bD (bq A (V.d .none) #[1])) λd=>Sk U aR 1 (aF a A d c):=∅
theorem uJ:gr U aR 23 eY y (aF a b c d)=Bt U aR 23 eY 0 (aF a b c (V.d y)):=∅
theorem qU:Bt U aR 23 eY 0 (aF a A b c)=aa (cu (aa (bf A) (bR U 21 aR.sc bN (z1::(`name,none)::aF a A b c)))) λd=>ret (.next (aF a A d c)):=∅
theorem uK:jg U 21 aR.sc bN y (z1::(`name,a)::aF b c A d)=de (de (hO (cmp .In (V.d y) A) (hO (aa (cu (aa (bf A) (Ey U 18 (ai aR.sc (mN bN)) dI (z1::(`one,none)::(`item,none)::z1::(`name,V.d y)::aF b c A d)))) λe=>cmp .In (V.d y) e) (ret false))) (ret true) (ret false)) (aa (frz (V.d y)) λf=>ret (z1::(`name,V.d y)::aF b c A d,some f)) (ret (z1::(`name,V.d y)::aF b c A d,none)):=∅
theorem uL:Qd U 18 (ai aR.sc (mN bN)) dI y (z1::(`one,a)::(`item,b)::z1::(`name,c)::aF d e f g)=de (de (aa (bD (ay (V.d y) #[0])) λh=>cmp .Eq h #["call"]) (ret true) (ret false)) (aa (bD (ay (V.d y) #[2])) λi=>aa (frz i) λj=>ret (z1::(`one,a)::(`item,V.d y)::z1::(`name,c)::aF d e f g,some j)) (ret (z1::(`one,a)::(`item,V.d y)::z1::(`name,c)::aF d e f g,none)):=∅
theorem uM:SC (ai aR.sc (mN bN)) dI y (z1::(`one,a)::(`item,b)::z1::(`name,c)::aF d e f g)=ret (z1::(`one,V.d y)::(`item,b)::z1::(`name,c)::aF d e f g):=∅
theorem uN:SA U 18 (ai aR.sc (mN bN)) dI (z1::(`one,A)::(`item,a)::z1::(`name,b)::aF B c d e)=aa (bD (ay B A)) bf:=∅
def av:Fn:=cy (defAt 48 top) [] false
def aC(a b c d e f g h i j x l:Option V):Ls:=[(`functions,a),(`names,b),(`maps,c),(`symbols,d),(`relocations,e),(`rows,f),(`starts,g),(`numbers,h),(`octets,i),(`slot,j),(`item,x),(`worth,l)]
theorem wB(a:ae):C (k+1) `_law_filled [A,B,D] a=back false a.length (Sk (C k) av 0 (aC A B D none none none none none none none none none) a):=∅
def lJ:Stmt:=bo 0 av.body
def aE:Stmt:=bo 2 av.body
def lK:Expr:=gc 1 (gc 1 (dJ (bo 1 av.body)))
theorem wC:Sk U av 0 (aC A B a b c d e f g h i j)=aa (U `_law_laid [A,B]) (Qe av lJ (aC A B a b c d e f g h i j) λx=>Sk U av 1 x):=∅
theorem wD:Sk U av 1 (aC a c A B d e f g h i j x)=aa (bD (bi `dict [B])) λl=>aa (aa (ao [cu (aa (bI `enumerate [A]) (bR U 21 av.sc lK (z1::(`number,none)::(`row,none)::aC a c A B d e f g h i j x)))]) λm=>bD (bi `dict m)) λn=>aa (ret (V.d (.list []))) λo=>Sk U av 2 (aC a c A B d e l n o i j x):=Vn (b:=aa (lj [(`starts,bD (bi `dict [B])),(`numbers,aa (ao [cu (aa (bI `enumerate [A]) (bR U 21 av.sc lK (z1::(`number,none)::(`row,none)::aC a c A B d e f g h i j x)))]) λm=>bD (bi `dict m)),(`octets,ret (V.d (.list [])))]) λp=>aa (gg (aV av.sc) p (aC a c A B d e f g h i j x)) λq=>Sk U av 2 q) ∅ (U6 λl n o=>∅)
theorem wF:Sk U av 3 (aC a b c d e f g h A i j x)=aa (bD (bi `bytes [A])) λl=>ret l:=∅
theorem wH:Qe av lJ (aC a b c d e f g h i j x l) kn (V.d (.tuple [y0,y1,y2]))=kn (aC a b c (V.d y0) (V.d y1) (V.d y2) g h i j x l):=∅
theorem wI:gr U av 23 aE (.tuple [y0,y1]) (aC a b c d e f g h i j x l)=Bt U av 23 aE 0 (aC a b c d e f g h i (V.d y0) (V.d y1) l):=∅
theorem r9:Bt U av 23 aE 0 (aC a b c d e f g h i j x l)=Bt U av 23 aE 1 (aC a b c d e f g h i j x (some (V.d .none))):=M8 (st:=bo 0 (gi aE)) ∅ λY Y Y=>∅
theorem sa:Bt U av 23 aE 1 (aC a b c d e f g A h i B j)=de (aa (bD (ay B #[0])) λx=>cmp .Eq x #["map"]) (aa (cY U `get A (ao [bD (ay B #[2])])) λl=>Bt U av 23 aE 2 (aC a b c d e f g A h i B l)) (Bt U av 23 aE 2 (aC a b c d e f g A h i B j)):=∅
theorem im:Bt U av 23 aE 2 (aC a b c d e f A g h B D i)=de (fO (aa (bD (ay D #[0])) λj=>cmp .Eq j #["call"]) (fO (aa (bD (ay D #[2])) λx=>cmp .In x A) (ret true))) (aa (aa (aa (aa (bD (ay D #[2])) λl=>bD (ay A l)) λm=>bD (af .Sub m B)) λn=>bD (af .Sub n #[1])) λo=>Bt U av 23 aE 3 (aC a b c d e f A g h B D o)) (Bt U av 23 aE 3 (aC a b c d e f A g h B D i)):=∅
theorem sb:Bt U av 23 aE 3 (aC a b c d e f g h i j A B)=de (fO (aa (bD (ay A #[0])) λx=>aa (nM [#["map"],#["call"]]) λl=>cmp .In x l) (fO (cmp .Is B (V.d .none)) (ret true))) (ret (.ret (V.d .none))) (Bt U av 23 aE 4 (aC a b c d e f g h i j A B)):=∅
theorem sd:Bt U av 23 aE 4 (aC a b c d e f g h A i B D)=aa (aa (U `_law_octets [B,D]) λj=>bD (af .Add A j)) λx=>ret (.next (aC a b c d e f g h x i B D)):=∅
def iV:Fn:=cy (defAt 49 top) [] false
def iW(a b:Option V):Ls:=[(`word,a),(`parts,b)]
theorem Bd(a:ae):C (k+1) `_law_line [A,B] a=back false a.length (Sk (C k) iV 0 (iW A B) a):=∅
def pB:Expr:=gc 1 (gc 1 (dJ (bo 0 iV.body)))
theorem Be:Sk U iV 0 (iW A B)=aa (cY U `join #[" "] (ao [aa (li [A]) λa=>aa (cu (aa (bf B) (bR U 20 iV.sc pB (z1::(`part,none)::iW A B)))) λb=>bD (af .Add a b)])) λc=>ret c:=∅
theorem Bf:jg U 20 iV.sc pB y (z1::(`part,a)::iW b c)=aa (bD (bi `str [V.d y])) λd=>aa (frz d) λe=>ret (z1::(`part,V.d y)::iW b c,some e):=∅
def az:Fn:=cy (defAt 50 top) [`lines] false
def aA(a b c d e f g h i:Option V):Ls:=[(`told,a),(`maps,b),(`octets,c),(`symbols,d),(`relocations,e),(`lines,f),(`spot,g),(`signs,h),(`total,i)]
theorem Bg(a:ae):C (k+1) `_law_text [A] a=back false a.length (Sk (C k) az 0 (aA A none none none none none none none none) a):=∅
def pD:Stmt:=bo 0 az.body
def dN:Stmt:=bo 2 az.body
def pE:Expr:=gc 1 (dJ (bo 1 az.body))
def pF:Expr:=gc 1 (gc 0 (dJ (bo 3 az.body)))
def pH:Expr:=gc 1 (dJ (bo 3 az.body))
def pI:Expr:=gc 1 (gc 0 (dJ (bo 4 az.body)))
def pJ:Expr:=dJ (bo 0 (gi dN))
theorem Bh:Sk U az 0 (aA A a b c d e f g h)=aa (ret A) (Qe az pD (aA A a b c d e f g h) λi=>Sk U az 1 i):=∅
theorem Bi:Sk U az 1 (aA a A b c d e f g h)=aa (aa (li [#["ringgate object 1"]]) λi=>aa (cu (aa (bf A) (bR U 21 az.sc pE (z1::(`row,none)::aA a A b c d e f g h)))) λj=>Hz i j) λx=>Sk U az 2 (aA a A b c d x f g h):=∅
theorem Bj:Sk U az 2 (aA a b A c d e f g h)=aa (aa (ao [ret #[0],bD (bi `len [A]),ret #[8]]) λi=>bI `range i) (fr U az 23 dN (aA a b A c d e f g h) (λj=>Sk U az 3 j) λx=>ret x):=∅
theorem Bk:Sk U az 3 (aA a b c A B D d e f)=aa (aa (aa (cu (aa (bf A) (bR U 20 az.sc pF (z1::(`row,none)::aA a b c A B D d e f)))) λg=>bD (af .Add D g)) λh=>aa (cu (aa (bf B) (bR U 21 az.sc pH (z1::(`row,none)::aA a b c A B D d e f)))) λi=>Hz h i) λj=>Sk U az 4 (aA a b c A B j d e f):=∅
theorem Bl:Sk U az 4 (aA a b A c d e f g h)=aa (aa (aa (ao [cu (aa (bI `enumerate [A]) (bR U 20 az.sc pI (z1::(`spot,none)::(`octet,none)::aA a b A c d e f g h)))]) λi=>bD (bi `sum i)) λj=>aa (bD (af .Pow #[2] #[32])) λx=>bD (af .Mod j x)) λl=>Sk U az 5 (aA a b A c d e f g l):=∅
theorem Bm:Sk U az 5 (aA a b c d e A f g B)=aa (cY U `join #["\n"] (ao [aa (kL (ao [aa (ao [ret #["end"],jy (ao [bD (bi `len [A]),ret B])]) λh=>U `_law_line h,ret #[""]])) λi=>bD (af .Add A i)])) λj=>ret j:=∅
theorem Bn:Qe az pD (aA a b c d e f g h i) kn (V.d (.tuple [y0,y1,y2,y3]))=kn (aA a (V.d y0) (V.d y1) (V.d y2) (V.d y3) f g h i):=∅
theorem Bo:gr U az 23 dN y (aA a b c d e f g h i)=Bt U az 23 dN 0 (aA a b c d e f (V.d y) h i):=∅
theorem wJ:Bt U az 23 dN 0 (aA a b A c d e B f g)=aa (cu (aa (aa (aa (bD (af .Add B #[8])) λh=>bD (bq A B h)) bf) (bR U 21 az.sc pJ (z1::(`octet,none)::aA a b A c d e B f g)))) λi=>Bt U az 23 dN 1 (aA a b A c d e B i g):=∅
theorem wK:Bt U az 23 dN 1 (aA a b c d e A f B g)=aa (cY U `append A (ao [aa (cV U `join #[""] [B]) λh=>bD (af .Add #["slot "] h)])) λY=>ret (.next (aA a b c d e A f B g)):=∅
theorem Bp:jg U 21 az.sc pE y (z1::(`row,a)::aA b c d e f g h i j)=aa (U `_law_line [#["map"],V.d y]) λx=>aa (frz x) λl=>ret (z1::(`row,V.d y)::aA b c d e f g h i j,some l):=∅
theorem Bq:jg U 20 az.sc pF y (z1::(`row,a)::aA b c d e f g h i j)=aa (U `_law_line [#["symbol"],V.d y]) λx=>aa (frz x) λl=>ret (z1::(`row,V.d y)::aA b c d e f g h i j,some l):=∅
theorem Br:jg U 21 az.sc pH y (z1::(`row,a)::aA b c d e f g h i j)=aa (U `_law_line [#["relocation"],V.d y]) λx=>aa (frz x) λl=>ret (z1::(`row,V.d y)::aA b c d e f g h i j,some l):=∅
theorem Bs:jg U 20 az.sc pI (.tuple [y0,y1]) (z1::(`spot,a)::(`octet,b)::aA c d e f g h i j x)=aa (aa (bD (af .Add (V.d y0) #[1])) λl=>bD (af .Mult l (V.d y1))) λm=>aa (frz m) λn=>ret (z1::(`spot,V.d y0)::(`octet,V.d y1)::aA c d e f g h i j x,some n):=∅
theorem Bu:jg U 21 az.sc pJ y (z1::(`octet,a)::aA b c d e f g h i j)=aa (aa (aa (bD (af .FloorDiv (V.d y) #[16])) λx=>bD (ay #["0123456789abcdef"] x)) λl=>aa (aa (bD (af .Mod (V.d y) #[16])) λm=>bD (ay #["0123456789abcdef"] m)) λn=>bD (af .Add l n)) λo=>aa (frz o) λp=>ret (z1::(`octet,V.d y)::aA b c d e f g h i j,some p):=∅
def eE:Fn:=cy (defAt 51 top) [] false
def gj(a b c:Option V):Ls:=[(`work,a),(`part,b),(`told,c)]
theorem pK(a:ae):C (k+1) `_law_asked [A,B] a=back false a.length (Sk (C k) eE 0 (gj A B none) a):=∅
theorem y6:Sk U eE 1 (gj a b A)=ret A:=∅
def fS:Fn:=cy (defAt 52 top) [] false
def fT(a:Option V):Ls:=[(`told,a)]
theorem wL(a:ae):C (k+1) `_law_object [A] a=back false a.length (Sk (C k) fS 0 (fT A) a):=∅
def iX:Expr:=gc 1 (dJ (bo 0 fS.body))
theorem wM:Sk U fS 0 (fT A)=aa (aa (ao [cu (aa (aa (bD (ay A #[0])) bf) (bR U 21 fS.sc iX (z1::(`row,none)::fT A))),bD (ay A #[1]),bD (ay A #[2]),bD (ay A #[3])]) λa=>U `Object a) λb=>ret b:=∅
theorem wN:jg U 21 fS.sc iX y (z1::(`row,a)::fT b)=aa (aa (ao [bD (ay (V.d y) #[0]),bD (ay (V.d y) #[1]),bD (ay (V.d y) #[2]),bD (ay (V.d y) #[3]),bD (ay (V.d y) #[4])]) λc=>U `MapRow c) λd=>aa (frz d) λe=>ret (z1::(`row,V.d y)::fT b,some e):=∅
def fJ:Fn:=cy (defAt 53 top) [] false
def gf(a b c d e:Option V):Ls:=[(`pen,a),(`text,b),(`spot,c),(`kind,d),(`sign,e)]
theorem Bv(a:ae):C (k+1) `_law_bent [A,B] a=back false a.length (Sk (C k) fJ 0 (gf A B none none none) a):=∅
theorem Bw:Sk U fJ 0 (gf A B a c d)=aa (aa (ao [ret A,bD (bi `len [B])]) λe=>U `_law_draw e) λf=>aa (U `_law_draw [A,#[3]]) λg=>Sk U fJ 1 (gf A B f g d):=Vn (b:=aa (lj [(`spot,aa (ao [ret A,bD (bi `len [B])]) λe=>U `_law_draw e),(`kind,U `_law_draw [A,#[3]])]) λh=>aa (gg (aV fJ.sc) h (gf A B a c d)) λi=>Sk U fJ 1 i) ∅ (OU λf g=>∅)
theorem Bx:Sk U fJ 1 (gf A a b c d)=aa (aa (ao [ret A,li [#["0"],#["1"],#["9"],#["a"],#["f"],#["z"],#["_"],#[" "],#["\n"],#["-"],#["A"]]]) λe=>U `_law_pick e) λf=>Sk U fJ 2 (gf A a b c f):=∅
theorem By:Sk U fJ 2 (gf a A B D E)=aa (aa (aa (bD (bq A (V.d .none) B)) λb=>aa (de (cmp .Lt D #[2]) (ret E) (ret #[""])) λc=>bD (af .Add b c)) λd=>aa (aa (aa (aa (ao [bB (cmp .NotEq D #[1])]) λe=>bD (bi `int e)) λf=>bD (af .Add B f)) λg=>bD (bq A g (V.d .none))) λh=>bD (af .Add d h)) λi=>ret i:=∅
def aq:Fn:=cy (defAt 54 top) [] false
def au(a b c d e f g:Option V):Ls:=[(`pen,a),(`told,b),(`one_object,c),(`text,d),(`turn,e),(`bent,f),(`heard,g)]
theorem pL(a:ae):C (k+1) `_law_text_right [A,B] a=back false a.length (Sk (C k) aq 0 (au A B none none none none none) a):=∅
def be:Stmt:=bo 3 aq.body
def iY:Expr:=gc 1 (gc 1 (gc 2 (dJ (bo 2 aq.body))))
theorem pM:Sk U aq 0 (au a A b c d e f)=aa (U `_law_object [A]) λg=>Sk U aq 1 (au a A g c d e f):=∅
theorem pN:Sk U aq 1 (au a b A c d e f)=aa (U `write_object [A]) λg=>Sk U aq 2 (au a b A g d e f):=∅
theorem pO:Sk U aq 2 (au a A b B c d e)=de (hO (aa (U `_law_text [A]) λf=>cmp .NotEq B f) (hO (aa (aa (U `read_object [B]) λg=>cV U `told g []) λh=>cmp .NotEq h A) (hO (aa (aa (ao [aa (bD (ay A #[1])) λi=>bD (bq i (V.d .none) #[3])]) λj=>U `check_sum j) λx=>aa (aa (ao [cu (aa (aa (ao [aa (bD (ay A #[1])) λl=>bD (bq l (V.d .none) #[3])]) λm=>bI `enumerate m) (bR U 19 aq.sc iY (z1::(`at,none)::(`octet,none)::au a A b B c d e)))]) λn=>bD (bi `sum n)) λo=>cmp .NotEq x o) (ret false)))) (ret (V.d (.bool false))) (Sk U aq 3 (au a A b B c d e)):=∅
theorem pP:Sk U aq 3 (au a b c d e f g)=aa (bI `range [#[3]]) (fr U aq 23 be (au a b c d e f g) (λh=>Sk U aq 4 h) λi=>ret i):=∅
theorem pQ:Sk U aq 4 (au a b c d e f g)=ret (V.d (.bool true)):=∅
theorem pR:gr U aq 23 be y (au a b c d e f g)=Bt U aq 23 be 0 (au a b c d (V.d y) f g):=∅
theorem mU:Bt U aq 23 be 0 (au A a b B c d e)=aa (U `_law_bent [A,B]) λf=>Bt U aq 23 be 1 (au A a b B c f e):=∅
theorem mV:Bt U aq 23 be 1 (au a b c d e A f)=aa (U `_law_asked [V.d (.fn `read_object),A]) λg=>Bt U aq 23 be 2 (au a b c d e A g):=∅
theorem iA:Bt U aq 23 be 2 (au a b c d e A B)=de (fO (cmp .NotEq B #["TEXT"]) (fO (hO (AB (bD (bi `isinstance [B,V.d (.fn `str)]))) (hO (aa (U `write_object [B]) λf=>cmp .NotEq f A) (ret false))) (ret true))) (ret (.ret (V.d (.bool false)))) (ret (.next (au a b c d e A B))):=∅
theorem pS:jg U 19 aq.sc iY (.tuple [y0,y1]) (z1::(`at,a)::(`octet,b)::au c d e f g h i)=aa (aa (bD (af .Add (V.d y0) #[1])) λj=>bD (af .Mult j (V.d y1))) λx=>aa (frz x) λl=>ret (z1::(`at,V.d y0)::(`octet,V.d y1)::au c d e f g h i,some l):=∅
def aP:Fn:=cy (defAt 55 top) [] false
def aQ(a b c d e f:Option V):Ls:=[(`functions,a),(`names,b),(`maps,c),(`told,d),(`empty,e),(`others,f)]
theorem n7(a:ae):C (k+1) `_law_twice_right [A,B,D] a=back false a.length (Sk (C k) aP 0 (aQ A B D none none none) a):=∅
def iB:Expr:=gc 1 (dJ (bo 3 aP.body))
theorem n8:Sk U aP 0 (aQ A B D a b c)=aa (aa (ao [ret A,bD (bq B (V.d .none) #[1]),ret D,aa (ao [ret A,bD (bq B (V.d .none) #[1])]) λd=>U `_law_used d]) λe=>U `_law_told e) λf=>Sk U aP 1 (aQ A B D f b c):=∅
theorem n9:Sk U aP 1 (aQ a b A c d e)=aa (aa (ao [jy (ao [bD (bi `tuple [A]),ret (V.d (.bytes [])),nM [],nM []])]) λf=>U `_law_object f) λg=>Sk U aP 2 (aQ a b A c g e):=∅
theorem oa:Sk U aP 2 (aQ a b c A B d)=de (hO (aa (aa (ao [ret (V.d (.fn `join)),kL (ao [U `_law_object [A],U `_law_object [A]])]) λe=>U `_law_asked e) λf=>cmp .NotEq f #["PROGRAM"]) (hO (aa (aa (aa (ao [li [B,B]]) λg=>U `join g) λh=>cV U `told h []) λi=>aa (cV U `told B []) λj=>cmp .NotEq i j) (ret false))) (ret (V.d (.bool false))) (Sk U aP 3 (aQ a b c A B d)):=∅
theorem og:Sk U aP 3 (aQ a b A c d e)=aa (aa (ao [cu (aa (bf A) (bR U 21 aP.sc iB (z1::(`row,none)::aQ a b A c d e)))]) λf=>bD (bi `tuple f)) λg=>Sk U aP 4 (aQ a b A c d g):=∅
theorem oh:Sk U aP 4 (aQ a b A c B D)=aa (Ru (bB (cmp .Eq A (V.d (.list [])))) (aa (aa (ao [ret (V.d (.fn `join)),kL (ao [ret B,aa (ao [jy (ao [ret D,ret (V.d (.bytes [])),nM [],nM []])]) λd=>U `_law_object d])]) λe=>U `_law_asked e) λf=>bB (cmp .Eq f #["MAP"]))) λg=>ret g:=∅
theorem oi:jg U 21 aP.sc iB y (z1::(`row,a)::aQ b c d e f g)=aa (jy (ao [bD (ay (V.d y) #[0]),bD (ay (V.d y) #[1]),bD (ay (V.d y) #[2]),bD (ay (V.d y) #[3]),aa (bD (ay (V.d y) #[4])) λh=>bD (af .Add h #[1])])) λi=>aa (frz i) λj=>ret (z1::(`row,V.d y)::aQ b c d e f g,some j):=∅
def ax:Fn:=cy (defAt 56 top) [`functions] false
def aG(a b c d e f g h i j x l m n o p q r:Option V):Ls:=[(`script,a),(`pen,b),(`names,c),(`words,d),(`name,e),(`maps,f),(`functions,g),(`at,h),(`cut,i),(`groups,j),(`used,x),(`objects,l),(`kept,m),(`whole_due,n),(`linked,o),(`ends,p),(`reached,q),(`least,r)]
theorem Qf(a:ae):C (k+1) `law [A] a=back false a.length (Sk (C k) ax 0 (aG A none none none none none none none none none none none none none none none none none) a):=∅
def pT:Stmt:=bo 5 ax.body
def sx:Expr:=dJ (bo 3 ax.body)
def y7:Expr:=dJ (bo 9 ax.body)
def y8:Expr:=dJ (bo 10 ax.body)
def Ez:Expr:=gc 0 (dJ (bo 11 ax.body))
def EA:Expr:=gc 1 (dJ (bo 11 ax.body))
def EB:Expr:=gc 0 (dJ (bo 15 ax.body))
def Ng:Expr:=gc 1 (dJ (bo 16 ax.body))
def y9:Expr:=gc 1 (gc 0 (gc 0 (dJ (bo 21 ax.body))))
theorem Qg:Sk U ax 0 (aG A a b c d e f g h i j x l m n o p q)=aa (U `_law_pen [A]) λr=>Sk U ax 1 (aG A r b c d e f g h i j x l m n o p q):=∅
theorem Qh:Sk U ax 1 (aG a A b c d e f g h i j x l m n o p q)=aa (aa (ao [ret A,aa (U `_law_draw [A,#[5]]) λr=>bD (af .Add #[1] r),ret #["abcde"]]) λs=>U `_law_names s) λt=>Sk U ax 2 (aG a A t c d e f g h i j x l m n o p q):=∅
theorem Qi:Sk U ax 2 (aG a A b c d e f g h i j x l m n o p q)=aa (aa (ao [ret A,U `_law_draw [A,#[4]],ret #["xyz"]]) λr=>U `_law_names r) λs=>Sk U ax 3 (aG a A b s d e f g h i j x l m n o p q):=∅
theorem Qj:Sk U ax 3 (aG a b c A d e f g h i j x l m n o p q)=aa (cu (aa (bf A) (bR U 22 ax.sc sx (z1::(`name,none)::aG a b c A d e f g h i j x l m n o p q)))) λr=>Sk U ax 4 (aG a b c A d r f g h i j x l m n o p q):=∅
theorem Qk:Sk U ax 4 (aG a b c d e f g h i j x l m n o p q r)=aa (aM (.dict [] [])) λs=>Sk U ax 5 (aG a b c d e f s h i j x l m n o p q r):=∅
theorem Ql:Sk U ax 5 (aG a b A c d e f g h i j x l m n o p q)=aa (bI `enumerate [A]) (fr U ax 23 pT (aG a b A c d e f g h i j x l m n o p q) (λr=>Sk U ax 6 r) λs=>ret s):=∅
theorem Qm:Sk U ax 6 (aG a A B b c d D e f g h i j x l m n o)=de (aa (U `_law_draw [A,#[6]]) λp=>cmp .Eq p #[0]) (aa (aa (kL (ao [jy (ao [aa (ao [ret A,li [#["map"],#["call"]]]) λq=>U `_law_pick q,ret #[0],ret #["lacks"]])])) λr=>aa (aa (bD (ay B #[0])) λs=>bD (ay D s)) λt=>bD (af .Add r t)) λu=>aa (bD (ay B #[0])) λv=>aa (frz u) λw=>aa (dq D v w) λY=>Sk U ax 7 (aG a A B b c d D e f g h i j x l m n o)) (Sk U ax 7 (aG a A B b c d D e f g h i j x l m n o)):=∅
theorem Qn:Sk U ax 7 (aG a A B b c d e f g h i j x l m n o p)=aa (aa (aa (ao [ret A,bD (bi `len [B])]) λq=>U `_law_draw q) λr=>bD (af .Add #[1] r)) λs=>Sk U ax 8 (aG a A B b c d e f s h i j x l m n o p):=∅
theorem Qo:Sk U ax 8 (aG a b A c d e f g B h i j x l m n o p)=aa (kL (ao [bD (bq A (V.d .none) B),bD (bq A B (V.d .none))])) λq=>Sk U ax 9 (aG a b A c d e f g B q i j x l m n o p):=∅
theorem Qp:Sk U ax 9 (aG a b c d e f g h i A j x l m n o p q)=aa (cu (aa (bf A) (bR U 22 ax.sc y7 (z1::(`group,none)::aG a b c d e f g h i A j x l m n o p q)))) λr=>Sk U ax 10 (aG a b c d e f g h i A r x l m n o p q):=∅
theorem Nh:Sk U ax 10 (aG a b c d e f g h i A B j x l m n o p)=aa (cu (aa (bI `zip [A,B]) (bR U 22 ax.sc y8 (z1::(`group,none)::(`some,none)::aG a b c d e f g h i A B j x l m n o p)))) λq=>Sk U ax 11 (aG a b c d e f g h i A B q x l m n o p):=∅
theorem Ni:Sk U ax 11 (aG a b c d e A f g h i j x l m n o p q)=aa (aa (cu (aa (bf A) (bR U 21 ax.sc Ez (z1::(`row,none)::aG a b c d e A f g h i j x l m n o p q)))) λr=>aa (cu (aa (bf A) (bR U 21 ax.sc EA (z1::(`row,none)::aG a b c d e A f g h i j x l m n o p q)))) λs=>bD (af .Add r s)) λt=>Sk U ax 12 (aG a b c d e A f g h i j x t m n o p q):=∅
theorem Nj:Sk U ax 12 (aG a b A c d e B f g h D i E j x l m n)=aa (aa (ao [ret B,ret A,ret E,aa (bD (ay D #[0])) λo=>aa (bD (ay D #[1])) λp=>bD (af .Add o p)]) λq=>U `_law_told q) λr=>Sk U ax 13 (aG a b A c d e B f g h D i E r x l m n):=∅
theorem Nk:Sk U ax 13 (aG a b c d e f g h i j x A l m n o p q)=aa (U `join [A]) λr=>Sk U ax 14 (aG a b c d e f g h i j x A l m r o p q):=∅
theorem Nl:Sk U ax 14 (aG a b A c d e B f g h i j D E F x l m)=de (hO (aa (cV U `told F []) λn=>cmp .NotEq n E) (hO (aa (U `_law_asked [V.d (.fn `filled),F]) λo=>aa (Ru (U `_law_filled [B,A,D]) (ret #["PROGRAM"])) λp=>cmp .NotEq o p) (ret false))) (ret (V.d (.bool false))) (Sk U ax 15 (aG a b A c d e B f g h i j D E F x l m)):=∅
theorem Nn:Sk U ax 15 (aG a b c d e f g h i j x l m A n o p q)=aa (aa (cu (aa (aa (aa (bD (ay A #[2])) λr=>bD (bq r #[1] (V.d .none))) bf) (bR U 21 ax.sc EB (z1::(`name,none)::(`slot,none)::aG a b c d e f g h i j x l m A n o p q)))) λs=>aa (kL (ao [aa (aa (ao [bD (ay A #[1])]) λt=>bD (bi `len t)) λu=>bD (af .FloorDiv u #[8])])) λv=>bD (af .Add s v)) λw=>Sk U ax 16 (aG a b c d e f g h i j x l m A n w p q):=∅
theorem Np:Sk U ax 16 (aG a b c d e f g h i j x l m A B D n o)=de (aa (cV U `functions B []) λp=>aa (cu (aa (aa (ao [bD (ay A #[2]),ret D]) λq=>bI `zip q) (bR U 21 ax.sc Ng (z1::(`row,none)::(`end,none)::aG a b c d e f g h i j x l m A B D n o)))) λr=>cmp .NotEq p r) (ret (V.d (.bool false))) (Sk U ax 17 (aG a b c d e f g h i j x l m A B D n o)):=∅
theorem Nq:Sk U ax 17 (aG a b A c d e B f g h i j x l m n o p)=aa (U `_law_reached [B,A]) λq=>Sk U ax 18 (aG a b A c d e B f g h i j x l m n q p):=∅
theorem Nr:Sk U ax 18 (aG a b c d e f A g h i j x B l m n D o)=aa (aa (ao [ret A,ret D,ret B,U `_law_used [A,D]]) λp=>U `_law_told p) λq=>Sk U ax 19 (aG a b c d e f A g h i j x B l m n D q):=∅
theorem Nt:Sk U ax 19 (aG a b c d e f g h i j x l m n A o B D)=de (hO (aa (U `needed [A]) λp=>cmp .NotEq p B) (hO (aa (aa (U `strip [A]) λq=>cV U `told q []) λr=>cmp .NotEq r D) (hO (aa (aa (aa (ao [U `strip [A]]) λs=>U `strip s) λt=>cV U `told t []) λu=>cmp .NotEq u D) (ret false)))) (ret (V.d (.bool false))) (Sk U ax 20 (aG a b c d e f g h i j x l m n A o B D)):=∅
theorem Nu:Sk U ax 20 (aG a b c d e f A g h i j x l m B n D E)=de (aa (aa (ao [ret (V.d (.fn `filled)),U `strip [B]]) λo=>U `_law_asked o) λp=>aa (Ru (aa (ao [ret A,ret D,bD (ay E #[0])]) λq=>U `_law_filled q) (ret #["PROGRAM"])) λr=>cmp .NotEq p r) (ret (V.d (.bool false))) (Sk U ax 21 (aG a b c d e f A g h i j x l m B n D E)):=∅
theorem Nv:Sk U ax 21 (aG a A B b c d e f g h i j x l m n o p)=de (hO (yC (AB (aa (ao [cu (aa (bf B) (bR U 18 ax.sc y9 (z1::(`name,none)::aG a A B b c d e f g h i j x l m n o p)))]) λq=>bD (bi `all q)))) (hO (AB (aa (ao [aa (ao [ret A,kL (ao [ret #[""],ret #["1a"],ret #["A"],ret #["a-b"],bD (af .Mult #["a"] #[16]),ret #["a b"]])]) λr=>U `_law_pick r]) λs=>U `is_name s)) (ret false))) (ret (V.d (.bool false))) (Sk U ax 22 (aG a A B b c d e f g h i j x l m n o p)):=∅
theorem Nw:Sk U ax 22 (aG a A B b c D E d e f g h i j x l m F)=aa (SE (U `_law_text_right [A,F]) (U `_law_twice_right [E,B,D])) λn=>ret n:=∅
theorem Qq:gr U ax 23 pT (.tuple [y0,y1]) (aG a b c d e f g h i j x l m n o p q r)=Bt U ax 23 pT 0 (aG a b c d (V.d y1) f g (V.d y0) i j x l m n o p q r):=∅
theorem JR:Bt U ax 23 pT 0 (aG a A B D E b F G c d e f g h i j x l)=aa (U `_law_items [A,G,B,D]) λm=>aa (frz m) λn=>aa (dq F E n) λY=>ret (.next (aG a A B D E b F G c d e f g h i j x l)):=∅
theorem Qr:jg U 22 ax.sc sx y (z1::(`name,a)::aG b A c d e f g h i j x l m n o p q r)=aa (jy (ao [ret (V.d y),aa (ao [ret A,li [#["hash"],#["array"],#["queue"]]]) λs=>U `_law_pick s,U `_law_draw [A,#[9]],aa (U `_law_draw [A,#[99]]) λt=>bD (af .Add #[1] t),aa (U `_law_draw [A,#[9]]) λu=>bD (af .Add #[1] u)])) λv=>aa (frz v) λw=>ret (z1::(`name,V.d y)::aG b A c d e f g h i j x l m n o p q r,some w):=∅
theorem Qs:jg U 22 ax.sc y7 y (z1::(`group,a)::aG b c d e f g A h i j x l m n o p q r)=aa (U `_law_used [A,V.d y]) λs=>aa (frz s) λt=>ret (z1::(`group,V.d y)::aG b c d e f g A h i j x l m n o p q r,some t):=∅
theorem Qt:jg U 22 ax.sc y8 (.tuple [y0,y1]) (z1::(`group,a)::(`some,b)::aG c d e f g A B h i j x l m n o p q r)=aa (aa (ao [U `_law_told [B,V.d y0,A,V.d y1]]) λs=>U `_law_object s) λt=>aa (frz t) λu=>ret (z1::(`group,V.d y0)::(`some,V.d y1)::aG c d e f g A B h i j x l m n o p q r,some u):=∅
theorem Qu:jg U 21 ax.sc Ez y (z1::(`row,a)::aG b c d e f g h i j x A l m n o p q r)=de (de (aa (bD (ay (V.d y) #[0])) λs=>aa (bD (ay A #[0])) λt=>cmp .In s t) (ret true) (ret false)) (aa (frz (V.d y)) λu=>ret (z1::(`row,V.d y)::aG b c d e f g h i j x A l m n o p q r,some u)) (ret (z1::(`row,V.d y)::aG b c d e f g h i j x A l m n o p q r,none)):=∅
theorem Qv:jg U 21 ax.sc EA y (z1::(`row,a)::aG b c d e f g h i j x A l m n o p q r)=de (de (fO (aa (bD (ay (V.d y) #[0])) λs=>aa (bD (ay A #[1])) λt=>cmp .In s t) (fO (aa (bD (ay (V.d y) #[0])) λu=>aa (bD (ay A #[0])) λv=>cmp .NotIn u v) (ret true))) (ret true) (ret false)) (aa (frz (V.d y)) λw=>ret (z1::(`row,V.d y)::aG b c d e f g h i j x A l m n o p q r,some w)) (ret (z1::(`row,V.d y)::aG b c d e f g h i j x A l m n o p q r,none)):=∅
theorem Qw:jg U 18 ax.sc y9 y (z1::(`name,a)::aG b c d e f g h i j x l m n o p q r s)=aa (U `is_name [V.d y]) λt=>aa (frz t) λu=>ret (z1::(`name,V.d y)::aG b c d e f g h i j x l m n o p q r s,some u):=∅
end
section
variable{a:Int}
theorem lb{a m:Nat}(h:a<=n)(e:er n m=true:=by rwa[Eq.refl true]):a<=m:=Vw h (Vu e)
theorem ju{m n:Res α}{a:α}(h:m=.ok a σ):alt m n=.ok a σ:=by subst h;rfl
theorem c7{a:α}:aa (ret a) f=f a:=by rfl
theorem Ck:bD (ret d)=ret (.d d):=by rfl
theorem GN:ao ([]:List (M α))=ret []:=by rfl
theorem GO{m:M α}:ao (m::ms)=aa m λa=>aa (ao ms) λas=>ret (a::as):=by rfl
theorem U8:frzs []=ret []:=by rfl
theorem U9:frzs (.d x::vs)=aa (frzs vs) λds=>ret (x::ds):=by rfl
theorem OV:frz (.d x)=ret x:=by rfl
theorem Va:nM vs=aa (frzs vs) λds=>ret (.d (.tuple ds)):=by rfl
theorem Uy:cu (ret ds)=ret (.d (.list ds)):=by rfl
theorem Dv:de (ret t) p q=xm t p q:=by rfl
theorem Tu:xm true p q=p:=by rfl
theorem Tv:xm false p q=q:=by rfl
theorem xr{k:M Bool}:fO (ret t) k=xm t k (ret false):=by obtain⟨⟩:=t<;>rfl
theorem Qx{k:M Bool}:hO (ret t) k=xm t (ret true) k:=by obtain⟨⟩:=t<;>rfl
theorem GP{s:Bool}:xm t (ret s) (ret false)=ret (t&&s):=by obtain⟨⟩:=t<;>rfl
theorem Vb{s:Bool}:xm t (ret true) (ret s)=ret (t||s):=by obtain⟨⟩:=t<;>rfl
theorem aw{m:M γ}:aa (aa m g) f=aa m λa=>aa (g a) f:=iF
theorem aB{m:M α}{a:α}(h:m σ=.ok a σ'):aa m f σ=f a σ':=by delta aa;rw[h]
theorem gB{m:M α}{c:Str}(h:m σ=.exc c σ'):aa m f σ=.exc c σ':=by delta aa;rw[h]
theorem SG:af .Add (.d (.int a)) (.d (.int b))=ret (.int (a+b)):=by rfl
theorem JS:af .Sub (.d (.int a)) (.d (.int b))=ret (.int (a-b)):=by rfl
theorem uO(h:(short a||short b)=true):af .Mult (.d (.int a)) (.d (.int b))=ret (.int (a*b)):=by funext σ;erw[ju ?_];show lift ((match short a||short b with|true=>some (a*b)|false=>none:Option Int).map Dat.int) σ=_;erw[(h)▸?_];rfl
theorem Dw:af .FloorDiv (.d (.int i)) (.d (.int 8))=ret (.int ((i/8:Nat):Int)):=by show ret (Dat.int (Int.fdiv i 8))=_;rw[Wq _ #v[]];rfl
theorem JT(h:0<=b):af .RShift (.d (.int a)) (.d (.int b))=ret (.int (a/2^b.toNat)):=by funext σ;erw[ju ?_];show lift ((match decide (0<=b)with|true=>some (a.fdiv (2^b.toNat))|false=>none:Option Int).map Dat.int) σ=_;rw[Vz h,Wq _ (Int.le_of_lt (Int.pow_pos #v[]))];rfl
theorem Vc:af .BitAnd (.d (.int a)) (.d (.int 255))=ret (.int (a %256)):=by show ret (Dat.int (ad9 a 255))=_;rw[PyProof.Rows.bitAnd_m8]
theorem Vd:af .BitAnd (.d (.int a)) (.d (.int 15))=ret (.int (a %16)):=by show ret (Dat.int (ad9 a 15))=_;rw[PyProof.Rows.bitAnd_m4]
theorem UY:af .BitAnd (.d (.int a)) (.d (.int 4294967295))=ret (.int (a %4294967296)):=by show ret (Dat.int (ad9 a 4294967295))=_;rw[PyProof.Rows.bitAnd_m32]
theorem Uz:cmp .LtE (.d (.int a)) (.d (.int b))=ret (decide (a<=b)):=by rfl
theorem UA:cmp .GtE (.d (.int a)) (.d (.int b))=ret (decide (b<=a)):=by rfl
theorem SH:cmp .Eq (.d (.int a)) (.d (.int b))=ret (decide (a=b)):=by rfl
theorem SI:cmp .NotEq (.d (.int a)) (.d (.int b))=ret !decide (a=b):=by rfl
theorem lL{f:ae->Option α}{a:α}(h:f σ=some a):reads f σ=.ok a σ:=by delta reads;rw[h]
theorem UB{a b:Option α}{x:α}(h:a=some x):gP a b=some x:=by rw[h];rfl
theorem pU{f:Str}(h:Hv f v σ=some d):bi f [v] σ=.ok d σ:=lL (UB h)
theorem za(h:Hs v σ=some d):bi `len [v] σ=.ok d σ:=pU (by delta Hv;simp![h];kernel_rfl)
theorem Qy(h:Cq v=some d):bi `int [v] σ=.ok d σ:=pU (by delta Hv;simp![h];kernel_rfl)
theorem Qz(h:Hu v=some d):bi `str [v] σ=.ok d σ:=pU (by delta Hv;simp![h];kernel_rfl)
theorem JU(h:((listOf σ v).bind λxs=>within xs.length (Dat.tuple xs))=some d):bi `tuple [v] σ=.ok d σ:=pU (by delta Hv;simp![h];kernel_rfl)
theorem zb(h:((m9 σ v).bind λxs=>within xs.length (Dat.list xs))=some d):bi `list [v] σ=.ok d σ:=pU (by delta Hv;simp![h];kernel_rfl)
theorem JV(h:yf v σ=some d):bi `bytes [v] σ=.ok d σ:=pU (by delta Hv;simp![h];kernel_rfl)
theorem QA(h:((listOf σ v).bind λxs=>(yd xs).map λks=>Dat.int ks.sum)=some d):bi `sum [v] σ=.ok d σ:=pU (by delta Hv;simp![h];kernel_rfl)
theorem QB(h:((listOf σ v).bind λxs=>(wZ xs).map λks=>Dat.bool (ks.all id))=some d):bi `all [v] σ=.ok d σ:=pU (by delta Hv;rw[h];kernel_rfl)
theorem Nx(h:Ct v σ=some d):bi `dict [v] σ=.ok d σ:=pU (by delta Hv;rw[h];kernel_rfl)
theorem dj(e:σ[c]?=some (.list xs)):gL σ (.cell c)=some (c,xs):=by delta gL;dsimp only;rw[e]
theorem xu(e:σ[c]?=some (.dict ks xs)):ji σ (.cell c)=some (c,ks,xs):=by delta ji;dsimp only;rw[e]
theorem xv{q:Str}(e:σ[c]?=some (.inst q ns xs)):sL σ (.cell c)=some (c,q,ns,xs):=by delta sL;dsimp only;rw[e]
theorem uP{q:Str}(e:σ[c]?=some (.inst q ns xs)):qo σ (.cell c)=some (q,ns,xs):=by show(sL σ (.cell c)).map (·.2)=_;rw[xv e];rfl
theorem uQ(e:σ[c]?=some (.dict ks xs)):dictOf σ (.cell c)=some (ks,xs):=by show(ji σ (.cell c)).map (·.2)=_;rw[xu e];rfl
theorem fK(e:σ[c]?=some (.list xs)):listOf σ (.cell c)=some xs:=by show(gL σ (.cell c)).map (·.2)=_;rw[dj e];rfl
theorem iH{x:α}(h:n<=16777216):within n x=some x:=by delta within;rw[V0 (show n<=SL from h)]
theorem uR(h:s.length<=16777216):bi `len [.d (.str s)]=ret (.int s.length):=by funext σ;rwa[za (UB (iH h))]
theorem lM{s:List UInt8}(h:s.length<=16777216):bi `len [.d (.bytes s)]=ret (.int s.length):=by funext σ;rwa[za (UB (iH h):gP (within s.length (Dat.int s.length)) none=_)]
theorem JW{s:List Dat}(h:s.length<=16777216):bi `len [.d (.list s)]=ret (.int s.length):=by funext σ;rwa[za (iH h)]
theorem oj{s t:List Dat}(h:s.length+t.length<=16777216):af .Add (.d (.list s)) (.d (.list t))=ret (.list (s++t)):=by funext σ;erw[ju (m:=lift (within (s.length+t.length) (Dat.list (s++t))) σ) ?_];rw[iH h];rfl
theorem eP{t:List Nat}(h:s.length+t.length<=16777216):af .Add (.d (.str s)) (.d (.str t))=ret (.str (s++t)):=by funext σ;erw[ju (m:=lift (within (s.length+t.length) (Dat.str (s++t))) σ) ?_];rw[iH h];rfl
theorem zc{s t:List UInt8}(h:s.length+t.length<=16777216):af .Add (.d (.bytes s)) (.d (.bytes t))=ret (.bytes (s++t)):=by funext σ;erw[ju (m:=lift (within (s.length+t.length) (Dat.bytes (s++t))) σ) ?_];rw[iH h];rfl
theorem ix(h:k<n)(a:n<=16777216):D7 k n=some k:=M7 h a
theorem kb(h:i<s.length)(a:s.length<=16777216):ay (.d (.str s)) (.d (.int i))=ret (.str [s.getD i 0]):=by funext σ;erw[ju (m:=lift ((D7 i s.length).bind λj=>(s[j]?).map λc=>Dat.str [c]) σ) ?_];simp![ix h a,VL,Wl,VG h];rfl
theorem JX{s:List UInt8}(h:i<s.length)(a:s.length<=16777216):ay (.d (.bytes s)) (.d (.int i))=ret (.int (s.getD i 0).toNat):=by funext σ;erw[ju (m:=gd (decide (0<=(i:Int))&&decide ((i:Int)<s.length)&&er s.length SL) (.ok (Dat.int (s.getD (i:Int).toNat 0).toNat) σ)) ?_];simp![show(decide (0<=(i:Int))&&decide ((i:Int)<s.length)&&er s.length SL)=true by simp![V0 (show _<=SL from a)];simp;omega];rfl
theorem JY{s:List Dat}(h:i<s.length)(a:s.length<=16777216):ay (.d (.list s)) (.d (.int i))=ret (s.getD i .none):=by funext σ;show lift ((D7 i s.length).bind λj=>s[j]?) σ=_;rw[ix h a];simp![VL,Wl,VG h];rfl
theorem hZ(h:i<=10000000):bI `range [.d (.int i)]=ret (Src.items ((eg i).map λj=>Dat.int (j:Nat))):=by delta bI;rw[show(kI [V.d (.int i)]).bind Cu=_ from(by show ir (decide (-10000000<=(i:Int))&&decide ((i:Int)<=10000000)) (some (Src.items (kX 0 i 1)))=_;rw[show(decide (-10000000<=(i:Int))&&decide ((i:Int)<=10000000))=true by simp;lia];rw[Dk];rfl:Cu (.d (.int i))=some (Src.items ((eg i).map λj=>Dat.int (j:Nat))))];kernel_rfl
theorem GQ{h:A->Bool}{l:List A}:wZ (l.map λa=>Dat.bool (h a))=some (l.map h):=pn (f:=RQ) (g:=λa=>.bool (h a)) (h:=h) λY=>rfl
theorem Bz{h:A->Int}{l:List A}:yd (l.map λa=>Dat.int (h a))=some (l.map h):=pn (f:=oJ) (g:=λa=>.int (h a)) (h:=h) λY=>rfl
theorem JZ{h:A->Int}:∀{l:List A},(∀a∈l,0<=h a/\h a<256)->ye (l.map h)=some (l.map λa=>(h a).toNat.toUInt8):=by intro f;induction f with|nil=>rwa[λY=>rfl]|cons a l c=>intro k;have⟨d,g⟩:=k a (Vv ..);rw[V3];dsimp![ye];rw[show(decide (0<=h a)&&decide (h a<256))=true by simp[d,g]];rw[c λb e=>k b (VB _ e)];rfl
theorem EC{h:A->Bool}{l:List A}:bi `all [.d (.list (l.map λa=>.bool (h a)))]=ret (.bool (l.all h)):=by funext σ;erw[QB ?_];show(wZ (l.map λa=>.bool (h a))).map (λb=>Dat.bool (b.all id))=_;rw[GQ];show some (Dat.bool ((l.map h).all id))=_;rw[List.all_map];rfl
theorem sC{h:A->Int}{l:List A}(d:∀a∈l,0<=h a/\h a<256)(c:l.length<=16777216):bi `bytes [.d (.list (l.map λa=>.int (h a)))]=ret (.bytes (l.map λa=>(h a).toNat.toUInt8)):=by funext σ;erw[JV ?_];show(yd (l.map λa=>.int (h a))).bind (λe=>(ye e).bind λb=>within b.length (Dat.bytes b))=_;rw[Bz];show(ye (l.map h)).bind (λb=>within b.length (Dat.bytes b))=_;rw[JZ d];rwa[iH (by rw[Vo];rwa[c])]
theorem uS{h:A->List Nat}{l:List A}(b:(aS sep (l.map h)).length+sep.length<=16777216):cV U `join (.d (.str sep)) [.d (.list (l.map λa=>.str (h a)))]=ret (.d (.str (aS sep (l.map h)))):=by funext σ;show opt (nz (l.map λa=>.str (h a))) (λc=>lift (within ((aS sep c).length+sep.length) (V.d (.str (aS sep c)))) σ)=_;rw[lh];show lift (within ((aS sep (l.map h)).length+sep.length) (V.d (.str (aS sep (l.map h))))) σ=_;rw[iH b];rfl
theorem uT{l:Option Nat}(c:bound lo=some l)(b:bound hi=some h)(a:s.length<=16777216):bq (.d (.str s)) lo hi=ret (.str (cut l h s)):=by funext σ;delta bq;simp![c,b];erw[ju (m:=lift (within s.length (Dat.str (cut l h s))) σ) ?_];rw[iH a];rfl
theorem BA{ys:List A}(c:A->Dat)(g:A->Option Dat)(L:τ->Ls)(w:τ)(h:ys.length<=16777216)(a:∀y∈ys,∀w,∃b,jg U n sc e (c y) (L w)=ret (L b,g y)):bR U n sc e (L w) (.items (ys.map c))=ret (ys.filterMap g):=by funext σ;rwa[yB (r:=.ok _ σ) (tK (σ':=σ) (ds:=ys.filterMap g) (V7 (AA (P:=iT U) (n:=n) (sc:=ai sc (mN e)) (σ:=σ) (t:=(eH 0 e).target) (ifs:=(eH 0 e).ifs) (elt:=gc 0 e) L c g (ys:=ys) h (λy d w=>by obtain⟨b,f⟩:=a y d w;rwa[⟨b,by have:=Wd f σ;rwa[this]⟩]) w) λb e=>⟨_,e⟩) rfl)]
theorem uU{h:List A}(b:A->Dat)(g:A->Option Dat)(L:τ->Ls)(w:τ)(f:h.length<=16777216)(c:isTup (eH 0 e).target=true)(a:∀y∈h,∀w,∃d,jg U n sc e (b y) (L w)=ret (L d,g y)):bR U n sc e (L w) (.pairs (h.map b))=ret (h.filterMap g):=by simp![<-BA b g L w f a];dsimp![bR,cR,L7];erw[(c)▸?_];rfl
theorem BB{B:Type}{p:A->Bool}{h:A->B}{b:List A}:b.filterMap (λy=>if p y then some (h y)else none)=(b.filter p).map h:=by induction b with|nil=>rfl|cons y b a=>erw[Vn eO ?_];rw[Xa,a];cases p y<;>rfl
section
variable{ys:List A}
theorem Cm(b:A->Dat)(h:A->Dat)(d:ys.length<=16777216)(a:∀y∈ys,∀w,jg U n sc e (b y) ((x0,none)::(x1,w)::ls)=ret ((x0,none)::(x1,some (.d (b y)))::ls,some (h y))):bR U n sc e ((x0,none)::(x1,none)::ls) (.items (ys.map b))=ret (ys.map h):=by erw[(BA b (λy=>some (h y)) (λw:Option V=>(x0,none)::(x1,w)::ls) none d λy c w=>⟨_,a y c w⟩).trans ?_];rw[W7]
theorem Ny(b:A->Dat)(p:A->Bool)(h:A->Dat)(d:ys.length<=16777216)(a:∀y∈ys,∀w,jg U n sc e (b y) ((x0,none)::(x1,w)::ls)=ret ((x0,none)::(x1,some (.d (b y)))::ls,if p y then some (h y)else none)):bR U n sc e ((x0,none)::(x1,none)::ls) (.items (ys.map b))=ret ((ys.filter p).map h):=by erw[(BA b (λy=>if p y then some (h y)else none) (λw:Option V=>(x0,none)::(x1,w)::ls) none d λy c w=>⟨_,a y c w⟩).trans ?_];rw[BB]
theorem UC(c b:A->Dat)(p:A->Bool)(h:A->Dat)(f:ys.length<=16777216)(a:∀y∈ys,∀w u,jg U n sc e (.tuple [c y,b y]) ((x0,none)::(x1,w)::(x2,u)::ls)=ret ((x0,none)::(x1,some (.d (c y)))::(x2,some (.d (b y)))::ls,if p y then some (h y)else none)):bR U n sc e ((x0,none)::(x1,none)::(x2,none)::ls) (.items (ys.map λy=>.tuple [c y,b y]))=ret ((ys.filter p).map h):=by erw[(BA (λy=>.tuple [c y,b y]) (λy=>if p y then some (h y)else none) (λw:Option V×Option V=>(x0,none)::(x1,w.1)::(x2,w.2)::ls) (none,none) f λy d w=>⟨(_,_),a y d w.1 w.2⟩).trans ?_];rw[BB]
theorem Nz(c b d:A->Dat)(p:A->Bool)(h:A->Dat)(g:ys.length<=16777216)(a:∀y∈ys,∀w u z,jg U n sc e (.tuple [c y,b y,d y]) ((x0,none)::(x1,w)::(x2,u)::(x3,z)::ls)=ret ((x0,none)::(x1,some (.d (c y)))::(x2,some (.d (b y)))::(x3,some (.d (d y)))::ls,if p y then some (h y)else none)):bR U n sc e ((x0,none)::(x1,none)::(x2,none)::(x3,none)::ls) (.items (ys.map λy=>.tuple [c y,b y,d y]))=ret ((ys.filter p).map h):=by erw[(BA (λy=>.tuple [c y,b y,d y]) (λy=>if p y then some (h y)else none) (λw:Option V×Option V×Option V=>(x0,none)::(x1,w.1)::(x2,w.2.1)::(x3,w.2.2)::ls) (none,none,none) g λy f w=>⟨(_,_,_),a y f w.1 w.2.1 w.2.2⟩).trans ?_];rw[BB]
theorem BC{l:List A}:l.filter (λY=>true)=l:=by simp
theorem Tw(c b:A->Dat)(h:A->Dat)(f:ys.length<=16777216)(a:∀y∈ys,∀w u,jg U n sc e (.tuple [c y,b y]) ((x0,none)::(x1,w)::(x2,u)::ls)=ret ((x0,none)::(x1,some (.d (c y)))::(x2,some (.d (b y)))::ls,some (h y))):bR U n sc e ((x0,none)::(x1,none)::(x2,none)::ls) (.items (ys.map λy=>.tuple [c y,b y]))=ret (ys.map h):=by have:=UC (p:=λY=>true) (x0:=x0) (ls:=ls) c b h f λy d w u=>a y d w u;rwa[BC]at this
theorem Ve(c b d:A->Dat)(h:A->Dat)(g:ys.length<=16777216)(a:∀y∈ys,∀w u z,jg U n sc e (.tuple [c y,b y,d y]) ((x0,none)::(x1,w)::(x2,u)::(x3,z)::ls)=ret ((x0,none)::(x1,some (.d (c y)))::(x2,some (.d (b y)))::(x3,some (.d (d y)))::ls,some (h y))):bR U n sc e ((x0,none)::(x1,none)::(x2,none)::(x3,none)::ls) (.items (ys.map λy=>.tuple [c y,b y,d y]))=ret (ys.map h):=by have:=Nz (p:=λY=>true) (x0:=x0) (ls:=ls) c b d h g λy f w u z=>a y f w u z;rwa[BC]at this
end
theorem BD{s:Stmt}:fr U F n s ls kn kr (.items xs)=aa (forL (gr U F n s) xs ls) (tF kn kr):=rfl
theorem QC{s:Stmt}(d:A->Dat)(L:τ->Ls)(I:List A->τ->ae->Prop){w:τ}{t:List A}(o:I t w σ)(b:∀y t w σ,I (y::t) w σ->∃a σ',gr U F n s (d y) (L w) σ=.ok (.next (L a)) σ'/\I t a σ')(m:∀a σ',I [] a σ'->kn (L a) σ'=r):fr U F n s (L w) kn kr (.items (t.map d)) σ=r:=ba λf=>d6 (((by intro t;induction t with|nil=>rwa[λw σ h=>m_22 w σ rfl h]|cons y t p=>rwa[λw σ h=>ba λf=>d6 (b y t w σ h) λl c q i1=>d6 (p l c i1) λk g j i2=>f (m_22 k g (M5 q j) i2)]:∀(t:List A)(w:τ)(σ:ae),I t w σ->∃a σ',forL (gr U F n s) (t.map d) (L w) σ=.ok (.next (L a)) σ'/\I [] a σ')) t w σ o) λa σ' e i=>f (M5 e (m a σ' i))
end
section
variable{a:Int}{j:Nat}
theorem big(h:n<=1000000):n<=16777216:=Vw h #v[]
theorem QD:af .Add (.d (.int i)) (.d (.int j))=ret (.int ((i+j:Nat):Int)):=by rfl
theorem QE:af .Add (.d (.int i)) (.d (.int 1))=ret (.int ((i+1:Nat):Int)):=by rfl
theorem UD:af .Add (.d (.int i)) (.d (.int 8))=ret (.int ((i+8:Nat):Int)):=by rfl
theorem Tx:af .Mult (.d (.int 8)) (.d (.int i))=ret (.int ((8*i:Nat):Int)):=by rfl
theorem uV{h:A->Dat}{l:List A}(a:i<l.length)(b:l.length<=1000000):ay (.d (.list (l.map h))) (.d (.int i))=ret (h l[i]):=by erw[Vn (JY (by rw[Vo];rwa[a]) (by rw[Vo];rwa[big b])) ?_];simp![VL,ao1,VG a];rfl
theorem zd{h:A->Dat}{l:List A}(a:l.length<=1000000):bi `len [.d (.list (l.map h))]=ret (.int l.length):=by rw[JW (by rw[Vo];rwa[big a]),Vo]
theorem lN(a:l.length<=1000000):bi `tuple [.d (.list l)]=ret (.tuple l):=by funext σ;rwa[JU (iH (big a))]
theorem QF(a:l.length<=1000000):bi `list [.d (.list l)]=ret (.list l):=by funext σ;rwa[zb (iH (big a))]
theorem NA(a:l.length<=1000000):bi `list [.d (.tuple l)]=ret (.list l):=by funext σ;rwa[zb (iH (big a))]
theorem NB{f:Dat->M β}(e:σ[c]?=some (.list l))(a:l.length<=1000000):aa (bi `list [.cell c]) f σ=f (.list l) σ:=by erw[aB (zb ?_)];show(listOf σ (.cell c)).bind (λb=>within b.length (Dat.list b))=_;rwa[(fK e)▸iH (big a)]
theorem OW(h:i<=1000000):(decide (0<=(i:Int))&&decide ((i:Int)<2^62))=true:=by simp![Vq,Vx,Vx];rwa[⟨Wf i,by lia⟩]
theorem QG(h:(decide (0<=a)&&decide (a<2^62))=true):bound (.d (.int a))=some (some a.toNat):=by show ir _ (some (some a.toNat))=_;erw[(h)▸?_];rfl
theorem gC(h:i<=1000000):bound (.d (.int (i:Int)))=some (some i):=QG (OW h)
theorem uW{s:List UInt8}{l:Option Nat}(a:bound lo=some l)(c:bound hi=some h)(b:s.length<=1000000):bq (.d (.bytes s)) lo hi=ret (.bytes (cut l h s)):=by funext σ;delta bq;simp![a,c];erw[ju (m:=lift (within s.length (Dat.bytes (cut l h s))) σ) ?_];rw[iH (big b)];rfl
theorem jA{s:List Dat}{l:Option Nat}(a:bound lo=some l)(c:bound hi=some h)(b:s.length<=1000000):bq (.d (.list s)) lo hi=ret (.list (cut l h s)):=by funext σ;delta bq;simp![a,c];erw[ju (m:=lift (within s.length (Dat.list (cut l h s))) σ) ?_];rw[iH (big b)];rfl
theorem ze{A f:Type}(b:A->Dat)(L:f->Ls)(p:A->Bool)(v:A->V){kn:Ls->M β}{kr:V->M β}:∀{ys:List A}{w:f},(∀y∈ys,∀w,(p y=true->gr U m n o (b y) (L w) σ=.ok (.ret (v y)) σ)/\(p y=false->∃c,gr U m n o (b y) (L w) σ=.ok (.next (L c)) σ))->(∀y,ys.find? p=some y->kr (v y) σ=r)->(ys.find? p=none->∀c,kn (L c) σ=r)->fr U m n o (L w) kn kr (.items (ys.map b)) σ=r|[],w,_,_,h2=>h2 rfl w|y::ys,w,a,g,h2=>by have t:=a y (Vv ..) w;show aa (aa (gr U m n o (b y) (L w)) λr=>match r with|.next i=>forL (gr U m n o) (ys.map b) i|.ret v=>ret (.ret v)) (tF kn kr) σ=r;rw[aw];cases e:p y with|true=>rwa[Vn (aB (t.1 e)) (g y (by dsimp![fo];rw[e]))]|false=>obtain⟨c,h⟩:=t.2 e;erw[Vn (aB h) ?_];have:=ze (w:=c) b L p v (ys:=ys) (kn:=kn) (kr:=kr) (r:=r) (λz d=>a z (VB _ d)) (λz d=>g z (by dsimp![fo];rwa[(e)▸d])) λd=>h2 (by simp![fo,e];rwa[d]);rwa[this]
end
theorem BE(e:σ[c]?=some (.list xs)):dictOf σ (.cell c)=none:=by show(ji σ (.cell c)).map (·.2)=_;delta ji;dsimp only;erw[(e)▸?_];rfl
theorem J0(e:σ[c]?=some (.inst q ns xs)):dictOf σ (.cell c)=none:=by show(ji σ (.cell c)).map (·.2)=_;delta ji;dsimp only;erw[(e)▸?_];rfl
theorem Tz(c:UInt8):c.toNat/16<16:=Nat.div_lt_of_lt_mul c.toNat_lt
theorem Vf(c:UInt8):((c.toNat:Nat):Int)<256:=XX.mpr c.toNat_lt
theorem ED{l:List α}(h:l.length<=100000)(a:0<l.length)(b:0<k:=by simp +arith only):(l.drop k).length<NN:=by rw[WD];rwa[XY (Nat.sub_lt a b) (Vw h hN)]
section
variable{a:Int}{j:Nat}
theorem ac:aa (ret d) f=f d:=rfl
theorem fL:bD (ret d)=ret (.d d):=rfl
theorem UZ:bB (ret t)=ret (.d (.bool t)):=rfl
theorem dW:ao ([]:List (M α))=ret []:=rfl
theorem dX:ao (m::ms)=aa m λa=>aa (ao ms) λas=>ret (a::as):=rfl
theorem mW:frzs []=ret []:=rfl
theorem mX:frzs (.d x::vs)=aa (frzs vs) λds=>ret (x::ds):=rfl
theorem pV:frz (.d x)=ret x:=rfl
theorem QH:jy m=aa m nM:=rfl
theorem Vg:kL m=aa m li:=rfl
theorem UE:nM vs=aa (frzs vs) λds=>ret (.d (.tuple ds)):=rfl
theorem zf:li vs=aa (frzs vs) λds=>ret (.d (.list ds)):=rfl
theorem Vh:SD vs=aa (frzs vs) λds=>aM (.list ds):=rfl
theorem BF:cu (ret ds)=ret (.d (.list ds)):=rfl
theorem Vi:M9 (ret ds)=aM (.list ds):=rfl
theorem fV:de (ret t) p q=xm t p q:=rfl
theorem qk:xm true p q=p:=rfl
theorem oH:xm false p q=q:=rfl
theorem OX:JG (ret t) d=xm t d (ret false):=rfl
theorem U0:yC (ret t)=ret !t:=rfl
theorem SJ:AB (ret v)=lift (truth v):=rfl
theorem EE:lift (truth (.d (.bool t)))=ret t:=rfl
theorem U1:lift (truth (.d .none))=ret false:=rfl
theorem UF:lift (some d)=ret d:=rfl
theorem J2:af .Add (.d (.int a)) (.d (.int b))=ret (.int (a+b)):=rfl
theorem BG:af .Sub (.d (.int a)) (.d (.int b))=ret (.int (a-b)):=rfl
theorem QI:cmp .Lt (.d (.int a)) (.d (.int b))=ret (decide (a<b)):=rfl
theorem SK:cmp .LtE (.d (.int a)) (.d (.int b))=ret (decide (a<=b)):=rfl
theorem Vj:cmp .Gt (.d (.int a)) (.d (.int b))=ret (decide (b<a)):=rfl
theorem Vk:cmp .GtE (.d (.int a)) (.d (.int b))=ret (decide (b<=a)):=rfl
theorem EF:cmp .Eq (.d (.int a)) (.d (.int b))=ret (decide (a=b)):=rfl
theorem EG:cmp .Eq (.d (.str s)) (.d (.str d))=ret (decide (s=d)):=rfl
theorem EH:cmp .NotEq (.d (.int a)) (.d (.int b))=ret !decide (a=b):=rfl
theorem EJ:cmp .NotEq (.d (.str s)) (.d (.str d))=ret !decide (s=d):=rfl
theorem U2:cmp .In (.d (.str [c])) (.d (.str s))=ret (s.contains c):=rfl
theorem QJ:bf (.d (.str s))=ret (.items (s.map λc=>.str [c])):=rfl
theorem QK{s:List UInt8}:bf (.d (.bytes s))=ret (.items (s.map λc=>.int c.toNat)):=rfl
theorem iZ:bf (.d (.list d))=ret (.items d):=rfl
theorem uX:bf (.d (.tuple d))=ret (.items d):=rfl
theorem J3:af .Add (.d (.int i)) (.d (.int j))=ret (.int ((i+j:Nat):Int)):=rfl
theorem J4:af .Add (.d (.int i)) (.d (.int 1))=ret (.int ((i+1:Nat):Int)):=rfl
theorem QL:af .Add (.d (.int i)) (.d (.int 8))=ret (.int ((i+8:Nat):Int)):=rfl
theorem Dx:af .Add (.d (.int 1)) (.d (.int i))=ret (.int ((1+i:Nat):Int)):=rfl
theorem QM:bi `bytes [.d (.bytes d)]=ret (.bytes d):=rfl
end
end
@[elab_as_elim]theorem rx{a b:α}{P:α->Prop}(h:a=b)(k:P b):P a:=h▸k
local macro_rules (kind:=Lean.Parser.Tactic.rwSeq)
|s=>let r:=s[2][1].getSepArgs.toList;if !s[3].isNone||r.isEmpty then Lean.Macro.throwUnsupported else
 let b:=λx:List Lean.Syntax=>s.setArg 2 (s[2].setArg 1 (zzN x.toArray))
 pure (zzN ((r.map λx=>zzT "first" #[zzA "first",zzN #[zzN #[zzA "|",zzT "refine" #[zzA "refine",zzP (zzI "rx") #[if x[0].isNone then x[1]else zzP (zzI "Eq.symm") #[x[1]],zzH]]],zzN #[zzA "|",(b [x]).setKind ``Lean.Parser.Tactic.rewriteSeq]]]).toArray.push (b [])))
def zzF:="ac fL UZ dW dX mW mX pV QH Vg UE zf Vh BF Vi fV qk oH OX U0 SJ EE U1 UF J3 J4 QL Dx Tx Dw QI SK Vj Vk EF EG EH EJ U2 QJ QK iZ uX QM xr Qx GP Vb Vc Vd UY"
local macro_rules (kind:=PySem.W.tacticWtm_at_)
|s=>let k:=s[1].isStrLit?.getD "";let t:=zzS (if k=="d"then"c7 Ck GN GO U8 U9 OV Va Uy Dv Tu Tv QD QE UD Tx Dw Uz UA SH SI xr Qx GP Vb Vc Vd UY"else if k=="e"then"ac fL UZ dW dX mW mX pV QH Vg UE zf Vh BF Vi fV qk oH OX U0 SJ EE U1 UF J3 J4 QL Dx QI SK Vj Vk EF EG EH EJ U2 QJ QK iZ uX QM"else zzF) #[];pure (zzT "tacticTry_" #[zzA "try",zzC (if k=="e"then t.setKind ``Lean.Parser.Tactic.dsimp else t)])
local macro_rules (kind:=Lean.Parser.Tactic.tacticSimpa!_)
|s=>pure (zzS zzF (s[1][3][0][1].getArgs.push (zzA ",")))
section
variable{β A B α τ υ:Type}{b':Bool}{d:Dat}{e:Expr}{l:List (List UInt8)}{xs ys:List Dat}{ns:List Str}{b a:List UInt8}{kn:Ls->M β}{ms:M (List V)}{q p ma:aX}{k c i n j cnt:Nat}{u:Option V×Option V×Option V×Option V}{s:Stmt}{σ σ':ae}{Q:ae->Prop}{U:Str->List V->M V}{f kr:V->M β}{en:α->Dat}{I J:τ->Prop}{Sg:τ->ae}
noncomputable def dh(w:Int)(m:Nat):List UInt8:=(eg m).map λi=>(w/2^(8*i) %256).toNat.toUInt8
theorem uY{w:Int}{m:Nat}(a:m<=1000):C (k+1) `little [.d (.int w),.d (.int m)]=ret (.d (.bytes (dh w m))):=by funext σ;rw[Gb];erw[dZ ?_];rw[Gc];rw[hZ (a_1 a)];wtm_at "f";rw[Cm (λj=>Dat.int (j:Nat)) (λj=>Dat.int (w/2^(8*j) %256)) (by rw[VN];rwa[a_1 a]) (by intro y _ b;erw[Vn Gd ?_];wtm_at "f";rw[JT (by lia)];wtm_at "f";rfl)];wtm_at "e";rw[sC (by grind) (by rw[VN];omega)];rfl
theorem uZ(x:UInt8):short (x.toNat:Int)=true:=by have:=x.toNat_lt;delta short;simp![W9];omega
noncomputable def u0(b:List UInt8):Int:=(eg b.length).foldl (λ(t:Int)i=>t+(i+1)*(b.getD i 0).toNat) 0
theorem jB(c:b.length<=1000000):C (k+1) `check_sum [.d (.bytes b)]=ret (.d (.int (u0 b %4294967296))):=by
 injections b k;funext σ;simp![yD];erw[dZ ?_];rw[yE,yF];rw[lM (a_1 c)];wtm_at "e";rw[hZ (a_1 c)];erw[QC (λj=>Dat.int (j:Nat)) (λw:Int×Option V=>cP (some (.d (.bytes b))) (some (.d (.int w.1))) w.2) (λl w s=>s=σ/\(∀i∈l,i<b.length)/\l.foldl (λ(t:Int)(i:Nat)=>t+((i:Int)+1)*(b.getD i 0).toNat) w.1=u0 b) (w:=(0,none)) (m_03 rfl (λi h=>Wx.mp h) rfl) ?_ ?_]; ·rintro i l⟨t,u⟩s⟨rfl,a,e⟩;erw[Hg (t+((i:Int)+1)*(b.getD i 0).toNat,some (.d (.int i))) s ?_ rfl (λj d=>a j (VB _ d)) e];simp![yH,tW];rw[JX (a i (Vv ..)) (by lia)];wtm_at "f";rw[uO (by rw[uZ,Z4])];rfl
 ·rintro⟨t,u⟩s⟨rfl,-,h⟩;rw[yG];wtm_at "f";subst h;rfl
def dk(x:List Nat):Bool:=nf 0 x.length&&er x.length 15&&!(T "0123456789").contains (x.getD 0 0)&&x.all (T "abcdefghijklmnopqrstuvwxyz0123456789_").contains
theorem jv{x:List Nat}(d:x.length<=1000000):C (k+1) `is_name [.d (.str x)]=ret (.d (.bool (dk x))):=by
 injections k x;funext σ;simp![Dm];erw[dZ ?_];rw[Dn];rw[uR (a_1 d)];wtm_at "e";by_cases b:x.length=0; ·rw[show decide ((0:Int)<x.length)=false by simp[b]];rw[show dk x=false by delta dk;rw[b];rfl];rfl
 rw[show decide ((0:Int)<x.length)=true by simp;lia];by_cases a:x.length<=15; ·rw[show decide ((x.length:Int)<=15)=true by simp;omega];rw[show ay (.d (.str x)) (.d (.int 0))=ret (.str [x.getD 0 0])from kb (i:=0) (by lia) (a_1 a),uT (l:=none) (h:=some 10) rfl rfl ⋯];rw[show cut none (some 10) (T "0123456789abcdef")=T "0123456789"by decide +kernel];rw[Do];wtm_at "f";rw[Cm (λc:Nat=>Dat.str [c]) (λc=>Dat.bool ((T "abcdefghijklmnopqrstuvwxyz0123456789_").contains c)) (by omega) (by intro c _ w;rwa[Vn Dp rfl];wtm_at "d")];wtm_at "e";rw[EC];show _=Res.ok (V.d (.bool (nf 0 x.length&&er x.length 15&&!(T "0123456789").contains (x.getD 0 0)&&x.all (T "abcdefghijklmnopqrstuvwxyz0123456789_").contains))) σ;rw[show nf 0 x.length=true by simp![W9];lia,V0 a];cases(T "0123456789").contains (x.getD 0 0)<;>rfl
 ·rw[show decide ((x.length:Int)<=15)=false by simp;omega];rw[show dk x=false by delta dk;rw[WT.mpr λe=>a (Vu e)];simp];rfl
noncomputable abbrev Nm:=List Nat
variable{g:(Nm×Nat)×Nat}{fs:List ((Nm×Nat)×Nat)}{acc re:List (Nat×Nm×Nm)}{sy f':List (Nm×Nat)}{ss ls ws lns ks kept:List Nm}{x sep t z tails:Nm}
set_option genInjectivity true in structure Row where
 name:Nm
 kind:Nm
 kw:Nat
 vw:Nat
 most:Nat
variable{found:List Row}{r:Row}
def EK:List Str:=[`name,`kind,`key_width,`value_width,`most]
noncomputable def Row.vs(r:Row):List Dat:=[.str r.name,.str r.kind,.int (r.kw:Nat),.int (r.vw:Nat),.int (r.most:Nat)]
def Row.obj(r:Row):Dat:=.obj `MapRow EK r.vs
def Row.tup(r:Row):Dat:=.tuple r.vs
structure Ob where
 maps:List Row
 oct:List UInt8
 syms:List (Nm×Nat)
 rels:List (Nat×Nm×Nm)
variable{os:List Ob}{o:Ob}
noncomputable def bV(p:Nm×Nat):Dat:=.tuple [.str p.1,.int (p.2:Nat)]
noncomputable def c8(p:Nat×Nm×Nm):Dat:=.tuple [.int (p.1:Nat),.str p.2.1,.str p.2.2]
def SM:List Str:=[`maps,`octets,`symbols,`relocations]
def Ob.obj(o:Ob):Dat:=.obj `Object SM [.list (o.maps.map Row.obj),.bytes o.oct,.list (o.syms.map bV),.list (o.rels.map c8)]
def Ob.tup(o:Ob):Dat:=.tuple [.tuple (o.maps.map Row.tup),.bytes o.oct,.tuple (o.syms.map bV),.tuple (o.rels.map c8)]
structure Ob.Fit(o:Ob):Prop where
 maps:o.maps.length<=1000000
 oct:o.oct.length<=1000000
 syms:o.syms.length<=1000000
 rels:o.rels.length<=1000000
theorem Dy:bp (.d r.obj) `name=ret (.d (.str r.name)):=∅
theorem u4:bp (.d o.obj) `maps=ret (.d (.list (o.maps.map Row.obj))):=∅
theorem xw:bp (.d o.obj) `octets=ret (.d (.bytes o.oct)):=∅
theorem oo:bp (.d o.obj) `symbols=ret (.d (.list (o.syms.map bV))):=∅
theorem qV:bp (.d o.obj) `relocations=ret (.d (.list (o.rels.map c8))):=∅
theorem zg:cV U `told (.d r.obj) []=U (iu `MapRow `told) [.d r.obj]:=∅
theorem u5:cV U `told (.d o.obj) []=U (iu `Object `told) [.d o.obj]:=∅
theorem zh:cV U `count (.d o.obj) []=U (iu `Object `count) [.d o.obj]:=∅
theorem Dz:cV U `functions (.d o.obj) []=U (iu `Object `functions) [.d o.obj]:=∅
theorem NC:cV U `map_number (.d o.obj) [v]=U (iu `Object `map_number) [.d o.obj,v]:=∅
theorem OY:cV U `symbol (.d o.obj) [v]=U (iu `Object `symbol) [.d o.obj,v]:=∅
theorem u7:cV U `slot (.d o.obj) [v]=U (iu `Object `slot) [.d o.obj,v]:=∅
theorem eZ:(σ++[h])[σ.length]?=some h:=by simp
theorem i8:(σ++[h]).set σ.length o'=σ++[o']:=by simp
theorem u9{f:Unit->M β}(h:(attrOk m v&&er ns.length 100)=true):aa (dn (.cell σ.length) v w) f (σ++[.inst m ns vs])=f () (σ++[.inst m (put v w ns vs).1 (put v w ns vs).2]):=by erw[aB ?_];show opt (match(σ++[aX.inst m ns vs])[σ.length]? with|some (.inst m ns vs)=>some (σ.length,m,ns,vs)|_=>none) _=_;simp![eZ];show gd (attrOk m v&&er ns.length 100) _=_;simp![h];show Res.ok () ((σ++[aX.inst m ns vs]).set σ.length _)=_;rw[i8]
theorem zi:tL σ.length (back false (σ++[o']).length (.ok (.d .none) (σ++[h])))=.ok (.cell σ.length) (σ++[h]):=by rw[show(σ++[o']).length=(σ++[h]).length by simp];show Res.ok (V.cell σ.length) ((σ++[h]).take (σ++[h]).length)=_;rw[XQ]
theorem va:C (k+1) `MapRow [.d (.str r.name),.d (.str r.kind),.d (.int (r.kw:Nat)),.d (.int (r.vw:Nat)),.d (.int (r.most:Nat))] σ=.ok (.cell σ.length) (σ++[.inst `MapRow EK r.vs]):=by simp![Ge];erw[Vn (VT (λz=>tL σ.length (back false _ z)) ?_) zi];rw[Gf];erw[Vn (u9 ∅) ?_];rw[Gg];erw[Vn (u9 ∅) ?_];simp![Gh];erw[Vn (u9 ∅) ?_];simp![Gi];erw[Vn (u9 ∅) (Vn (u9 ∅) ?_)];kernel_rfl
theorem io:C (k+1) (iu `MapRow `told) [.d r.obj]=ret (.d r.tup):=by funext σ;simp![tO];erw[dZ ?_];kernel_rfl
theorem e8(h:o.Fit):C (k+2) (iu `Object `told) [.d o.obj]=ret (.d o.tup):=by injections k o;funext σ;simp![tP];erw[dZ ?_];rw[tQ,u4];wtm_at "f";rw[Cm Row.obj Row.tup (big h.maps) (by intro y _ w;simp![tT,zg,io];rfl)];wtm_at "e";rw[lN (by rw[Vo];rwa[h.maps])];wtm_at "e";simp![tR,xw,oo,qV];wtm_at "e";rw[lN (by rw[Vo];rwa[h.syms]),lN (by rw[Vo];rwa[h.rels])];rfl
noncomputable def Ob.count(o:Ob):Nat:=o.oct.length/8
theorem gX(h:o.Fit):C (k+1) (iu `Object `count) [.d o.obj]=ret (.d (.int (o.count:Nat))):=by funext σ;simp![rK];erw[dZ ?_];rw[rL,xw];wtm_at "f";rw[lM (big h.oct)];wtm_at "f";rfl
noncomputable def mapNo(l:List Row)(x:Nm):Option Nat:=(eg l.length).find? λi=>decide ((l.getD i ⟨[],[],0,0,0⟩).name=x)
noncomputable def orM(o:Option Nat):Int:=match o with|some i=>i|none=> -1
theorem kP(h:o.Fit):C (k+1) (iu `Object `map_number) [.d o.obj,.d (.str x)]=ret (.d (.int (orM (mapNo o.maps x)))):=by
 injections k _ x o;funext σ;simp![lr];erw[dZ ?_];rw[lu,u4];wtm_at "e";rw[zd h.maps];wtm_at "f";rw[hZ (lb h.maps)];erw[ze (λj=>Dat.int (j:Nat)) (λw=>aU (some (.d o.obj)) (some (.d (.str x))) w) (λi=>decide ((o.maps.getD i ⟨[],[],0,0,0⟩).name=x)) (λi=>.d (.int (i:Nat))) ?_ ?_ ?_]
 ·intro i a w;have a:=Wx.mp a;have e:gr (C k) bh 23 cD (.int (i:Nat)) (aU (some (.d o.obj)) (some (.d (.str x))) w)=xm (decide ((o.maps.getD i ⟨[],[],0,0,0⟩).name=x)) (ret (.ret (.d (.int (i:Nat))))) (ret (.next (aU (some (.d o.obj)) (some (.d (.str x))) (some (.d (.int (i:Nat))))))):=by simp![lw,j7];rw[u4];wtm_at "f";rw[uV a h.maps];simp![Dy,VL,VG a];rfl
  rwa[(e)▸⟨λq=>by rw[q];rfl,λq=>⟨_,by rw[q];rfl⟩⟩]
 ·intro i e;delta mapNo;erw[(e)▸?_];rfl
 ·intro e w;delta mapNo;erw[(e)▸?_];rfl
noncomputable def symAt(l:List (Nm×Nat))(x:Nm):Option Nat:=(l.find? λp=>decide (p.1=x)).map (·.2)
theorem jw:C (k+1) (iu `Object `symbol) [.d o.obj,.d (.str x)]=ret (.d (.int (orM (symAt o.syms x)))):=by
 funext σ;simp![qM];erw[dZ ?_];rw[qN,oo];erw[ze bV (λw:Option V×Option V=>dE (some (.d o.obj)) (some (.d (.str x))) w.1 w.2) (λp=>decide (p.1=x)) (λp=>.d (.int (p.2:Nat))) (w:=(none,none)) ?_ ?_ ?_]
 ·intro p _ w;have e:gr (C k) dD 23 jt (bV p) (dE (some (.d o.obj)) (some (.d (.str x))) w.1 w.2)=xm (decide (p.1=x)) (ret (.ret (.d (.int (p.2:Nat))))) (ret (.next (dE (some (.d o.obj)) (some (.d (.str x))) (some (.d (.str p.1))) (some (.d (.int (p.2:Nat))))))):=by rfl;wtm_at "d"
  rwa[(e)▸⟨λq=>by rw[q];rfl,λq=>⟨(_,_),by rw[q];rfl⟩⟩]
 ·intro i e;delta symAt;rw[e];rfl
 ·intro e w;delta symAt;rw[e];rfl
def Ob.ends(o:Ob):List Nat:=(o.syms.drop 1).map (·.2)++[o.count]
def Ob.funs(o:Ob):List ((Nm×Nat)×Nat):=o.syms.zip o.ends
noncomputable def pW(p:(Nm×Nat)×Nat):Dat:=.tuple [.str p.1.1,.int (p.1.2:Nat),.int (p.2:Nat)]
theorem zip_map{f:A->Dat}{g:B->Dat}:∀{l:List A}{m:List B},zS (l.map f) (m.map g)=(l.zip m).map λp=>.tuple [f p.1,g p.2]:=by intro e;induction e with|nil=>rwa[rfl]|cons a l d=>intro c;cases c with|nil=>rwa[rfl]|cons b m=>show _::zS (l.map f) (m.map g)=_;rw[d];rfl
theorem fM(h:o.Fit):C (k+2) (iu `Object `functions) [.d o.obj]=ret (.d (.list (o.funs.map pW))):=by
 injections k o;funext σ;simp![mO];erw[dZ ?_];rw[mP,oo];wtm_at "e";rw[jA (l:=some 1) (h:=none) rfl rfl (by rw[Vo];rwa[h.syms])];wtm_at "e";erw[(show cut (some 1) none (o.syms.map bV)=(o.syms.drop 1).map bV by simp![Yw];rfl)▸?_];have hd:(o.syms.drop 1).length<=1000000:=by rw[WD];rwa[Vw (Y6 ..) h.syms]
 delta bV;rw[Tw (λp:Nm×Nat=>Dat.str p.1) (λp=>.int (p.2:Nat)) (λp=>.int (p.2:Nat)) (big hd) (by intro p _ w u;rfl)];rw[zh,gX h];wtm_at "f";rw[oj (by rw[Vo];rwa[lb (ab2 hd 1)])];wtm_at "e";rw[mQ,oo];wtm_at "f";rw[show bI `zip [.d (.list (o.syms.map bV)),.d (.list ((o.syms.drop 1).map (λp=>Dat.int (p.2:Nat))++[.int (o.count:Nat)]))]=ret (.pairs (zS (o.syms.map bV) ((o.syms.drop 1).map (λp=>Dat.int (p.2:Nat))++[.int (o.count:Nat)])))by kernel_rfl];wtm_at "f";rw[show(o.syms.drop 1).map (λp=>Dat.int (p.2:Nat))++[.int (o.count:Nat)]=o.ends.map λi=>Dat.int (i:Nat)by delta Ob.ends;simp![VE,VQ];rfl,zip_map];rw[uU (λp:(Nm×Nat)×Nat=>Dat.tuple [bV p.1,.int (p.2:Nat)]) (λp=>some (pW p)) (λw:Option V×Option V=>z1::(`one,w.1)::(`end,w.2)::b9 _ _) (none,none) (by rw[Zm];rwa[big (Vw (X5 ..) h.syms)]) ∅ (by intro p _ w;erw[⟨(some (.d (bV p.1)),some (.d (.int (p.2:Nat)))),?_⟩];rfl),W7];rfl
noncomputable def Ob.slotB(o:Ob)(i:Nat):List UInt8:=(o.oct.take (8*i+8)).drop (8*i)
theorem U3(a:i<=100000):8*i+8<=1000000:=a_1 (Vt 8 a)
theorem e9(h:o.Fit)(a:i<=100000):C (k+1) (iu `Object `slot) [.d o.obj,.d (.int i)]=ret (.d (.bytes (o.slotB i))):=by funext σ;simp![tU];erw[dZ ?_];rw[tV,xw];wtm_at "d";rw[uW (gC (Vw (VW _ _) (U3 a))) (gC (U3 a)) h.oct];rfl
noncomputable def num(n:Nat):Nm:=(w6 10 n).map Char.toNat
theorem BH{m:Nat}:sp m=num m:=PySem.W.KIN.signs_num m
theorem len_num(h:m<10000000000):(num m).length<=10:=by delta num;rw[Vo];rwa[PySem.W.KXf.digits_le (a:=m) (by lia) (by lia)]
theorem GR{m:Nat}(h:m<10000000000):short m=true:=by delta short;simp![W9];rwa[Xq h #v[]]
theorem i9{m:Nat}(h:m<10000000000):bi `str [.d (.int m)]=ret (.str (num m)):=by funext σ;erw[Qz ?_];show ir (short m) (some (Dat.str (sp m)))=_;rw[GR h,BH];rfl
theorem vb:bi `str [.d (.str h)]=ret (.str h):=by rfl
def zj(k:Nat):Nat:=(T "0123456789abcdef").getD k 0
def hex2(c:UInt8):Nm:=[zj (c.toNat/16),zj (c.toNat %16)]
def hexOf(b:List UInt8):Nm:=(b.map hex2).flatten
theorem sD:(hexOf b).length=2*b.length:=by delta hexOf;induction b with|nil=>rfl|cons c b a=>rw[V3];simp![Xj,al,a,ar];show 2+_=_;simp +arith only
theorem rA:(T "0123456789abcdef").length=16:=⋯
theorem DA(a:b.length<=1000000):C (k+1) `hex_of [.d (.bytes b)]=ret (.d (.str (hexOf b))):=by funext σ;simp![Gp];erw[dZ ?_];rw[Gq];wtm_at "e";rw[Cm (λc:UInt8=>Dat.int c.toNat) (λc=>Dat.str (hex2 c)) (big a) (by intro c _ w;have d:=c.toNat_lt;erw[Vn Gr ?_];rw[JT #v[]];wtm_at "f";rw[show(c.toNat:Int)/2^(4:Int).toNat=((c.toNat/16:Nat):Int)from rfl,show(c.toNat:Int) %16=((c.toNat %16:Nat):Int)from rfl,kb (by rw[rA];rwa[Tz c]) (by rw[rA];decide),kb (by rw[rA];rwa[a_1 (ZD c.toNat (by decide:16>0))]) (by rw[rA];decide)];rfl)];delta cY;wtm_at "f";have:=uS (U:=C k) (h:=hex2) (sep:=T "") (l:=b) (by rw[show T ""=[]by decide +kernel,jM];show(hexOf b).length+0<=_;rw[sD];rwa[a_1 (Vt 2 a)]);unfold cV at this;rw[this,show T ""=[]by decide +kernel,jM];rfl
theorem kC(e:σ[c]?=some (.list xs))(b:xs.length<=1000000):aa (cV U `append (.cell c) [.d d]) f σ=f (.d .none) (σ.set c (.list (xs++[d]))):=aB (Vn (aB (a:=.lappend) (σ':=σ) (by delta reads;rw[(by dsimp![dO];rw[dj e];kernel_rfl:dO (iT U) `append (.cell c) σ=some .lappend)])) (show d5 .lappend (.cell c) [.d d] U σ=.ok (.d .none) (σ.set c (.list (xs++[d])))from by show opt (gL σ (.cell c)) _=_;rw[dj e];show gd (er xs.length SL) _=_;rw[V0 (show _<=SL from big b)];rfl))
theorem zk(a:xs.length<=1000000):aa (cV U `append (.cell σ.length) [.d d]) f (σ++[.list xs])=f (.d .none) (σ++[.list (xs++[d])]):=by rw[kC eZ a,i8]
theorem dv:cY U m h (ret as)=cV U m h as:=by congr 1
theorem qW{A f:Type}{B:Nat}(b:A->Dat)(g:A->Dat)(L:f->Ls){i:Type}{kn:Ls->M i}{kr:V->M i}{r:Res i}:∀{ys:List A}{w:f}{xs:List Dat},xs.length+ys.length<=B->(∀y∈ys,∀w(xs:List Dat),xs.length<=B->∃d,gr U F n m (b y) (L w) (σ++[.list xs])=.ok (.next (L d)) (σ++[.list (xs++[g y])]))->(∀w,kn (L w) (σ++[.list (xs++ys.map g)])=r)->fr U F n m (L w) kn kr (.items (ys.map b)) (σ++[.list xs])=r
|[],w,xs,_,_,h2=>by have:=h2 w;rw[YS,VC]at this;rwa[this]
|y::ys,w,xs,c,a,h2=>by
 simp![ar]at c;obtain⟨d,e⟩:=a y (Vv ..) w xs (a_1 c);show aa (aa (gr U F n m (b y) (L w)) λr=>match r with|.next ls'=>forL (gr U F n m) (ys.map b) ls'|.ret v=>ret (.ret v)) (tF kn kr) _=r;rw[aw,aB e];have:=qW (w:=d) (xs:=xs++[g y]) (r:=r) (kn:=kn) (kr:=kr) b g L (ys:=ys) (by simp;rwa[a_1 c]) (λz h=>a z (VB _ h)) λw=>by rw[VA];rwa[h2 w]
 rwa[this]
structure Ob.Ok(o:Ob):Prop where
 maps:o.maps.length<=20000
 oct:o.oct.length<=160000
 syms:o.syms.length<=20000
 rels:o.rels.length<=20000
 row:∀r∈o.maps,r.name.length<=15/\r.kind.length<=15/\r.kw<10000000000/\r.vw<10000000000/\r.most<10000000000
 sym:∀p∈o.syms,p.1.length<=15/\p.2<10000000000
 rel:∀p∈o.rels,p.1<10000000000/\p.2.1.length<=10/\p.2.2.length<=15
theorem Ob.Ok.fit(h:o.Ok):o.Fit:=⟨lb h.maps,lb h.oct,lb h.syms,lb h.rels⟩
def Row.parts(r:Row):List (Dat×Nm):=[(.str r.name,r.name),(.str r.kind,r.kind),(.int (r.kw:Nat),num r.kw),(.int (r.vw:Nat),num r.vw),(.int (r.most:Nat),num r.most)]
def Row.words(r:Row):List Nm:=[r.name,r.kind,num r.kw,num r.vw,num r.most]
def oq(r:Row):Nm:=T "map "++aS (T " ") r.words
def ja(b:List UInt8):Nm:=T "slot "++hexOf b
def ot(p:Nm×Nat):Nm:=T "symbol "++p.1++T " "++num p.2
def mY(p:Nat×Nm×Nm):Nm:=T "relocation "++num p.1++T " "++p.2.1++T " "++p.2.2
def Ob.slots(o:Ob):List (List UInt8):=(eg o.count).map o.slotB
def Ob.lines(o:Ob):List Nm:=[T "ringgate object 1"]++o.maps.map oq++o.slots.map ja++o.syms.map ot++o.rels.map mY
theorem tl{b:Nat}(h:er (T m).length b=true):(T m).length<=b:=Vu h
theorem BI{sep:Nm}:∀{ss:List Nm},(∀s∈ss,s.length<=m)->(aS sep ss).length<=ss.length*(m+sep.length)|[],_=>WK _|[x],h=>by show x.length<=1*(m+sep.length);have:=h x (Vv ..);rwa[a_1 this]|x::y::r,h=>by have:=h x (Vv ..);show(x++sep++aS sep (y::r)).length<=(y::r).length.succ*(m+sep.length);simp![al,Nat.succ_mul];rwa[a_2 (BI (sep:=sep) (ss:=y::r) λs a=>h s (VB _ a)) this]
theorem vc{B:Nat}(h:∀s∈ss,s.length<=B)(a:ss.length*(B+sep.length)<=n):(aS sep ss).length<=n:=Vw (BI h) a
theorem gD{s:Nm}{a b:Nat}(c:s.length<=a)(e:t.length<=b)(d:a+b<=n):(s++t).length<=n:=(al)▸Vw (VZ c e) d
theorem vd(e:h<=c)(g:m<=v)(f:c+v<=n):h+m<=n:=Vw (VZ e g) f
theorem J5(h:o.Ok)(d:r∈o.maps):∀w∈r.words,w.length<=15:=by erw[Hh (h.row r d) λa f e b c=>?_];delta Row.words;simp![XF];rwa[Fd a f (lb (len_num e)) (lb (len_num b)) (lb (len_num c)) λY h=>k_mn h]
theorem T1:T " "=[32]:=⋯
theorem zl(h:o.Ok)(a:r∈o.maps):(aS (T " ") r.words).length<=80:=vc (J5 h a) (by show 5*(15+1)<=80;decide)
theorem EL(h:o.Ok)(a:r∈o.maps):(oq r).length<=100:=gD (tl (b:=4) ⋯) (zl h a) #v[]
theorem lO:(o.slotB i).length<=8:=by delta Ob.slotB;rw[WD,WC];rwa[ab3 (ad5 8 (8*i)▸X5 ..)]
theorem DB(h:b.length<=8):(hexOf b).length<=16:=by rw[sD];rwa[a_1 (Vt 2 h)]
theorem J6:(ja (o.slotB i)).length<=100:=gD (tl (b:=5) ⋯) (DB lO) #v[]
theorem zm(h:o.Ok){p}(c:p∈o.syms):(ot p).length<=100:=gD (a:=50) (b:=10) (gD (a:=30) (b:=1) (gD (a:=7) (b:=15) (tl ⋯) (h.sym p c).1 #v[]) (tl ⋯) #v[]) (len_num (h.sym p c).2) #v[]
theorem zo(h:o.Ok){p}(c:p∈o.rels):(mY p).length<=100:=gD (a:=60) (b:=15) (gD (a:=50) (b:=1) (gD (a:=30) (b:=10) (gD (a:=25) (b:=1) (gD (a:=11) (b:=10) (tl ⋯) (len_num (h.rel p c).1) #v[]) (tl ⋯) #v[]) (h.rel p c).2.1 #v[]) (tl ⋯) #v[]) (h.rel p c).2.2 #v[]
theorem xx(h:o.Ok)(b:r∈o.maps):∀y∈r.parts,bi `str [.d y.1]=ret (.str y.2):=by revert o;injections _ r;(iterate 3 intro);obtain⟨-,-,c,a,d⟩:=h.row r b;delta Row.parts;simp![XF];rwa[Fd vb vb (i9 c) (i9 a) (i9 d) λY h=>k_mn h]
theorem count_le(h:o.Ok):o.count<=20000:=ab4 h.oct
theorem mu:o.lines.length=1+o.maps.length+o.count+o.syms.length+o.rels.length:=by dsimp![Ob.lines,Ob.slots];simp![al,Vo,VN,ar,a5]
theorem qX(h:o.Ok):C (k+2) `object_lines [.d o.obj] σ=.ok (.cell σ.length) (σ++[.list (o.lines.map .str)]):=by
 injections k _ σ o;simp![rM,rN,rO,u4];have g:=h.maps;have f:=count_le h;have F:=h.syms;have d:=h.rels;erw[(VT (back true σ.length) (?_:_=Res.ok (V.cell σ.length) (σ++[.list (o.lines.map Dat.str)]))).trans ?_];erw[qW (B:=100000) Row.obj (λr=>.str (oq r)) (λw=>ah (some (.d o.obj)) (some (.cell σ.length)) w none none none none) ?_ (λr d w E a=>⟨some (.d r.obj),?_⟩) λw=>?_]; ·simp![al,Vo,VN,ar,a5];rwa[a_1 g]
 ·rw[rT,pq,zg,io];simpa![Row.tup];have:=Cm (U:=C (k+1)) (n:=18) (sc:=aj.sc) (e:=gV) (x0:=S ".0") (x1:=`part) (ys:=r.parts) (ls:=ah (some (.d o.obj)) (some (.cell σ.length)) (some (.d r.obj)) none none none none) (·.1) (λy=>.str y.2) (by show 5<=_;decide) λy D w=>by simpa![rX,xx h d y D]
  simpa![show r.vs=r.parts.map (·.1)from rfl,this,dv,uS (U:=C (k+1)) (h:=(·.2)) (sep:=T " ") (l:=r.parts) (vd (zl h d) (tl (b:=1) ⋯) #v[])];rw[show r.parts.map (λx=>x.2)=r.words from rfl,eP (vd (tl (b:=4) ⋯) (zl h d) #v[])];wtm_at "f";erw[Vn (zk (lb a)) ?_];rfl
 simpa![rP,zh,gX h.fit,hZ (lb f)];erw[qW (B:=100000) (λj=>Dat.int (j:Nat)) (λi=>.str (ja (o.slotB i))) (λu=>ah (some (.d o.obj)) (some (.cell σ.length)) w u none none none) ?_ (λi G u E a=>⟨some (.d (.int i)),?_⟩) λu=>?_]; ·simp![al,Vo,VN,ar,a5];rwa[a_2 f g]
 ·simpa![rU,pu,u7,e9 h.fit (Vw (YM (Wx.mp G)) (lb f)),DA (lb lO)];rw[eP (vd (tl (b:=5) ⋯) (DB lO) #v[])];wtm_at "e";erw[Vn (zk (lb a)) ?_];rfl
 simp![rQ,oo];erw[qW (B:=100000) bV (λp=>.str (ot p)) (λz=>ah (some (.d o.obj)) (some (.cell σ.length)) w u z.1 z.2 none) (w:=(none,none)) ?_ (λp c z E a=>⟨(some (.d (.str p.1)),some (.d (.int (p.2:Nat)))),?_⟩) λz=>?_]; ·simp![al,Vo,VN,ar,a5];rwa[mM F f g]
 ·dsimp![bV];rw[rV,px,i9 (h.sym p c).2,eP (vd (tl (b:=7) ⋯) (h.sym p c).1 #v[])];wtm_at "e";rw[eP (vd (gD (b:=15) (tl (b:=7) ⋯) (h.sym p c).1 (VM _)) (tl (b:=1) ⋯) #v[])];wtm_at "e";rw[eP (by rw[<-al];rwa[lb (zm h c)])];wtm_at "e";rw[dv,zk (lb a)];rfl
 rw[rR,qV];wtm_at "e";erw[qW (B:=100000) c8 (λp=>.str (mY p)) (λy=>ah (some (.d o.obj)) (some (.cell σ.length)) w u y.1 y.2.1 y.2.2) (w:=(z.1,z.2,none)) ?_ (λp c y E a=>⟨(some (.d (.str p.2.2)),some (.d (.int (p.1:Nat))),some (.d (.str p.2.1))),?_⟩) λy=>?_]; ·simp![al,Vo,VN,ar,a5];rwa[D4 d F f g]
 ·unfold c8;have e:=zo h c;unfold mY at e;have t:=e;rw[al]at t;have m:=Vw (VW _ _) t;rw[al]at m;have s:=Vw (VW _ _) m;rw[al]at s;have q:=Vw (VW _ _) s;rw[al]at q;have A:=Vw (VW _ _) q;rw[al]at A;rw[rW,pz,i9 (h.rel p c).1];wtm_at "f";rw[eP (lb A)];wtm_at "e";rw[eP (lb q)];wtm_at "e";rw[eP (lb s)];wtm_at "e";rw[eP (lb m)];wtm_at "e";rw[eP (lb t)];wtm_at "f";rw[dv,zk (lb a)];rfl
 ·rw[rS];show Res.ok _ _=_;unfold Ob.lines Ob.slots;simp![VE,VQ,V3,YS];rfl
 ·unfold back;dsimp only;rw[WT.mpr λe=>absurd (W9.mp e) (Xs _)];dsimp only;rw[eZ,X6];rfl
theorem ND(e:σ[c]?=some (.list (ss.map .str)))(a:(aS sep ss).length+sep.length<=16777216):aa (cV U `join (.d (.str sep)) [.cell c]) f σ=f (.d (.str (aS sep ss))) σ:=by erw[aB ?_];show opt ((listOf σ (.cell c)).bind nz) (λss=>lift (within ((aS sep ss).length+sep.length) (V.d (.str (aS sep ss)))) σ)=_;rw[fK e];dsimp![Option.bind];rw[lh (h:=λs:Nm=>s),XZ];show lift (within ((aS sep ss).length+sep.length) (V.d (.str (aS sep ss)))) σ=_;rw[iH a];rfl
theorem J7{f:Dat->M β}{l:List Dat}(e:σ[c]?=some (.list l))(a:l.length<=1000000):aa (bi `len [.cell c]) f σ=f (.int l.length) σ:=by erw[aB (za ?_)];show(listOf σ (.cell c)).bind (λb=>within b.length (Dat.int b.length))=_;rwa[(fK e)▸iH (big a)]
def sumOf(b:List UInt8):Nat:=(u0 b %4294967296).toNat
theorem ve:u0 b %4294967296=(sumOf b:Int):=by delta sumOf;rw[XJ];lia
theorem jN:sumOf b<10000000000:=(Int.toNat_lt (ar2 _ #v[])).mpr (Int.lt_trans (Int.emod_lt_of_pos _ #v[]) #v[])
def gE(n m:Nat):Nm:=T "end "++num n++T " "++num m
def Ob.text(o:Ob):Nm:=aS (T "\n") (o.lines++[gE o.lines.length (sumOf o.oct)])++T "\n"
theorem BJ(h:o.Ok):∀s∈o.lines,s.length<=100:=by
 injections _ o;intro;intro s d;delta Ob.lines Ob.slots at d;simp![VJ,VI,VD,Xb,YQ]at d;rcases d with(((rfl|⟨r,b,rfl⟩)|⟨i,⟨j,c,rfl⟩,rfl⟩)|⟨p,a,rfl⟩)|⟨p,a,rfl⟩; ·rwa[tl ⋯]
 ·rwa[EL h b]
 ·rwa[J6]
 ·rwa[zm h a]
 ·rwa[zo h a]
theorem jO(h:o.Ok):o.lines.length<=80001:=by rw[mu];rwa[VZ (VZ (VZ (Xm h.maps 1) (count_le h)) h.syms) h.rels]
theorem SN(h:n<=80001):n<10000000000:=Wv h #v[]
theorem zp(c:n<10000000000)(d:m<10000000000):(gE n m).length<=100:=gD (a:=50) (b:=10) (gD (a:=30) (b:=1) (gD (a:=4) (b:=10) (tl ⋯) (len_num c) #v[]) (tl ⋯) #v[]) (len_num d) #v[]
theorem zq(h:o.Ok):(aS (T "\n") (o.lines++[gE o.lines.length (sumOf o.oct)])).length<=8080202:=by
 erw[vc (B:=100) (λs b=>?_) ?_]
 ·rcases VJ.mp b with a|a; ·rwa[BJ h s a]
  ·rw[Vy.mp a];rwa[zp (SN (jO h)) jN]
 ·rw[al,show(T "\n").length=1 by decide +kernel];have:=jO h;show(o.lines.length+1)*101<=_;rwa[a_1 (Vt 101 this)]
theorem jP(h:o.Ok):C (k+3) `write_object [.d o.obj]=ret (.d (.str o.text)):=by
 injections k o;funext σ;simp![rY];rw[rZ,aB (qX h),r0];have c:=jO h;have e:=zp (n:=o.lines.length) (m:=sumOf o.oct) (SN c) jN;unfold gE at e;have f:=e;rw[al]at f;have d:=Vw (VW _ _) f;rw[al]at d;have g:=Vw (VW _ _) d;rw[al]at g;erw[(xw)▸?_];wtm_at "f";erw[(jB (lb h.oct))▸((ve)▸?_)];wtm_at "f";erw[(i9 jN)▸?_];delta cY;simp![aw];rw[aB (a:=oL.lappend) (σ':=σ++[.list (o.lines.map .str)]) (by delta reads dO;rw[dj eZ];kernel_rfl)];rw[bD,aw];rw[J7 eZ (by rw[Vo];rwa[lb c]),Vo];wtm_at "e";erw[(i9 (SN c))▸?_];wtm_at "e";rw[eP (lb g)];wtm_at "e";erw[(eP (lb d))▸?_];wtm_at "f";erw[(eP (lb f))▸?_];wtm_at "f";rw[aB (a:=V.d .none) (σ':=σ++[.list ((o.lines++[gE o.lines.length (sumOf o.oct)]).map .str)]) (by show opt (gL (σ++[aX.list (o.lines.map .str)]) (.cell σ.length)) _=_;rw[dj eZ];show gd (er (o.lines.map Dat.str).length SL) (.ok (V.d .none) ((σ++[aX.list (o.lines.map .str)]).set σ.length (aX.list (o.lines.map .str++[Dat.str (T "end "++num o.lines.length++T " "++num (sumOf o.oct))]))))=_;rw[V0 (by rw[Vo];rwa[lb c]),i8,VE]at⊢;rfl),r5]at⊢;rw[aw]at⊢;rw[ND eZ (lb (VZ (zq h) (tl (b:=1) ⋯)))]at⊢;rw[eP (lb (VZ (zq h) (tl (b:=1) ⋯)))]at⊢;show Res.ok _ ((σ++_).take σ.length)=_;rw[X6]at⊢; ·rfl
 ·rfl
def QN:List Str:=[`lines,`at]
def jh(ls:List Nm)(i:Nat):aX:=.inst `LineReader QN [.list (ls.map .str),.int i]
theorem EM(e:σ[c]?=some (.inst v ns vs))(h:(match attrOk v m with|true=>look m ns vs|false=>none)=some w):aa (bp (.cell c) m) f σ=f (.d w) σ:=by erw[aB ?_];show opt (qo σ (.cell c)) _=_;erw[(uP e)▸?_];show gd (attrOk v m) (lift ((look m ns vs).map V.d) σ)=_;cases q:attrOk v m with|false=>replace h:=(q)▸h;rwa[k_nn h]|true=>replace h:=(q)▸h;dsimp only at h;erw[(h)▸?_];rfl
theorem zr(e:σ[c]?=some (jh ls i)):aa (bp (.cell c) `lines) f σ=f (.d (.list (ls.map .str))) σ:=EM e ∅
theorem BK(e:σ[c]?=some (jh ls i)):aa (bp (.cell c) `at) f σ=f (.d (.int i)) σ:=EM e ∅
theorem vf(e:σ[c]?=some (jh ls i))(b:QN.contains m=false)(d:jp `LineReader m=some h):aa (cV U m (.cell c) as) f σ=aa (U h (.cell c::as)) f σ:=by delta cV;rw[aw,aB (a:=oL.user h) (σ':=σ) (by delta reads;rw[(by dsimp![dO];simp![uP e,show gL σ (.cell c)=none by delta gL;dsimp only;rw[e];rfl,J0 e];show ir (!QN.contains m) ((jp `LineReader m).map oL.user)=_;simp![b,d];rfl:dO (iT U) m (.cell c) σ=some (.user h))])];rfl
theorem zt{s:Nm}(a:T m=[v])(h:s.length<=1000000):cV U `split (.d (.str s)) [.d (.str (T m))]=ret (.d (.list ((splitOn v s).map .str))):=by funext σ;rw[a];show lift (within (s.length+2) (V.d (.list ((splitOn v s).map .str)))) σ=_;rw[iH (a_1 h)];rfl
structure gk(ls:List Nm):Prop where
 cnt:ls.length<=100000
 len:∀l∈ls,l.length<=100000
def gY:Str:=`TextError
theorem iq:back false σ.length (.exc h σ)=.exc h σ:=by show Res.exc h (σ.take σ.length)=_;rw[XQ]
theorem mw(e:σ[c]?=some (jh ls (i+1)))(h:gk ls):C (k+1) (iu `LineReader `words) [.cell c] σ=match ls[i]? with|some l=>.ok (.d (.list ((splitOn 32 l).map .str))) σ|none=>.exc gY σ:=by
 injections σ _ k c i ls;simp![mR,mS];delta de;simp![aw,dX,dW];rw[BK e,zr e];wtm_at "f";erw[(zd (lb h.cnt))▸?_];wtm_at "e";by_cases a:i<ls.length; ·rw[VG a,VO (by omega)];dsimp![oH];rw[mT];simp![aw];rw[zr e,BK e];rw[(by erw[Vn JS ?_];lia:af .Sub (.d (.int ((i+1:Nat):Int))) (.d (.int 1))=ret (.int i))];wtm_at "e";rw[uV a (lb h.cnt)];wtm_at "e";rwa[(zt T1 (lb (h.len _ (Y7 a))))▸dZ rfl]
 ·rw[aa4 (a_1 (WP a)),Vz (by omega)];dsimp![qk];rwa[(BK e)▸iq]
theorem lP:∀{s:Nm},splitOn c s≠[]:=by intro b;induction b with|nil=>rwa[λh=>k_cn h]|cons x s a=>dsimp![splitOn];cases mn x c with|true=>rwa[λh=>k_cn h]|false=>dsimp only;cases splitOn c s<;>intro h<;>rwa[k_cn h]
theorem qY{c:Nat}:∀{s:Nm},(splitOn c s).length<=s.length+1|[]=>VM _|x::s=>by have a:=qY (c:=c) (s:=s);dsimp![splitOn];cases mn x c with|true=>simp![ar,ar];rwa[a_1 a]|false=>dsimp only;cases e:splitOn c s with|nil=>rwa[absurd e lP]|cons p b=>rw[e]at a;rw[ar]at a⊢;simp![ar];rwa[a_1 a]
theorem split_len:∀{s w:Nm},w∈splitOn c s->w.length<=s.length:=by
 intro b;induction b with
 |nil=>intro w h;rwa[(Vy.mp h)▸VM _]
 |cons x s a=>
  intro w h;dsimp![splitOn]at h;cases q:mn x c with
  |true=>
   replace h:=(q)▸h;rcases VD.mp h with rfl|h; ·rwa[WK _]
   ·rwa[YT (a h)]
  |false=>
   replace h:=(q)▸h;dsimp only at h;cases e:splitOn c s with
   |nil=>rwa[absurd e lP]
   |cons p d=>
    replace h:=(e)▸h;rcases VD.mp h with rfl|h; ·have:p.length<=s.length:=a ((e)▸Vv .. );rwa[WB this]
    ·rwa[YT (a ((e)▸VB _ h))]
abbrev cK(l:Nm):List Nm:=splitOn 32 l
theorem OZ:0<(cK h).length:=WF.mpr lP
theorem ke(h:gk ls)(e:ls[i]?=some m):(cK m).length<=1000000:=Vw qY (lb (WB (h.len m (Yi e))))
def hd(l:Nm):Nm:=(cK l).getD 0 []
theorem J8{h:A->Dat}{l:List A}(a:0<l.length)(b:l.length<=1000000):ay (.d (.list (l.map h))) (.d (.int 0))=ret (h l[0]):=uV (i:=0) a b
theorem BL(e:σ[c]?=some (jh ls (i+1)))(h:gk ls):C (k+2) (iu `LineReader `is_next) [.cell c,.d (.str w)] σ=match ls[i]? with|some l=>.ok (.d (.bool (decide (hd l=w)))) σ|none=>.exc gY σ:=by simp![kM,kO];simp![aw];rw[vf e ∅ ∅];cases q:ls[i]? with|none=>rw[gB (by erw[Vn (mw e h) ?_];rw[q])];rwa[iq]|some l=>rw[aB (by erw[Vn (mw e h) ?_];rw[q]),J8 OZ (ke h q)];delta hd;simp![VL,VG OZ];rwa[dZ rfl]
theorem setAt{f:Unit->M β}(e:σ[c]?=some (jh ls i)):aa (dn (.cell c) `at (.int j)) f σ=f () (σ.set c (jh ls j)):=by erw[aB ?_];show opt (sL σ (.cell c)) _=_;rw[xv e];rfl
theorem J9(e:σ[c]?=some (jh ls (i+1)))(h:gk ls):C (k+2) (iu `LineReader `take) [.cell c,.d (.int n)] σ=match ls[i]? with
|some l=>match decide ((cK l).length=n)with|true=>.ok (.d (.list ((cK l).map .str))) (σ.set c (jh ls (i+2)))|false=>.exc gY σ
|none=>.exc gY σ:=by simp![nN,nO];rw[vf e ∅ ∅];cases q:ls[i]? with|none=>rw[gB (by erw[Vn (mw e h) ?_];rw[q])];rwa[iq]|some l=>rw[aB (by erw[Vn (mw e h) ?_];rw[q]),nP,zd (ke h q)];wtm_at "f";rw[V1.mpr Zb];cases decide ((cK l).length=n)with|false=>rw[show(!false)=true from rfl];dsimp![qk];simp![aw];rw[BK e];rwa[iq]|true=>rw[show(!true)=false from rfl];dsimp![oH];rw[nQ];rw[aw];rw[BK e];wtm_at "e";rw[setAt e,nR];show Res.ok _ ((σ.set c (jh ls (i+2))).take σ.length)=_;rw[Wa (by rw[WN];rwa[VM _])]
theorem DC(e:σ[c]?=some (jh ls i)):C (k+1) (iu `LineReader `refuse) [.cell c,w] σ=.exc gY σ:=by simp![lB,lC];simp![dX,aw,dW,ac];rw[BK e];rwa[iq]
theorem kg(e:σ[c]?=some (jh ls i)):aa (cV (C (k+1)) `refuse (.cell c) [w]) f σ=.exc gY σ:=by rw[vf e ∅ ∅,gB (DC e)]
def vg:Nm:=T "0123456789"
def d0(w:Nm):Bool:=decide (0<w.length)&&decide (w.length<=10)&&w.all vg.contains&&!(decide (w.getD 0 0=48)&&!decide (w=[48]))
noncomputable def numOf(w:Nm):Nat:=an6 w
theorem zu:vg.contains h=(er 48 h&&er h 57):=by
 rw[((by decide +kernel:vg=(eg 10).map (48+ ·))),WW,V9,Vq,ZE,ZE,VI];constructor; ·rintro⟨a,c,rfl⟩;rwa[⟨VW _ _,Xm (an8 (Wx.mp c)) 48⟩]
 ·rintro⟨b,d⟩;rwa[m_12 (h-48) (Wx.mpr (an7 (ab3 d))) (ac0 b)]
theorem QO{w:Nm}(h:w.all vg.contains=true):decVal w=some (numOf w):=((by intro w;induction w with|nil=>intro a _;rfl|cons x w b=>intro a h;simp![a6,Vq]at h;rw[zu]at h;erw[Vn hM ?_];rw[h.1];dsimp only;rw[Nat.mul_comm];rwa[b _ h.2]:∀(w:Nm)a,w.all vg.contains=true->w.foldl (λa c=>match a with|some n=>(match er 48 c&&er c 57 with|true=>some (10*n+(c-48))|false=>none)|none=>none) (some a)=some (w.foldl (λd c=>d*10+(c-48)) a))) w 0 h
theorem SO{w:Nm}(h:w.all vg.contains=true)(a:0<w.length)(b:w.length<=10):bi `int [.d (.str w)]=ret (.int (numOf w:Nat)):=by funext σ;erw[Qy ?_];show ir (nf 0 w.length&&er w.length 10) ((decVal w).map λn:Nat=>Dat.int n)=_;simp![QO h,V0 b,W9.mpr a];rfl
theorem T0:T "0"=[48]:=⋯
theorem vh{w:Nm}(e:σ[c]?=some (jh ls i))(b:w.length<=1000000):C (k+2) (iu `LineReader `number) [.cell c,.d (.str w)] σ=match d0 w with|true=>.ok (.d (.int (numOf w:Nat))) σ|false=>.exc gY σ:=by
 injections i ls _ k c σ w;simp![lD];rw[lE,uR (big b)];wtm_at "e";simp![(V1.mpr XX:decide ((0:Int)<(w.length:Int))=decide (0<w.length)),(V1.mpr YI:decide ((w.length:Int)<=10)=decide (w.length<=10)),(by erw[Cm (λc:Nat=>Dat.str [c]) (λc=>Dat.bool (vg.contains c)) (big b) λx Y u=>?_];simp![lG];rw[uT (l:=none) (h:=some 10) rfl rfl #v[]];wtm_at "e";rw[show cut none (some 10) (T "0123456789abcdef")=vg by decide +kernel]:bR (C (k+1)) 18 bj.sc fk (z1::(`sign,none)::bk (some (.cell c)) (some (.d (.str w)))) (.items (w.map λc=>Dat.str [c]))=ret (w.map λc=>Dat.bool (vg.contains c)))];wtm_at "f";rw[EC];delta d0;by_cases a:0<w.length; ·rw[show ay (.d (.str w)) (.d (.int 0))=ret (.str [w.getD 0 0])from kb (i:=0) a (big b),T0];wtm_at "f";rw[V1.mpr ⟨λz=>(XH z).1,λz=>by rw[z]⟩];rw[Vz a];simp![as7,W0,ac6];cases f:decide (w.length<=10)with|false=>rw[show(!false||_)=true from rfl];dsimp![qk];rw[kg e];rwa[iq]|true=>cases d:w.all vg.contains with|false=>rw[show(!true||(!false||_))=true from rfl];dsimp![qk];rw[kg e];rwa[iq]|true=>cases g:decide (w.getD 0 0=48)&&!decide (w=[48])with|true=>rw[show(!true||(!true||true))=true from rfl];dsimp![qk];rw[kg e];rwa[iq]|false=>rw[show(!true||(!true||false))=false from rfl];dsimp![oH];rw[lF,SO d a (VF f)];rwa[dZ rfl]
 ·rw[VO a];simp![show(!(false&&_))=true from rfl,qk,fV,qk,kg e];rwa[iq]
theorem BM{w:Nm}(e:σ[c]?=some (jh ls i))(a:w.length<=1000000):C (k+2) (iu `LineReader `name) [.cell c,.d (.str w)] σ=match dk w with|true=>.ok (.d (.str w)) σ|false=>.exc gY σ:=by simp![nT];rw[nU,jv a];wtm_at "f";cases dk w with|false=>rw[show(!false)=true from rfl];dsimp![qk];rw[kg e];rwa[iq]|true=>rwa[dZ rfl]
section
variable{ls:Ls}
theorem QP{c:Str}{ls:Ls}{ys:List A}(b:A->Dat)(p:A->Bool)(h:A->Dat)(f:ys.length<=16777216)(d:∀y∈ys,∀w,jg U n sc e (b y) ((x0,none)::(x1,w)::ls) σ=match p y with|true=>.ok ((x0,none)::(x1,some (.d (b y)))::ls,some (h y)) σ|false=>.exc c σ):bR U n sc e ((x0,none)::(x1,none)::ls) (.items (ys.map b)) σ=match ys.all p with|true=>.ok (ys.map h) σ|false=>.exc c σ:=by
 have r:∀(a:List A)(acc:List Dat)(w:Option V),(∀y∈a,y∈ys)->acc.length+a.length<=SL->(a.all p=true->∃g,aD (vJ (iT U) n) (eH 0 e).target (eH 0 e).ifs (ai sc (mN e)) (compElt (vU (iT U) n) (ai sc (mN e)) (gc 0 e)) (a.map b) ((x0,none)::(x1,w)::ls) acc σ=.ok (g,acc++a.map h) σ)/\(a.all p=false->aD (vJ (iT U) n) (eH 0 e).target (eH 0 e).ifs (ai sc (mN e)) (compElt (vU (iT U) n) (ai sc (mN e)) (gc 0 e)) (a.map b) ((x0,none)::(x1,w)::ls) acc σ=.exc c σ):=by
  intro a;induction a with
  |nil=>rwa[λacc w Y Y=>⟨λY=>⟨_,by show _=Res.ok (_,acc++[]) σ;rw[VC];rfl⟩,λq=>k_tf q⟩]
  |cons y a m=>
   intro acc w k f;have t:=d y (k y (Vv ..)) w;dsimp![f5]at f;simp![a6];cases q:p y with
   |false=>rw[q]at t;rwa[⟨λz=>gm z,λY=>JD (a_1 f) t⟩]
   |true=>
    simp![q]at t;have st:=λ(acc:List Dat)(l:acc.length<=SL)=>mr (acc:=acc) (ys:=a.map b) l t;have i:=m (acc++[h y]) (some (.d (b y))) (λz o=>k z (VB _ o)) (by rw[al];show _+1+_<=_;rwa[a_1 f]);rwa[⟨λz=>V7 (i.1 z) λg j=>⟨g,(st acc (by omega)).trans (j.trans (by rw[VA];rfl))⟩,λz=>(st acc (by omega)).trans (i.2 z)⟩]
 have z:=r ys [] none (λY h=>h) (by simp![a5];rw[Wg];rwa[f]);cases q:ys.all p with|true=>obtain⟨g,j⟩:=z.1 q;erw[Vn (aB j) ?_];rfl|false=>rwa[Vn (gB (z.2 q)) rfl]
theorem zv(h:σ[c]?=some (.list xs))(f:bR U n sc e ls (.items xs)=ret ds):bR U n sc e ls (.cell c) σ=.ok ds σ:=by
 injections ls sc _ e xs c n σ U ds;have b:=Wd f (σ.set c .dead);change aa (aD (vJ (iT U) n) (eH 0 e).target (eH 0 e).ifs (ai sc (mN e)) (compElt (vU (iT U) n) (ai sc (mN e)) (gc 0 e)) xs ls []) (λr=>ret r.2) (σ.set c .dead)=_ at b;delta bR cR L7;dsimp![jU];delta aa at b⊢;dsimp only;rw[h];dsimp only;cases q:aD (vJ (iT U) n) (eH 0 e).target (eH 0 e).ifs (ai sc (mN e)) (compElt (vU (iT U) n) (ai sc (mN e)) (gc 0 e)) xs ls [] (σ.set c .dead)with
 |stuck=>replace b:=(q)▸b;cases b
 |exc c s=>replace b:=(q)▸b;cases b
 |ok a s=>
  replace b:=(q)▸b;injection b with i g;erw[(g)▸?_];show Res.ok _ ((σ.set c .dead).set c (.list xs))=_;congr 1;rw[List.set_set];apply ao3;erw[λj=>Vn WS ?_];by_cases d:c=j; ·subst d;erw[Vn (WG rfl) ?_];simp![h];have:=(V2.mp h).1;rwa[Vn (WG this) rfl]
  ·rwa[Vn (WO d) rfl]
theorem Ka{c:Str}:back false σ.length (.ok (.cell σ.length) (σ++[.inst c ns vs]))=.ok (.d (.obj c ns vs)) σ:=by delta back frz;dsimp only;rw[WT.mpr λe=>absurd (W9.mp e) (Xs _),eZ];rw[i8];show Res.ok (V.d (Dat.obj c ns vs)) ((σ++[aX.dead]).take σ.length)=_;rw[X6 rfl]
theorem DD{a:ae}(h:a.length=σ.length):back false σ.length (.ok (.d v) a)=.ok (.d v) a:=by show Res.ok (V.d v) (a.take σ.length)=_;rw[Wa (a_1 (m8 h))]
theorem QQ{a:ae}(h:a.length=σ.length):back false σ.length (.exc m a)=.exc m a:=by show Res.exc m (a.take σ.length)=_;rw[Wa (by lia)]
def NE(σ:ae)(c:Nat)(ls:List Nm)(r:Res V):Prop:=∃j,r=.exc gY (σ.set c (jh ls j))
theorem Kb(h:σ[c]?=some m):σ.set c m=σ:=by
 apply ao3;erw[λj=>Vn WS ?_];by_cases a:c=j; ·subst a;erw[Vn (WG rfl) ?_];rw[h,WG (V2.mp h).1]
 ·rwa[Vn (WO a) rfl]
theorem pX(h:σ[c]?=some m):(σ.set c o')[c]?=some o':=by rw[WS,WG rfl,WG (V2.mp h).1]
theorem NE.same(h:σ[c]?=some (jh m i)):NE σ c m (.exc gY σ):=⟨i,by rw[Kb h]⟩
theorem NE.back(h:NE σ c m v):NE σ c m (back false σ.length v):=by obtain⟨j,rfl⟩:=h;rwa[⟨j,QQ (Vn WN rfl)⟩]
noncomputable def gw(ws:List Nm)(i:Nat):Nm:=ws.getD i []
theorem qZ(h:i<ws.length)(a:ws.length<=1000000):ay (.d (.list (ws.map .str))) (.d (.int i))=ret (.str (gw ws i)):=by erw[Vn (uV h a) ?_];delta gw;rw[VL,VG h];rfl
theorem BN(h:gk m)(e:m[i]?=some v):(gw (cK v) j).length<=1000000:=by delta gw;erw[(VL)▸?_];cases q:(cK v)[j]? with|none=>rwa[WK _]|some w=>rwa[Vw (split_len (Yi q)) (lb (h.len v (Yi e)))]
theorem kh{l:List Nm}:cmp .In (.d (.str x)) (.d (.list (l.map .str)))=ret (decide (x∈l)):=by funext a;show reads (λa=>(nz (l.map .str)).map λb=>decide (x∈b)) a=_;simp![lh (h:=λs:Nm=>s),XZ];rfl
theorem NF{w:Nm}(e:σ[c]?=some (jh h i))(a:w.length<=1000000):aa (cV (C (k+2)) `name (.cell c) [.d (.str w)]) f σ=match dk w with|true=>f (.d (.str w)) σ|false=>.exc gY σ:=by rw[vf e ∅ ∅];cases q:dk w with|true=>rwa[Vn (aB (by rw[BM e a,q])) rfl]|false=>rwa[Vn (gB (by rw[BM e a,q])) rfl]
theorem ra{ls:List Nm}{w:Nm}(e:σ[c]?=some (jh ls i))(a:w.length<=1000000):aa (cV (C (k+2)) `number (.cell c) [.d (.str w)]) f σ=match d0 w with|true=>f (.d (.int (numOf w:Nat))) σ|false=>.exc gY σ:=by rw[vf e ∅ ∅];cases q:d0 w with|true=>rwa[Vn (aB (by rw[vh e a,q])) rfl]|false=>rwa[Vn (gB (by rw[vh e a,q])) rfl]
theorem EN{ls:List Nm}(e:σ[c]?=some (jh ls (i+1)))(h:gk ls):aa (cV (C (k+2)) `take (.cell c) [.d (.int n)]) f σ=match ls[i]? with
|some l=>match decide ((cK l).length=n)with|true=>f (.d (.list ((cK l).map .str))) (σ.set c (jh ls (i+2)))|false=>.exc gY σ
|none=>.exc gY σ:=by rw[vf e ∅ ∅];have t:=J9 (k:=k) (n:=n) e h;cases q:ls[i]? with|none=>rw[q]at t;rwa[Vn (gB t) rfl]|some l=>rw[q]at t;cases a:decide ((cK l).length=n)with|true=>simp![a]at t;simp![a];rwa[Vn (aB t) rfl]|false=>simp![a]at t;simp![a];rwa[Vn (gB t) rfl]
theorem zw{l:List Nm}(h:i<l.length):l.drop i=gw l i::l.drop (i+1):=by simp![Ys h,gw,VL,VG h];rfl
theorem SP{l:List Nm}(h:l.length=6):l.drop 3=[gw l 3,gw l 4,gw l 5]:=by rw[zw (h▸by decide),zw (h▸by decide),zw (h▸by decide),YU (XW h)]
noncomputable def grd(b:Bool)(o:Option α):Option α:=match b with|true=>o|false=>none
theorem SQ:grd true h=h:=rfl
theorem aZ:grd m v=some w↔m=true/\v=some w:=by
 obtain⟨⟩:=m; ·rwa[⟨λh=>k_nn h,λh=>gm h.1⟩]
 ·rwa[⟨λh=>⟨rfl,h⟩,λh=>h.2⟩]
def DE(en:α->Dat)(σ:ae)(c:Nat)(ls:List Nm)(i:Nat)(o:Option α)(m:Res V):Prop:=match o with|some a=>m=.ok (.d (en a)) (σ.set c (jh ls (i+2)))|none=>NE σ c ls m
section
variable{ls:List Nm}{o:Option α}{f:V->M V}{K:M V}{b:Bool}{w:Nm}{x:V}
theorem pY:DE en σ c ls i none (back false σ.length (.exc gY (σ.set c (jh ls (i+2))))):=NE.back ⟨_,rfl⟩
theorem vi(e:σ[c]?=some (jh ls (i+1)))(a:w.length<=1000000)(b:DE en σ c ls i o (back false σ.length (f (.d (.str w)) (σ.set c (jh ls (i+2)))))):DE en σ c ls i (grd (dk w) o) (back false σ.length (aa (cV (C (k+2)) `name (.cell c) [.d (.str w)]) f (σ.set c (jh ls (i+2))))):=by rw[NF (pX e) a];cases dk w with|true=>rwa[b]|false=>rwa[pY]
theorem EO(e:σ[c]?=some (jh ls (i+1)))(a:w.length<=1000000)(b:DE en σ c ls i o (back false σ.length (f (.d (.int (numOf w:Nat))) (σ.set c (jh ls (i+2)))))):DE en σ c ls i (grd (d0 w) o) (back false σ.length (aa (cV (C (k+2)) `number (.cell c) [.d (.str w)]) f (σ.set c (jh ls (i+2))))):=by rw[ra (pX e) a];cases d0 w with|true=>rwa[b]|false=>rwa[pY]
theorem sE(e:σ[c]?=some (jh ls (i+1)))(a:DE en σ c ls i o (back false σ.length (K (σ.set c (jh ls (i+2)))))):DE en σ c ls i (grd (!b) o) (back false σ.length (xm b (aa (cV (C (k+1)) `refuse (.cell c) [x]) f) K (σ.set c (jh ls (i+2))))):=by cases b with|false=>rwa[a]|true=>dsimp![qk];rw[kg (pX e)];rwa[pY]
theorem vj(e:σ[c]?=some (jh ls (i+1)))(a:b=true->DE en σ c ls i o (back false σ.length (K (σ.set c (jh ls (i+2)))))):DE en σ c ls i (grd b o) (back false σ.length (xm (!b) (aa (cV (C (k+1)) `refuse (.cell c) [x]) f) K (σ.set c (jh ls (i+2))))):=by cases b with|true=>rwa[a rfl]|false=>rw[show(!false)=true from rfl];dsimp![qk];rw[kg (pX e)];rwa[pY]
theorem pZ{p:Nm->Option α}(e:σ[c]?=some (jh ls (i+1)))(h:gk ls)(b:∀l,ls[i]?=some l->(cK l).length=n->DE en σ c ls i (p l) (back false σ.length (f (.d (.list ((cK l).map .str))) (σ.set c (jh ls (i+2)))))):DE en σ c ls i ((ls[i]?).bind λl=>grd (decide ((cK l).length=n)) (p l)) (back false σ.length (aa (cV (C (k+2)) `take (.cell c) [.d (.int n)]) f σ)):=by
 rw[EN e h];cases q:ls[i]? with
 |none=>rwa[(NE.same e).back]
 |some l=>
  by_cases a:(cK l).length=n; ·simp![Wl,Vz a];rwa[b l q a]
  ·simp![Wl,VO a];rwa[(NE.same e).back]
end
def wO(names:List Nm)(l:Nm):Option Row:=grd (decide ((cK l).length=6)) (grd (dk (gw (cK l) 1)) (grd (!decide (gw (cK l) 1∈names)) (grd (((cK l).drop 3).all d0) (grd (dk (gw (cK l) 2)) (some ⟨gw (cK l) 1,gw (cK l) 2,numOf (gw (cK l) 3),numOf (gw (cK l) 4),numOf (gw (cK l) 5)⟩)))))
theorem DF{f:Nm->Nat}(d:i<3):ay (.d (.list (ON (λw=>Dat.int (f w:Nat)) [h,m,v]))) (.d (.int i))=ret (.int (f ([h,m,v].getD i []):Nat)):=by erw[Vn (uV (l:=[h,m,v]) d (Vu rfl)) ?_];rw[VL,VG d];rfl
theorem i0:(0:Int)=((0:Nat):Int):=rfl
theorem i1:(1:Int)=((1:Nat):Int):=rfl
theorem i2:(2:Int)=((2:Nat):Int):=rfl
theorem i3:(3:Int)=((3:Nat):Int):=rfl
theorem map_tail{b:List Nm}{c:Nat}(a:b.length=6)(e:(gw b 2).length<=1000000):aa (aa (ao [ret (.d (.str h)),bD (ay (.d (.list (b.map .str))) (.d (.int 2))),bD (ay (.d (.list ((b.drop 3).map λw=>Dat.int (numOf w:Nat)))) (.d (.int 0))),bD (ay (.d (.list ((b.drop 3).map λw=>Dat.int (numOf w:Nat)))) (.d (.int 1))),bD (ay (.d (.list ((b.drop 3).map λw=>Dat.int (numOf w:Nat)))) (.d (.int 2)))]) λd=>C (k+1) `MapRow d) (λv=>ret v) σ=.ok (.cell σ.length) (σ++[.inst `MapRow EK (Row.vs ⟨h,gw b 2,numOf (gw b 3),numOf (gw b 4),numOf (gw b 5)⟩)]):=by rw[SP a,i0,i1,i2,DF #v[],DF #v[],DF #v[],qZ (a_1 (so a)) (a_1 (m8 a))]at⊢;rwa[aB (va (σ:=σ) (r:=⟨h,gw b 2,numOf (gw b 3),numOf (gw b 4),numOf (gw b 5)⟩))]
theorem zx{c i:Nat}{ls:List Nm}{names:List Nm}(e:σ[c]?=some (jh ls (i+1)))(h:gk ls):DE Row.obj σ c ls i ((ls[i]?).bind (wO names)) (C (k+3) `read_map [.cell c,.d (.list (names.map .str))] σ):=by
 simp![AC];simp![AD];erw[pZ (n:=6) e h λl q o=>?_];have b:=ke h q;have d:∀j,(gw (cK l) j).length<=1000000:=λj=>BN h q;have f:∀w∈(cK l).drop 3,w.length<=1000000:=λw a=>Vw (split_len (Xh a)) (lb (h.len l (Yi q)));generalize cK l=ws at*;simp![AE,i1];rw[qZ (a_1 (so o)) b];erw[vi e (d 1) ?_];simp![AF,kh,fV];erw[sE e ?_];rw[AG,jA (l:=some 3) (h:=none) rfl rfl (by rw[Vo];rwa[b]),show cut (some 3) none (ws.map Dat.str)=(ws.drop 3).map .str by simp![Yw];rfl];wtm_at "e";delta cu;rw[aw];have p:=QP (U:=C (k+2)) (n:=22) (sc:=bz.sc) (e:=ka) (σ:=σ.set c (jh ls (i+2))) (c:=gY) (x0:=S ".0") (x1:=`word) (ls:=bA (some (.cell c)) (some (.d (.list (names.map .str)))) (some (.d (.list (ws.map .str)))) (some (.d (.str (gw ws 1)))) none) (ys:=ws.drop 3) .str d0 (λw=>.int (numOf w:Nat)) (by rw[WD];rwa[a_2 (Y6 ws.length 3) b]) λw a u=>by rw[AJ,ra (pX e) (f w a)];cases d0 w<;>rfl
 cases m:(ws.drop 3).all d0 with|false=>rw[gB (by rw[p,m])];rwa[pY]|true=>simp![SQ];rw[aB (by rw[p,m])];dsimp![ac];simp![AH,i2];rw[qZ (by omega) b];wtm_at "f";rw[jv (d 2)];erw[vj e λY=>?_];rw[AI,map_tail (c:=c) o (d 2)];have g:=Ka (σ:=σ.set c (jh ls (i+2))) (c:=`MapRow) (ns:=EK) (vs:=Row.vs ⟨gw ws 1,gw ws 2,numOf (gw ws 3),numOf (gw ws 4),numOf (gw ws 5)⟩);rw[WN]at g⊢;rwa[g]
end
section
def p0:Nm:=T "0123456789abcdef"
def hv(x:Nat):Nat:=(hexDigit x).getD 0
def xy(w:Nm):List UInt8:=(eg 8).map λj=>(16*hv (w.getD (2*j) 0)+hv (w.getD (2*j+1) 0)).toUInt8
def lQ(l:Nm):Option (List UInt8):=grd (decide ((cK l).length=2)) (grd (decide ((gw (cK l) 1).length=16)&&(gw (cK l) 1).all p0.contains) (some (xy (gw (cK l) 1))))
theorem zy:∀x∈p0,hexDigit x=some (hv x)/\hv x<16:=by
 have:p0.all (λx=>decide (hexDigit x=some (hv x))&&decide (hv x<16))=true:=by decide +kernel
 intro x a;have:=VK.mp this x a;simp![Vq]at this;simp![Vx,Vx]at this;rwa[this]
theorem UG{w:Nm}(h:i+1<w.length):cut (some i) (some (i+2)) w=[w.getD i 0,w.getD (i+1) 0]:=by show(w.take (i+2)).drop i=_;erw[Vn ar7 ?_];rw[show i+2-i=2 by lia,VL,VL,VG h,VG (a_1 h),Ys (by omega),Ys h];rfl
theorem NG(d:h∈p0)(c:m∈p0):bi `int [.d (.str [h,m]),.d (.int 16)]=ret (.int ((16*hv h+hv m:Nat):Int)):=by funext σ;erw[lL ?_];show Un `int (.d (.str [h,m])) (.d (.int 16))=_;delta Un;rw[show Cr (.d (.str [h,m])) (.d (.int 16))=(hexDigit h).bind λx=>(hexDigit m).map λy=>Dat.int ((16*x+y:Nat):Int)by kernel_rfl];rw[(zy h d).1,(zy m c).1];kernel_rfl
theorem wQ(e:σ[c]?=some (jh y (i+1)))(h:gk y):DE Dat.bytes σ c y i ((y[i]?).bind lQ) (C (k+3) `read_slot [.cell c] σ):=by
 injections y _ k c i σ;simp![yI,yJ,aw];erw[pZ (n:=2) e h λl q r=>?_];have s:=ke h q;have o:∀j,(gw (cK l) j).length<=1000000:=λj=>BN h q;generalize cK l=ws at*;simp![i1];rw[qZ (a_1 (so r)) s];wtm_at "e";have b:=o 1;generalize gw ws 1=w at*;rw[yK,uR (big b)];dsimp![QJ,ac];rw[Cm (λc:Nat=>Dat.str [c]) (λc=>Dat.bool (p0.contains c)) (big b) (by intro x _ u;rfl),uO (by rfl)];wtm_at "e";rw[EC];wtm_at "f";simp![W0,(V1.mpr (by lia):decide ((w.length:Int)=2*8)=decide (w.length=16)),<-Bool.not_and];erw[vj e λm=>?_];rw[Vq,Vx]at m;obtain⟨d,p⟩:=m;have f:∀j,j<16->w.getD j 0∈p0:=λj a=>by rw[VL,VG (a_2 a (so d))];rwa[V9.mp (VK.mp p _ (Y7 _))]
 rw[yL,uR (big b),d];wtm_at "e";rw[show bI `range [.d (.int 0),.d (.int ((16:Nat):Int)),.d (.int 2)]=ret (.items ((eg 8).map λj=>Dat.int ((2*j:Nat):Int)))by kernel_rfl];wtm_at "e";rw[Cm (λj:Nat=>Dat.int ((2*j:Nat):Int)) (λj=>Dat.int ((16*hv (w.getD (2*j) 0)+hv (w.getD (2*j+1) 0):Nat):Int)) #v[] (by intro j a u;have a:=Wx.mp a;erw[Vn yM ?_];rw[show af .Add (.d (.int ((2*j:Nat):Int))) (.d (.int 2))=ret (.int ((2*j+2:Nat):Int))from rfl];wtm_at "d";rw[uT (gC (a_1 (Vt 2 a))) (gC (a_1 (Vt 2 a))) (big b),UG (a_2 (Vt 2 a) (so d))];wtm_at "d";rw[NG (f _ (a_1 (Vt 2 a))) (f _ (a_1 (Vt 2 a)))];wtm_at "d")];wtm_at "d";have g:∀j∈eg 8,16*hv (w.getD (2*j) 0)+hv (w.getD (2*j+1) 0)<256:=λj a=>by have a:=Wx.mp a;rwa[a_2 (Vt 16 (zy _ (f (2*j) (a_1 (Vt 2 a)))).2) (zy _ (f (2*j+1) (a_1 (Vt 2 a)))).2]
 rw[sC (λj a=>⟨Wf _,XX.mpr (g j a)⟩) #v[]];rwa[DD (Vn WN rfl)]
noncomputable def EP(acc:List (Nm×Nat)):Nat:=(acc.getLast?.map (·.2)).getD 0
def lR(acc:List (Nm×Nat))(cnt s:Nat):Bool:=decide (cnt<=s)||(!acc.isEmpty&&decide (s<=EP acc)||acc.isEmpty&&!decide (s=0))
def wR(acc:List (Nm×Nat))(cnt:Nat)(l:Nm):Option (Nm×Nat):=grd (decide ((cK l).length=3)) (grd (dk (gw (cK l) 1)) (grd (d0 (gw (cK l) 2)) (grd (!decide (gw (cK l) 1∈acc.map (·.1))) (grd (!lR acc cnt (numOf (gw (cK l) 2))) (some (gw (cK l) 1,numOf (gw (cK l) 2)))))))
theorem QR{f:Src->M β}:aa (bf (.cell c)) f σ=f (.cell c) σ:=rfl
theorem rb(h:m σ=.ok w σ)(a:w=true->v σ=.ok b' σ):fO m v σ=.ok (w&&b') σ:=by erw[Vn (aB h) ?_];clear h;cases w with|false=>rfl|true=>rwa[a rfl]
theorem jb{k:M Bool}{b:Bool}(h:m σ=.ok b σ)(a:b=false->k σ=.ok b' σ):hO m k σ=.ok (b||b') σ:=by erw[Vn (aB h) ?_];clear h;cases b with|true=>rfl|false=>rwa[a rfl]
theorem nil_eq:oK (.list xs) (.list [])=some xs.isEmpty:=by obtain⟨⟩:=xs<;>rfl
theorem Kc(e:σ[c]?=some (.list xs)):kU σ (.cell c)=some (.list xs):=by show(listOf σ (.cell c)).map Dat.list=_;erw[(fK e)▸?_];rfl
theorem DG(e:σ[c]?=some (.list xs)):cmp .NotEq (.cell c) (.d (.list [])) σ=.ok (!xs.isEmpty) σ:=by erw[lL ?_];show(kU σ (.cell c)).bind (λa=>(oK a (.list [])).map (!·))=_;rw[Kc e];show(oK (.list xs) (.list [])).map (!·)=_;rw[nil_eq];rfl
theorem QS(e:σ[c]?=some (.list xs)):cmp .Eq (.cell c) (.d (.list [])) σ=.ok xs.isEmpty σ:=by erw[lL ?_];show(kU σ (.cell c)).bind (λa=>oK a (.list []))=_;rwa[(Kc e)▸nil_eq]
theorem BO{f:Dat->M β}(e:σ[c]?=some (.list xs))(hd:xs.getLast?=some d)(b:xs.length<=1000000):aa (ay (.cell c) (.d (.int (-1)))) f σ=f d σ:=by
 erw[aB ?_];have a:0<xs.length:=by clear b;cases xs with|nil=>rwa[k_nn hd]|cons _ _=>rwa[af1 _]
 show alt (opt (dictOf σ (.cell c)) _) (opt (listOf σ (.cell c)) λxs=>lift ((D7 (-1) xs.length).bind λj=>xs[j]?) σ)=_;rw[fK e,BE e];show lift ((D7 (-1) xs.length).bind λj=>xs[j]?) σ=_;rw[(by delta D7;rw[show nf (-1:Int).natAbs (2^62)=true by rfl];dsimp![seqIndex?];simp;obtain⟨n,e⟩:=Nat.exists_eq_add_one_of_ne_zero (WQ a);rw[e,Int.natCast_succ,Int.add_comm,Int.add_neg_cancel_right];rwa[⟨⟨Wf n,Int.lt_add_one_of_le (Int.le_refl _)⟩,rfl⟩]:D7 (-1) xs.length=some (xs.length-1))];show lift xs[xs.length-1]? σ=_;rw[<-Yp,hd];rfl
theorem QT:nM [.d h,.d y]=ret (.d (.tuple [h,y])):=by rfl
theorem Kd{a b:Nat}:cmp .GtE (.d (.int a)) (.d (.int b))=ret (decide (b<=a)):=by erw[Vn UA ?_];congr 1;rwa[V1.mpr YI]
theorem Ke:cmp .LtE (.d (.int (h:Nat))) (.d (.int (m:Nat)))=ret (decide (h<=m)):=by erw[Vn Uz ?_];congr 1;rwa[V1.mpr YI]
theorem NH:cmp .NotEq (.d (.int (h:Nat))) (.d (.int 0))=ret !decide (h=0):=by erw[Vn SI ?_];congr 2;rwa[V1.mpr Zb]
theorem BP{f:A->Dat}{l:List A}(h:(!(l.map f).isEmpty)=true):∃a,l.getLast?=some a/\(l.map f).getLast?=some (f a):=by cases q:l.getLast? with|none=>replace h:=(List.getLast?_eq_none_iff.mp q)▸h;rwa[gm h]|some a=>rwa[m_12 a rfl (by simp![List.getLast?_map,q];rfl)]
theorem EQ{f:A->Dat}{l:List A}:(l.map f).isEmpty=l.isEmpty:=by obtain⟨⟩:=l<;>rfl
theorem Kf{l:List (Nm×Nat)}(e:σ[c]?=some (.list (l.map bV)))(j:l.length<=1000000):hO (cmp .GtE (.d (.int (m:Nat))) (.d (.int cnt))) (hO (fO (cmp .NotEq (.cell c) (.d (.list []))) (fO (aa (aa (bD (ay (.cell c) (.d (.int (-1))))) λn=>bD (ay n (.d (.int 1)))) λd=>cmp .LtE (.d (.int m)) d) (ret true))) (hO (fO (cmp .Eq (.cell c) (.d (.list []))) (fO (cmp .NotEq (.d (.int m)) (.d (.int 0))) (ret true))) (ret false))) σ=.ok (lR l cnt m) σ:=by
 have h:=jb (σ:=σ) (k:=hO (fO (cmp .NotEq (.cell c) (.d (.list []))) (fO (aa (aa (bD (ay (.cell c) (.d (.int (-1))))) λn=>bD (ay n (.d (.int 1)))) λd=>cmp .LtE (.d (.int m)) d) (ret true))) (hO (fO (cmp .Eq (.cell c) (.d (.list []))) (fO (cmp .NotEq (.d (.int m)) (.d (.int 0))) (ret true))) (ret false))) (Wd (Kd (a:=m) (b:=cnt)) σ) (b':=_) λY=>jb (rb (DG e) (b':=decide (m<=EP l)&&true) λg=>?_) λY=>jb (rb (QS e) (b':=!decide (m=0)&&true) λY=>rb (Wd NH σ) λY=>rfl) (b':=false) λY=>rfl; ·erw[Vn h ?_];rw[EQ];delta lR;simp![W0,ac6]
 ·erw[ba λi=>x_12 (BP g) λp f o=>i (rb ?_ λY=>rfl)];delta bD;simp![aw];erw[Vn (BO e o (by rw[Vo];rwa[j])) ?_];delta bV EP;simp![f,i1,ac];rw[show ay (.d (.tuple [.str p.1,.int (p.2:Nat)])) (.d (.int ((1:Nat):Int)))=ret (.int (p.2:Nat))by kernel_rfl];dsimp![ac];rw[Ke];rfl
theorem se{acc:List (Nm×Nat)}(e:σ[c]?=some (jh v (i+1)))(h:gk v)(o:c≠c')(m:σ[c']?=some (.list (acc.map bV)))(b:acc.length<=1000000):DE bV σ c v i ((v[i]?).bind (wR acc cnt)) (C (k+3) `read_symbol [.cell c,.cell c',.d (.int (cnt:Nat))] σ):=by
 simp![tY,tZ];erw[pZ (n:=3) e h λl q f=>?_];have g:=ke h q;have a:∀j,(gw (cK l) j).length<=1000000:=λj=>BN h q;have d:(σ.set c (jh v (i+2)))[c']?=some (.list (acc.map bV)):=by rw[WS,WO o];rwa[m]
 rw[t4,i1,i2,qZ (a_1 (so f)) g,qZ (a_1 (so f)) g];erw[vi e (a 1) (EO e (a 2) ?_)];rw[t5];dsimp![de,cu];rw[aw,aw,aw,QR,aB (zv d (Tw (λp:Nm×Nat=>Dat.str p.1) (λp=>.int (p.2:Nat)) (λp=>.str p.1) (big b) λp Y w u=>by rfl))];dsimp![ac];rw[show acc.map (λp=>Dat.str p.1)=(acc.map (·.1)).map .str by simp![VQ];rfl,kh];dsimp![ac];erw[sE e ?_];rw[t6];delta de;rw[aB (Kf d b)];rwa[sE e (DD (Vn WN rfl))]
noncomputable def ER(acc:List (Nat×Nm×Nm)):Nat:=(acc.getLast?.map (·.1)).getD 0
def lS(acc:List (Nat×Nm×Nm))(cnt s:Nat):Bool:=decide (cnt<=s)||!acc.isEmpty&&decide (s<=ER acc)
def wU(acc:List (Nat×Nm×Nm))(cnt:Nat)(l:Nm):Option (Nat×Nm×Nm):=grd (decide ((cK l).length=4)) (grd (d0 (gw (cK l) 1)) (grd (dk (gw (cK l) 3)) (grd (decide (gw (cK l) 2∈[T "map",T "call"])) (grd (!lS acc cnt (numOf (gw (cK l) 1))) (some (numOf (gw (cK l) 1),gw (cK l) 2,gw (cK l) 3))))))
theorem Kg(e:σ[c]?=some (.list (acc.map c8)))(i:acc.length<=1000000):hO (cmp .GtE (.d (.int (m:Nat))) (.d (.int cnt))) (hO (fO (cmp .NotEq (.cell c) (.d (.list []))) (fO (aa (aa (bD (ay (.cell c) (.d (.int (-1))))) λj=>bD (ay j (.d (.int 0)))) λd=>cmp .LtE (.d (.int m)) d) (ret true))) (ret false)) σ=.ok (lS acc cnt m) σ:=by
 have h:=jb (σ:=σ) (k:=hO (fO (cmp .NotEq (.cell c) (.d (.list []))) (fO (aa (aa (bD (ay (.cell c) (.d (.int (-1))))) λj=>bD (ay j (.d (.int 0)))) λd=>cmp .LtE (.d (.int m)) d) (ret true))) (ret false)) (Wd (Kd (a:=m) (b:=cnt)) σ) (b':=_) λY=>jb (rb (DG e) (b':=decide (m<=ER acc)&&true) λg=>?_) (b':=false) λY=>rfl; ·erw[Vn h ?_];rw[EQ];delta lS;rw[W0,ac6]
 ·erw[x_12 (BP g) λp f l=>rb ?_ λY=>rfl];delta bD;simp![aw];erw[Vn (BO e l (by rw[Vo];rwa[i])) ?_];delta c8 ER;simp![f,i0,ac];rw[show ay (.d (.tuple [.int (p.1:Nat),.str p.2.1,.str p.2.2])) (.d (.int ((0:Nat):Int)))=ret (.int (p.1:Nat))by kernel_rfl];dsimp![ac];rw[Ke];rfl
theorem mZ(e:σ[c]?=some (jh v (i+1)))(h:gk v)(f:c≠c')(g:σ[c']?=some (.list (acc.map c8)))(m:acc.length<=1000000):DE c8 σ c v i ((v[i]?).bind (wU acc cnt)) (C (k+3) `read_relocation [.cell c,.cell c',.d (.int (cnt:Nat))] σ):=by simp![nV];simp![nW];erw[pZ (n:=4) e h λl q b=>?_];have a:=ke h q;have d:∀j,(gw (cK l) j).length<=1000000:=λj=>BN h q;rw[nX,i1,i3,qZ (a_1 (so b)) a,qZ (a_1 (so b)) a];erw[EO e (d 1) (vi e (d 3) ?_)];rw[nY,i2,qZ (a_1 (so b)) a,QT];erw[vj e λY=>?_];rw[nZ];delta de;rw[aB (Kg (by rw[WS,WO f];rwa[g]) m)];erw[sE e ?_];simp![n0,i2];rw[qZ (by omega) a];rwa[DD (Vn WN rfl)]
end
section
noncomputable def gather(key:Nm)(p:List A->Nm->Option A):List Nm->List A->Option (List A×List Nm)
|[],_=>none
|l::r,acc=>match decide (hd l=key)with
|true=>match p acc l with|some a=>gather key p r (acc++[a])|none=>none
|false=>some (acc,l::r)
theorem vk{t:Nm}(h:t.length<=1000000):C (k+1) `LineReader [.d (.str t)] σ=.ok (.cell σ.length) (σ++[jh (splitOn 10 t) 1]):=by simp![vY];erw[Vn (VT (λz=>tL σ.length (back false _ z)) ?_) zi];simp![vZ,zt (show T "\n"=[10]by decide +kernel) h];wtm_at "e";erw[Vn (u9 ∅) (Vn (u9 ∅) ?_)];kernel_rfl
theorem vm(e:σ[c]?=some (.list xs)):aa (cY U `append (.cell c) ms) f σ=aa ms (λas=>aa (d5 .lappend (.cell c) as U) f) σ:=by delta cY;rw[aw,aB (a:=oL.lappend) (σ':=σ) (by delta reads dO;erw[(dj e)▸?_];kernel_rfl),aw]
theorem UH(e:σ[c]?=some (.list xs))(a:xs.length<=1000000):aa (d5 .lappend (.cell c) [.d d] U) f σ=f (.d .none) (σ.set c (.list (xs++[d]))):=by erw[aB ?_];show opt (gL σ (.cell c)) _=_;rw[dj e];show gd (er xs.length SL) _=_;rw[V0 (show _<=SL from big a)];rfl
def RO(p q:aX)(o:Option Ob)(m:Res V):Prop:=match o with|some x=>back false 2 m=.ok (.d x.obj) [p,q]|none=>back false 2 m=.exc gY [p,q]
section
variable{i0:Nat}{ps:List A->Nm->Option A}{L:List A->Ls}{Sg:List A->ae}{I:List A->Prop}{kn:Ls->M V}{kr:V->M V}{K:List A×List Nm->Option Ob}
theorem lT:RO p q none (.exc gY (p::q::h)):=rfl
theorem jQ(b:∀acc,i0+acc.length<=lns.length->Dl U F n s (L acc) (Sg acc)=match lns[i0+acc.length]? with|some l=>.ok (decide (hd l=key)) (Sg acc)|none=>.exc gY (Sg acc))(y:∀acc l,I acc->lns[i0+acc.length]?=some l->(∀a,ps acc l=some a->I (acc++[a])/\Bt U F n s 0 (L acc) (Sg acc)=.ok (.next (L (acc++[a]))) (Sg (acc++[a])))/\(ps acc l=none->∃r,Bt U F n s 0 (L acc) (Sg acc)=.exc gY (p::q::r)))(o:∀acc,∃r,Sg acc=p::q::r)(u:∀acc,I acc->i0+acc.length<=lns.length->RO p q (K (acc,lns.drop (i0+acc.length))) (kn (L acc) (Sg acc))):∀(rest:List Nm)m(acc:List A),I acc->rest.length<m->rest=lns.drop (i0+acc.length)->i0+acc.length<=lns.length->RO p q ((gather key ps rest acc).bind K) (aa (jV (Dl U F n s) (Bt U F n s 0) m (L acc)) (tF kn kr) (Sg acc))
|[],0,acc,_,h,_,_=>absurd h (Zh _)
|[],m+1,acc,j,h,e,d=>by have t:=b acc d;rw[aa4 (by have:=VT sA e;simp![WD,a5]at this;rwa[a_2 (Uh lns.length (i0+acc.length)) (so this)])]at t;erw[ba λx=>?_];obtain⟨r,i⟩:=o acc;erw[x ?_];show RO p q none (aa (aa (Dl U F n s (L acc)) _) (tF kn kr) (Sg acc));rw[aw,gB t,i];rwa[lT]
|l::rest,0,acc,_,h,_,_=>absurd h (Zh _)
|l::rest,m+1,acc,j,h,e,d=>by
 have g:lns[i0+acc.length]?=some l:=by rw[<-Z9,<-e];rfl
 have t:=b acc d;rw[g]at t;show RO p q ((match decide (hd l=key)with|true=>(match ps acc l with|some a=>gather key ps rest (acc++[a])|none=>none)|false=>some (acc,l::rest)).bind K) (aa (aa (Dl U F n s (L acc)) λt=>match t with|true=>aa (Bt U F n s 0 (L acc)) λr=>(match r with|.next ls'=>jV (Dl U F n s) (Bt U F n s 0) m ls'|.ret v=>ret (.ret v))|false=>ret (.next (L acc))) (tF kn kr) (Sg acc));rw[aw,aB t];cases decide (hd l=key)with
 |false=>have:=u acc j d;rw[<-e]at this;rwa[this]
 |true=>
  dsimp only;obtain⟨k,w⟩:=y acc l j g;erw[(aw)▸?_];cases f:ps acc l with
  |none=>obtain⟨r,i⟩:=w f;rwa[(gB i)▸lT]
  |some a=>
   rw[aB (k a f).2];have c:i0+(acc++[a]).length=i0+acc.length+1:=by rw[al];rfl
   erw[jQ b y o u rest m (acc++[a]) (k a f).1 (Nat.lt_of_succ_lt_succ h) ?_ (by rw[c];rwa[(V2.mp g).1])];rw[c,<-Zz,<-e];rfl
end
section
variable{m s r:aX}
abbrev kQ(p q:aX)(lns:List Nm)(i:Nat)(m s r:aX):ae:=[p,q,jh lns i,m,s,r]
theorem NJ{f:Bool->M β}(h:gk lns):aa (AB (cV (C (k+2)) `is_next (.cell 2) [.d (.str w)])) f (kQ p q lns (i+1) m s r)=match lns[i]? with|some l=>f (decide (hd l=w)) (kQ p q lns (i+1) m s r)|none=>.exc gY (kQ p q lns (i+1) m s r):=by delta AB;rw[aw,vf (ls:=lns) (i:=i+1) rfl ∅ ∅];have e:=BL (k:=k) (c:=2) (σ:=kQ p q lns (i+1) m s r) (w:=w) rfl h;cases z:lns[i]? with|none=>replace e:=(z)▸e;rwa[Vn (gB e) rfl]|some l=>rw[z]at e;erw[Vn (aB e) ?_];rfl
theorem sF(h:gk lns):AB (cV (C (k+2)) `is_next (.cell 2) [.d (.str w)]) (kQ p q lns (i+1) m s r)=match lns[i]? with|some l=>.ok (decide (hd l=w)) (kQ p q lns (i+1) m s r)|none=>.exc gY (kQ p q lns (i+1) m s r):=by have:=NJ (k:=k) (p:=p) (q:=q) (m:=m) (s:=s) (r:=r) (f:=ret) (i:=i) (w:=w) h;erw[(JC rfl).symm.trans (this.trans ?_)];obtain⟨⟩:=lns[i]?<;>rfl
end
def LO(t:V)(b:List UInt8)(o6 o7:Option V):Ls:=ag (some t) (some (.cell 2)) (some (.cell 3)) (some (.d (.bytes b))) (some (.cell 4)) (some (.cell 5)) o6 o7
section
variable{t:V}
theorem Kh{acc:List Row}{sy re:aX}(h:gk lns)(f:lns[i]?=some m)(d:acc.length<=1000000):(∀a,wO (acc.map Row.name) m=some a->Bt (C (k+3)) ab 23 dG 0 (LO t b o6 o7) (kQ p q lns (i+1) (.list (acc.map Row.obj)) sy re)=.ok (.next (LO t b o6 o7)) (kQ p q lns (i+2) (.list ((acc++[a]).map Row.obj)) sy re))/\(wO (acc.map Row.name) m=none->∃r,Bt (C (k+3)) ab 23 dG 0 (LO t b o6 o7) (kQ p q lns (i+1) (.list (acc.map Row.obj)) sy re)=.exc gY (p::q::r)):=by
 injections m re _ b q p k i lns t o6 o7 acc sy;delta LO;have z:=zx (k:=k) (σ:=kQ p q lns (i+1) (.list (acc.map Row.obj)) sy re) (c:=2) (i:=i) (names:=acc.map Row.name) rfl h;rw[f]at z;rw[qO,vm (xs:=acc.map Row.obj) rfl];dsimp![dX,dW,ac];simp![dX,dW,aw,ac];delta cu;rw[aw,aw,QR,aB (zv (xs:=acc.map Row.obj) (ds:=(acc.map Row.name).map .str) rfl (by rw[VQ];rwa[Cm Row.obj (λr=>.str r.name) (big d) λr Y w=>by rfl]))];dsimp![ac];erw[⟨λa e=>?_,λe=>?_⟩]; ·rw[show(some m).bind (wO (acc.map Row.name))=some a from e]at z;rw[aB z,UH (xs:=acc.map Row.obj) rfl (by rw[Vo];rwa[d]),VE];rfl
 ·rw[show(some m).bind (wO (acc.map Row.name))=none from e]at z;rwa[V7 z λj z=>⟨_,gB z⟩]
theorem Ki(e:lQ h=some a):a.length=8:=by obtain⟨-,e⟩:=aZ.mp e;obtain⟨-,e⟩:=aZ.mp e;rw[<-Vp e];delta xy;rw[Vo,VN]
theorem GS{sy re:aX}(h:gk lns)(d:lns[i]?=some m)(f:b.length<=1000000):(∀a,lQ m=some a->Bt (C (k+3)) ab 23 eR 0 (LO t b o6 o7) (kQ p q lns (i+1) ma sy re)=.ok (.next (LO t (b++a) o6 o7)) (kQ p q lns (i+2) ma sy re))/\(lQ m=none->∃r,Bt (C (k+3)) ab 23 eR 0 (LO t b o6 o7) (kQ p q lns (i+1) ma sy re)=.exc gY (p::q::r)):=by
 delta LO;have z:=wQ (k:=k) (σ:=kQ p q lns (i+1) ma sy re) (c:=2) (i:=i) rfl h;rw[d]at z;simp![qP];simp![aw];erw[⟨λa e=>?_,λe=>?_⟩]; ·rw[show(some m).bind lQ=some a from e]at z;have g:=Ki e;erw[Vn (aB z) ?_];rw[zc (a_2 (m8 g) f)];rfl
 ·rw[show(some m).bind lQ=none from e]at z;rwa[V7 z λj z=>⟨_,gB z⟩]
theorem Kj{acc:List (Nm×Nat)}{re:aX}(h:gk lns)(f:lns[i]?=some m)(d:acc.length<=1000000)(g:b.length<=1000000):(∀a,wR acc (b.length/8) m=some a->Bt (C (k+3)) ab 23 eU 0 (LO t b o6 o7) (kQ p q lns (i+1) ma (.list (acc.map bV)) re)=.ok (.next (LO t b o6 o7)) (kQ p q lns (i+2) ma (.list ((acc++[a]).map bV)) re))/\(wR acc (b.length/8) m=none->∃r,Bt (C (k+3)) ab 23 eU 0 (LO t b o6 o7) (kQ p q lns (i+1) ma (.list (acc.map bV)) re)=.exc gY (p::q::r)):=by
 injections m o7 _ b q p ma k i lns t o6 acc re;delta LO;have z:=se (k:=k) (σ:=kQ p q lns (i+1) ma (.list (acc.map bV)) re) (c:=2) (c':=4) (cnt:=b.length/8) (i:=i) (acc:=acc) rfl h #v[] rfl d;rw[f]at z;rw[qQ,vm (xs:=acc.map bV) rfl];simp![dX,dW,aw,ac];rw[lM (big g)];simp![ac,aw,fL];rw[Dw];simp![ac,aw,fL];erw[⟨λa e=>?_,λe=>?_⟩]; ·rw[show(some m).bind (wR acc (b.length/8))=some a from e]at z;rw[aB z,UH (xs:=acc.map bV) rfl (by rw[Vo];rwa[d]),VE];rfl
 ·rw[show(some m).bind (wR acc (b.length/8))=none from e]at z;rwa[V7 z λj z=>⟨_,gB z⟩]
theorem Kk{sy:aX}(h:gk lns)(f:lns[i]?=some m)(d:acc.length<=1000000)(g:b.length<=1000000):(∀a,wU acc (b.length/8) m=some a->Bt (C (k+3)) ab 23 eV 0 (LO t b o6 o7) (kQ p q lns (i+1) ma sy (.list (acc.map c8)))=.ok (.next (LO t b o6 o7)) (kQ p q lns (i+2) ma sy (.list ((acc++[a]).map c8))))/\(wU acc (b.length/8) m=none->∃r,Bt (C (k+3)) ab 23 eV 0 (LO t b o6 o7) (kQ p q lns (i+1) ma sy (.list (acc.map c8)))=.exc gY (p::q::r)):=by
 injections m o7 _ b q p ma k i acc lns t o6 sy;delta LO;have z:=mZ (k:=k) (σ:=kQ p q lns (i+1) ma sy (.list (acc.map c8))) (c:=2) (c':=5) (cnt:=b.length/8) (i:=i) (acc:=acc) rfl h #v[] rfl d;rw[f]at z;rw[qR,vm (xs:=acc.map c8) rfl];simp![dX,dW,aw,ac];rw[lM (big g)];simp![ac,aw,fL];rw[Dw];simp![ac,aw,fL];erw[⟨λa e=>?_,λe=>?_⟩]; ·rw[show(some m).bind (wU acc (b.length/8))=some a from e]at z;rw[aB z,UH (xs:=acc.map c8) rfl (by rw[Vo];rwa[d]),VE];rfl
 ·rw[show(some m).bind (wU acc (b.length/8))=none from e]at z;rwa[V7 z λj z=>⟨_,gB z⟩]
end
end
section
variable{ls:Ls}
def LA(σ:ae)(v:V)(xs:List Dat):Prop:=∀(o:aX)(f:Dat->M V),aa (bi `list [v]) f (σ++[o])=f (.list xs) (σ++[o])
theorem LA.cell(e:σ[c]?=some (.list xs))(h:xs.length<=1000000):LA σ (.cell c) xs:=λo f=>NB ((VS (V2.mp e).1)▸e) h
theorem LA.list(h:xs.length<=1000000):LA σ (.d (.list xs)) xs:=λo f=>by erw[(QF h)▸?_];rfl
theorem LA.tuple(h:xs.length<=1000000):LA σ (.d (.tuple xs)) xs:=λo f=>by erw[(NA h)▸?_];rfl
theorem ki(g:LA σ m x1)(i:LA σ v y)(h:LA σ w D):C (k+1) `Object [m,.d (.bytes b),v,w] σ=.ok (.cell σ.length) (σ++[.inst `Object SM [.list x1,.bytes b,.list y,.list D]]):=by simp![Gj];erw[Vn (VT (λz=>tL σ.length (back false _ z)) ?_) zi];rw[Gk];delta bD;rw[aw,g];dsimp![ac,pV,ac];rw[u9 ∅,Gl];dsimp![QM,fL,ac,pV,ac];rw[u9 ∅,Gm];delta bD;rw[aw,i];dsimp![ac,pV,ac];rw[u9 ∅,Gn];delta bD;rw[aw,h];dsimp![ac,pV,ac];rw[u9 ∅];kernel_rfl
theorem xA:∀{a b:List Nm},jj (gM n) (a.map .str) (b.map .str)=some (decide (a=b))|[],[]=>rfl|[],_::_=>rfl|_::_,[]=>rfl|x::a,y::b=>by show(match gM n (.str x) (.str y),jj (gM n) (a.map .str) (b.map .str)with|some x,some y=>some (x&&y)|_,_=>none)=_;simp![xA,show gM n (.str x) (.str y)=some (decide (x=y))by obtain⟨⟩:=n<;>rfl];congr 1;rw[WW];simp![Vq,Vx,Vx,Vx,List.cons.injEq]
theorem O0{a b:List Nm}:cmp .NotEq (.d (.list (a.map .str))) (.d (.list (b.map .str)))=ret !decide (a=b):=by funext σ;erw[lL ?_];show(oK (.list (a.map .str)) (.list (b.map .str))).map (!·)=_;simp![show oK (.list (a.map .str)) (.list (b.map .str))=gP (jj (gM 5) (a.map .str) (b.map .str)) (sM (.list (a.map .str)) (.list (b.map .str)))from rfl,xA];rfl
theorem O1:hO m (ret false)=m:=by funext σ;dsimp![hO,aa];cases m σ with|ok b s=>obtain⟨⟩:=b<;>rfl|exc c s=>rfl|stuck=>rfl
def pEnd(cnt sum:Nat)(r:List Nm)(o:Option Ob):Option Ob:=(r.head?).bind λl=>grd (decide ((cK l).length=3)) (grd (decide (gw (cK l) 0=T "end")) (grd (d0 (gw (cK l) 1)) (grd (decide (numOf (gw (cK l) 1)=cnt)) (grd (d0 (gw (cK l) 2)) (grd (decide (numOf (gw (cK l) 2)=sum)) (grd (decide (r.tail=[[]])) o))))))
def rB:List Nm:=cK (T "ringgate object 1")
def parse(t:Nm):Option Ob:=((splitOn 10 t).head?).bind λl0=>grd (decide ((cK l0).length=3)) (grd (decide (cK l0=rB)) ((gather (T "map") (λacc l=>wO (acc.map Row.name) l) (splitOn 10 t).tail []).bind λx=>(gather (T "slot") (λY l=>lQ l) x.2 []).bind λy=>(gather (T "symbol") (λacc l=>wR acc (y.1.flatten.length/8) l) y.2 []).bind λz=>(gather (T "relocation") (λacc l=>wU acc (y.1.flatten.length/8) l) z.2 []).bind λu=>pEnd (1+x.1.length+y.1.length+z.1.length+u.1.length) (sumOf y.1.flatten) u.2 (some ⟨x.1,y.1.flatten,z.1,u.1⟩)))
section
variable{m s r:aX}{o:Option Ob}{f:V->M V}{K:M V}{b:Bool}{w:Nm}{x:V}
theorem Kl(a:w.length<=1000000)(b:RO p q o (f (.d (.int (numOf w:Nat))) (kQ p q lns i m s r))):RO p q (grd (d0 w) o) (aa (cV (C (k+2)) `number (.cell 2) [.d (.str w)]) f (kQ p q lns i m s r)):=by rw[ra (ls:=lns) (i:=i) rfl a];cases d0 w with|true=>rwa[b]|false=>rwa[lT]
theorem zz(a:RO p q o (K (kQ p q lns i m s r))):RO p q (grd b o) (xm (!b) (aa (cV (C (k+1)) `refuse (.cell 2) [x]) f) K (kQ p q lns i m s r)):=by cases b with|true=>rwa[a]|false=>rw[show(!false)=true from rfl];dsimp![qk];rw[kg (ls:=lns) (i:=i) rfl];rwa[lT]
theorem SR(a:RO p q o (de k' (aa (cV (C (k+1)) `refuse (.cell 2) [x]) f) K (kQ p q lns i m s r))):RO p q (grd b o) (de (hO (ret !b) k') (aa (cV (C (k+1)) `refuse (.cell 2) [x]) f) K (kQ p q lns i m s r)):=by rw[Qx];cases b with|true=>rwa[a]|false=>rw[show(!false)=true from rfl];dsimp![qk,fV,qk];rw[kg (ls:=lns) (i:=i) rfl];rwa[lT]
theorem ES{g:Nm->Option Ob}(h:gk lns)(b:∀l,lns[i]?=some l->(cK l).length=n->RO p q (g l) (f (.d (.list ((cK l).map .str))) (kQ p q lns (i+2) m s r))):RO p q ((lns[i]?).bind λl=>grd (decide ((cK l).length=n)) (g l)) (aa (cV (C (k+2)) `take (.cell 2) [.d (.int n)]) f (kQ p q lns (i+1) m s r)):=by
 rw[EN (ls:=lns) (i:=i) rfl h];cases e:lns[i]? with
 |none=>rwa[lT]
 |some l=>
  by_cases a:(cK l).length=n; ·simp![Wl,Vz a];rwa[b l e a]
  ·simp![Wl,VO a];rwa[lT]
end
theorem GT{ma:List Row}(h:gk lns)(o:ma.length<=1000000)(g:b.length<=1000000)(r:sy.length<=1000000)(m:re.length<=1000000)(f:j<=200000):RO p q (pEnd j (sumOf b) (lns.drop j) (some ⟨ma,b,sy,re⟩)) (Sk (C (k+3)) ab 6 (LO v b none none) (kQ p q lns (j+1) (.list (ma.map Row.obj)) (.list (sy.map bV)) (.list (re.map c8)))):=by injections q p re _ b k j sy lns v ma;delta LO;rw[ue,aw,BK (ls:=lns) (i:=j+1) rfl,show af .Sub (.d (.int ((j+1:Nat):Int))) (.d (.int 1))=ret (.int j)by erw[Vn JS ?_];congr 2;lia];dsimp![fL,ac];delta pEnd;rw[Z9,Zz];erw[ES (n:=3) h λl d c=>?_];have a:=ke h d;have e:∀j,(gw (cK l) j).length<=1000000:=λj=>BN h d;generalize cK l=ws at*;rw[uf,i0,i1,qZ (a_1 (so c)) a,qZ (a_1 (so c)) a];erw[SR ?_];rw[O1];delta de;rw[aw];erw[Kl (e 1) ?_];simp![EH,ac,V1.mpr Zb];erw[zz ?_];rw[ug,i2,qZ (a_1 (so c)) a,jB g,ve];delta de;rw[aw];erw[Kl (e 2) ?_];simp![EH,ac];rw[V1.mpr Zb];erw[zz ?_];rw[uh];delta de;simp![aw];rw[zr (ls:=lns) (i:=j+2) rfl,BK (ls:=lns) (i:=j+2) rfl,show af .Sub (.d (.int ((j+2:Nat):Int))) (.d (.int 1))=ret (.int ((j+1:Nat):Int))by erw[Vn JS ?_];congr 2;lia];rw[Ck,c7];rw[jA (gC (a_1 f)) (h:=none) rfl (by rw[Vo];rwa[lb h.cnt]),show cut (some (j+1)) none (lns.map Dat.str)=(lns.drop (j+1)).map .str by simp![Yw];rfl];simp![zf,mX,mW,fL,ac];simp![show [Dat.str (T "")]=[([]:Nm)].map .str from by rfl,O0,c7];cases decide (lns.drop (j+1)=[[]])with|false=>rwa[lT]|true=>simp![show(!true)=false from rfl,oH,r8];rw[aB (ki (LA.cell (xs:=ma.map Row.obj) rfl (by rw[Vo];rwa[o])) (LA.cell (xs:=sy.map bV) rfl (by rw[Vo];rwa[r])) (LA.cell (xs:=re.map c8) rfl (by rw[Vo];rwa[m])))];rfl
theorem kD(y:t.length<=90000):C (k+4) `read_object [.d (.str t)] [p,q]=match parse t with|some x=>.ok (.d x.obj) [p,q]|none=>.exc gY [p,q]:=by
 injections q p k t;have key:RO p q (parse t) (Sk (C (k+3)) ab 0 (ag (some (.d (.str t))) none none none none none none none) [p,q]):=by
  have d:(splitOn 10 t).length<=100000:=Vw qY (a_1 y);have h:gk (splitOn 10 t):=⟨d,λl f=>Vw (split_len f) (a_1 y)⟩;rw[t8,aB (vk (lb y))];delta parse;generalize splitOn 10 t=lns at*;simp![aB (m:=aM (.list [])) rfl,c7,aB (m:=aM (.list [])) rfl,aB (m:=aM (.list [])) rfl];show RO p q _ (Sk (C (k+3)) ab 1 (LO (.d (.str t)) [] none none) (kQ p q lns 1 (.list []) (.list []) (.list [])));delta LO;rw[t9];delta de;rw[aw];rw[List.head?_eq_getElem?];erw[ES (i:=0) (n:=3) h λE g D=>?_];rw[zt T1 ⋯];dsimp![ac];rw[(rfl:splitOn 32 (T "ringgate object 1")=rB),O0];erw[zz ?_];have c:∀{i:Nat}{l:Nm},lns[i]?=some l->i<lns.length:=λe=>(V2.mp e).1;rw[ua,<-List.drop_one];erw[jQ (i0:=1) (lns:=lns) (I:=λY=>True) (L:=λY=>LO (.d (.str t)) [] none none) (Sg:=λacc=>kQ p q lns (1+acc.length+1) (.list (acc.map Row.obj)) (.list []) (.list [])) (λacc Y=>?_) (λacc l Y f=>?_) (λacc=>⟨_,rfl⟩) (λma Y A=>?_) (lns.drop 1) NN [] trivial (ED d (c g)) rfl (c g)]; ·delta LO;rw[ui];rwa[sF h]
  ·have z:=Kh (k:=k) (p:=p) (q:=q) (t:=.d (.str t)) (o6:=none) (o7:=none) (b:=[]) (sy:=.list []) (re:=.list []) (acc:=acc) h f (by have:=c f;rwa[a_2 this d]);rwa[⟨λa r=>⟨trivial,(al)▸z.1 a r⟩,z.2⟩]
  dsimp![LO];simp![ub];erw[jQ (i0:=1+ma.length) (lns:=lns) (I:=λacc=>acc.flatten.length=8*acc.length) (L:=λacc=>LO (.d (.str t)) acc.flatten none none) (Sg:=λacc=>kQ p q lns (1+ma.length+acc.length+1) (.list (ma.map Row.obj)) (.list []) (.list [])) (λacc Y=>?_) (λacc l B f=>?_) (λacc=>⟨_,rfl⟩) (λoc v u=>?_) (lns.drop (1+ma.length)) NN [] rfl (ED d (c g)) rfl A]; ·delta LO;rw[uj];rwa[sF h]
  ·have z:=GS (k:=k) (p:=p) (q:=q) (t:=.d (.str t)) (o6:=none) (o7:=none) (b:=acc.flatten) (ma:=.list (ma.map Row.obj)) (sy:=.list []) (re:=.list []) h f (by have:=c f;rwa[mM (m8 B) (Vt 8 this) (Vt 8 d)]);erw[⟨λa r=>⟨?_,?_⟩,z.2⟩]; ·simp![Yv,al,al,B];have:=Ki r;simp;rwa[Zi (a_1 (m8 this)) (a_1 (so this))]
   ·simp![al,Yv,show [a].flatten=a by simp];rwa[z.1 a r]
  have s:oc.flatten.length<=1000000:=mM (m8 v) (Vt 8 u) (Vt 8 d)
  unfold LO;rw[uc];erw[jQ (i0:=1+ma.length+oc.length) (lns:=lns) (I:=λY=>True) (L:=λY=>LO (.d (.str t)) oc.flatten none none) (Sg:=λacc=>kQ p q lns (1+ma.length+oc.length+acc.length+1) (.list (ma.map Row.obj)) (.list (acc.map bV)) (.list [])) (λacc Y=>?_) (λacc l Y f=>?_) (λacc=>⟨_,rfl⟩) (λsy Y w=>?_) (lns.drop (1+ma.length+oc.length)) NN [] trivial (ED d (c g)) rfl u]; ·unfold LO;rw[uk];rwa[sF h]
  ·have z:=Kj (k:=k) (p:=p) (q:=q) (t:=.d (.str t)) (o6:=none) (o7:=none) (b:=oc.flatten) (ma:=.list (ma.map Row.obj)) (re:=.list []) (acc:=acc) h f (by have:=c f;rwa[a_2 this d]) s;erw[⟨λa r=>⟨trivial,?_⟩,z.2⟩];rw[al];rwa[z.1 a r]
  unfold LO;rw[ud];erw[jQ (i0:=1+ma.length+oc.length+sy.length) (lns:=lns) (I:=λY=>True) (L:=λY=>LO (.d (.str t)) oc.flatten none none) (Sg:=λacc=>kQ p q lns (1+ma.length+oc.length+sy.length+acc.length+1) (.list (ma.map Row.obj)) (.list (sy.map bV)) (.list (acc.map c8))) (λacc Y=>?_) (λacc l Y f=>?_) (λacc=>⟨_,rfl⟩) (λre Y o=>?_) (lns.drop (1+ma.length+oc.length+sy.length)) NN [] trivial (ED d (c g)) rfl w]; ·unfold LO;rw[ul];rwa[sF h]
  ·have z:=Kk (k:=k) (p:=p) (q:=q) (t:=.d (.str t)) (o6:=none) (o7:=none) (b:=oc.flatten) (ma:=.list (ma.map Row.obj)) (sy:=.list (sy.map bV)) (acc:=acc) h f (by have:=c f;rwa[a_2 this d]) s;erw[⟨λa r=>⟨trivial,?_⟩,z.2⟩];rw[al];rwa[z.1 a r]
  rwa[GT (ma:=ma) (b:=oc.flatten) (sy:=sy) (re:=re) (j:=1+ma.length+oc.length+sy.length+re.length) h (a_2 o d) s (a_2 o d) (a_2 o d) (a_2 o d)]
 unfold RO at key;rw[t7];cases e:parse t with|none=>rw[e]at key;rwa[key]|some x=>rw[e]at key;rwa[key]
end
section
noncomputable def run(step:τ->A->Option τ):τ->List A->Option τ|w,[]=>some w|w,y::ys=>match step w y with|some w'=>run step w' ys|none=>none
def Go(c:Str)(Q:ae->Prop)(I:τ->Prop)(L:τ->υ->Ls)(Sg:τ->ae)(kn:Ls->M β)(o:Option τ)(x:Res β):Prop:=match o with|some w=>I w/\∃u,x=kn (L w u) (Sg w)|none=>∃σ',Q σ'/\x=.exc c σ'
def EU(l:Ls):M LR:=ret (.next l)
theorem Go.imp{L:τ->υ->Ls}(h:Go m Q I L Sg kn v y)(a:∀w,v=some w->I w->J w):Go m Q J L Sg kn v y:=by cases v with|none=>rwa[h]|some w=>rwa[⟨a w rfl h.1,h.2⟩]
theorem kE{s:Stmt}{A d f:Type}{c:Str}(e:A->Dat)(a:d->A->Option d)(L:d->f->Ls)(p:d->ae)(I:List A->d->Prop)(Q:ae->Prop){kn:Ls->M β}{kr:V->M β}:∀{ys:List A}{w:d}{u:f},I ys w->(∀y∈ys,∀g w u,I (y::g) w->Go c Q (I g) L p EU (a w y) (gr U F n s (e y) (L w u) (p w)))->Go c Q (I []) L p kn (run a w ys) (fr U F n s (L w u) kn kr (.items (ys.map e)) (p w))|[],w,u,i,_=>⟨i,u,rfl⟩|y::ys,w,u,i,b=>by have t:=b y (Vv ..) ys w u i;rw[(by rw[<-aw];rfl:fr U F n s (L w u) kn kr (.items ((y::ys).map e)) (p w)=aa (gr U F n s (e y) (L w u)) (λr=>aa (match r with|.next B=>forL (gr U F n s) (ys.map e) B|.ret v=>ret (.ret v)) (tF kn kr)) (p w))];dsimp![run];cases q:a w y with|none=>replace t:=(q)▸t;rwa[x_12 t λx o h=>m_12 x o (gB h)]|some j=>rw[q]at t;obtain⟨i1,k,l⟩:=t;rwa[(aB l)▸kE e a L p I Q (kn:=kn) (kr:=kr) (ys:=ys) (w:=j) (u:=k) i1 λz m=>b z (VB _ m)]
def gF:Str:=`ProgramError
def zA:Str:=`MapError
theorem zB{x:UInt8}(h:b[i]?=some x)(a:b.length<=1000000):ay (.d (.bytes b)) (.d (.int i))=ret (.int (x.toNat:Nat)):=by rw[JX (V2.mp h).1 (big a),VL,h];rfl
theorem Km:cmp .NotEq (.d (.bytes a)) (.d (.bytes b))=ret !decide (a=b):=by rfl
theorem UI{o:Option Nat}:cmp .Lt (.d (.int (orM o))) (.d (.int 0))=ret o.isNone:=by cases o with|none=>rfl|some n=>rfl
structure BQ(o:Ob)i(d:UInt8):Prop where
 lo:o.slotB i=[24,d,0,0,0,0,0,0]
 hi:o.slotB (i+1)=[0,0,0,0,0,0,0,0]
 d:d.toNat<16
def SS(d:UInt8)(n:Nat):List UInt8:=[24,d+16,0,0]++dh n 4
def Kn(g i:Nat):List UInt8:=[133,16,0,0]++dh (g-i-1) 4
theorem UJ:∀d:Nat,d<16->aj9 d 16=((d+16:Nat):Int):=⋯
theorem vn{o:Ob}{i:Nat}{x:Nm}(h:o.Fit)(f:i+1<=100000)(c:BQ o i y):C (k+2) `filled_map [.d o.obj,.d (.int i),.d (.str x)] σ=match mapNo o.maps x with|some m=>.ok (.d (.bytes (SS y m))) σ|none=>.exc gF σ:=by injections σ x _ k y o i;simp![wb];simp![wc,NC,u7,kP h,e9 h (ZK f),c.lo];simp![ac];simp![we,UI,fV];cases e:mapNo o.maps x with|none=>rwa[iq]|some m=>simp![(rfl),oH,wg];rw[show hO (aa (bD (ay (.d (.bytes [24,y,0,0,0,0,0,0])) (.d (.int 0)))) λr=>cmp .NotEq r (.d (.int 24))) (hO (aa (aa (bD (ay (.d (.bytes [24,y,0,0,0,0,0,0])) (.d (.int 1)))) λd=>bD (af .RShift d (.d (.int 4)))) λq=>cmp .NotEq q (.d (.int 0))) (hO (aa (aa (bD (bq (.d (.bytes [24,y,0,0,0,0,0,0])) (.d (.int 2)) (.d .none))) λp=>aa (cY (C (k+1)) `slot (.d o.obj) (ao [bD (af .Add (.d (.int i)) (.d (.int 1)))])) λj=>bD (af .Add p j)) λn=>aa (bD (bi `bytes [.d (.int 14)])) λg=>cmp .NotEq n g) (ret false)))=ret false from by simp![i0];simp![i1];rw[zB (i:=0) (x:=24) rfl (Vu rfl),zB (i:=1) (x:=y) rfl (Vu rfl)];simp![ac,fL];rw[JT #v[],(by show((y.toNat/16:Nat):Int)=0;have:=c.d;lia:((y.toNat:Nat):Int)/2^(4:Int).toNat=0),(rfl:(24:Int)=((24:Nat):Int))];simp![ac,fL];rw[uW (l:=some 2) (h:=none) rfl rfl (Vu rfl),<-i1];dsimp![J4];simp![c7,Ck,GO,GN,dv];simp![u7,e9 h f,c.hi];dsimp![ac];rw[zc (Vu rfl),show bi `bytes [.d (.int 14)]=ret (.bytes [0,0,0,0,0,0,0,0,0,0,0,0,0,0])by kernel_rfl];dsimp![ac,fL];rw[Km,show cut (some 2) none [24,y,0,0,0,0,0,0]++[0,0,0,0,0,0,0,0]=[0,0,0,0,0,0,0,0,0,0,0,0,0,0]from rfl,Vz rfl,O1];trivial];dsimp![fV,oH];rw[wi,i0,i1,zB (i:=0) (x:=24) rfl (Vu rfl),zB (i:=1) (x:=y) rfl (Vu rfl)];rw[show af .LShift (.d (.int ((1:Nat):Int))) (.d (.int 4))=ret (.int 16)by kernel_rfl];wtm_at "e";wtm_at "f";rw[show af .BitOr (.d (.int (y.toNat:Nat))) (.d (.int 16))=ret (.int (aj9 (y.toNat:Nat) 16))by rfl,UJ _ c.d];wtm_at "e";wtm_at "f";rw[show bi `bytes [.d (.list [.int ((UInt8.toNat 24:Nat):Int),.int ((y.toNat+16:Nat):Int),.int ((0:Nat):Int),.int ((0:Nat):Int)])]=_ from sC (A:=Nat) (h:=λa=>a) (l:=[24,y.toNat+16,0,0]) (λa b=>by have:=c.d;simp![VD,Xb,YQ]at b;rwa[⟨Wf a,XX.mpr (b.elim (λe=>e▸#v[]) λb=>b.elim (λe=>a_2 (m8 e) this) λb=>b.elim (λe=>e▸#v[]) λe=>e▸#v[])⟩]) (Vu rfl)];rw[show(4:Int)=((4:Nat):Int)from rfl,uY #v[]];wtm_at "e";wtm_at "f";show back false σ.length (Res.ok (V.d (.bytes ([24,(y.toNat+16).toUInt8,0,0]++dh m 4))) σ)=_;rwa[dZ rfl]
theorem sf{o:Ob}(h:o.Fit)(a:w<=100000)(b:o.slotB w=[133,16,0,0,255,255,255,255]):C (k+2) `filled_call [.d o.obj,.d (.int w),.d (.str y)] σ=match symAt o.syms y with|some g=>.ok (.d (.bytes (Kn g w))) σ|none=>.exc gF σ:=by simp![um];simp![uo,OY,u7,jw,e9 h a,b];simp![ac];simp![uq,UI,fV];cases e:symAt o.syms y with|none=>rwa[iq]|some m=>simp![(rfl),oH,ur];rw[show af .LShift (.d (.int 1)) (.d (.int 4))=ret (.int 16)by kernel_rfl];wtm_at "e";simp![Km,Vz rfl,Dv,(rfl),Tv,ut];dsimp![BG];wtm_at "f";dsimp![BG];wtm_at "e";rw[show(4:Int)=((4:Nat):Int)from rfl,uY #v[]];rwa[dZ rfl]
end
section
theorem Ko{f:Unit->M β}(e:σ[c]?=some (.list xs))(b:i<xs.length)(g:i<=1000000):aa (dq (.cell c) (.d (.int i)) d) f σ=f () (σ.set c (.list (xs.set i d))):=by erw[aB ?_];have a:=OW g;simp![Vq]at a;show alt (opt (ji σ (.cell c)) _) (opt (gL σ (.cell c)) _)=_;simp![dj e,show ji σ (.cell c)=none by delta ji;dsimp only;rw[e]];show gd (decide (0<=i)&&nf (i:Int).toNat xs.length&&decide ((i:Int)<2^62)) _=_;simp![a.1,a.2,show nf (i:Int).toNat xs.length=true from V0 b];rfl
theorem Kp:L6 (l.map .bytes)=some l:=(pn (f:=Ci) (g:=Dat.bytes) (h:=id) λY=>rfl).trans (by rw[af9])
theorem NK(e:σ[c]?=some (.list (l.map .bytes)))(a:l.flatten.length<=1000000):aa (cV U `join (.d (.bytes [])) [.cell c]) f σ=f (.d (.bytes l.flatten)) σ:=by erw[aB ?_];show opt ((listOf σ (.cell c)).bind L6) (λb=>lift (within b.flatten.length (V.d (.bytes b.flatten))) σ)=_;simp![fK e,Wl,Kp];show lift (within l.flatten.length (V.d (.bytes l.flatten))) σ=_;rw[iH (big a)];rfl
def iI:Nm:=T "map"
def kj:Nm:=T "call"
def iJ(o:Ob)(r:Nat×Nm×Nm):Option (List UInt8):=match decide (r.2.1=iI)with
|true=>match mapNo o.maps r.2.2 with|some m=>some (SS ((o.slotB r.1).getD 1 0) m)|none=>none
|false=>match symAt o.syms r.2.2 with|some g=>some (Kn g r.1)|none=>none
def gG(o:Ob)(rows:List (List UInt8))(r:Nat×Nm×Nm):Option (List (List UInt8)):=match iJ o r with|some b=>some (rows.set r.1 b)|none=>none
structure zC(o:Ob):Prop where
 fit:o.Fit
 cnt:o.count<=100000
 rel:∀r∈o.rels,r.1+1<=o.count/\((r.2.1=iI/\∃d,BQ o r.1 d)\/r.2.1≠iI/\o.slotB r.1=[133,16,0,0,255,255,255,255])
theorem len_little:(dh w m).length=m:=by delta dh;rw[Vo,VN]
theorem len_callB:(Kn h i).length=8:=by rfl
theorem NL(h:∀b∈l,b.length<=8):l.flatten.length<=8*l.length:=by induction l with|nil=>rwa[WK _]|cons b l d=>have e:=h b (Vv ..);have f:=d λc a=>h c (VB _ a);simp![Xj];simp![al,ar];rwa[a_2 f e]
theorem BR(h:iJ o v=some b):b.length<=8:=by
 injections b _ o v;delta iJ at h;cases q:decide (v.2.1=iI)with
 |true=>replace h:=(q)▸h;dsimp only at h;cases a:mapNo o.maps v.2.2 with|none=>replace h:=(a)▸h;rwa[k_nn h]|some m=>replace h:=(a)▸h;injection h with c;subst c;rwa[VM _]
 |false=>replace h:=(q)▸h;dsimp only at h;cases a:symAt o.syms v.2.2 with|none=>replace h:=(a)▸h;rwa[k_nn h]|some m=>replace h:=(a)▸h;injection h with c;subst c;rwa[(len_callB)▸VM _]
theorem zD(h:∃σ',σ<+:σ'/\m=.exc v σ'):back w σ.length m=.exc v σ:=by obtain⟨σ',⟨t,rfl⟩,rfl⟩:=h;show Res.exc v ((σ++t).take σ.length)=_;rw[ar5]
theorem Kq:back false σ.length (.ok (.d d) (σ++h))=.ok (.d d) σ:=by show Res.ok (V.d d) ((σ++h).take σ.length)=_;rw[ar5]
theorem Kr{o:Ob}(h:zC o)(i:w∈o.rels):(de (cmp .Eq (.d (.str w.2.1)) (.d (.str (T "map")))) (C (k+2) `filled_map [.d o.obj,.d (.int (w.1:Nat)),.d (.str w.2.2)]) (C (k+2) `filled_call [.d o.obj,.d (.int (w.1:Nat)),.d (.str w.2.2)])) σ=match iJ o w with|some b=>.ok (.d (.bytes b)) σ|none=>.exc gF σ:=by
 injections k σ w o;erw[ba λa=>?_];obtain⟨e,j⟩:=h.rel w i;have c:=h.cnt;erw[a ?_];delta iJ;show xm (decide (w.2.1=iI)) _ _ σ=_;cases q:decide (w.2.1=iI)with
 |true=>have g:=VF q;erw[ba λa=>?_];obtain⟨-,d,f⟩:=j.resolve_right λz=>z.1 g;erw[a ?_];dsimp![qk];rw[vn h.fit (Vw e c) f,f.lo];cases mapNo o.maps w.2.2 with|none=>rfl|some m=>rfl
 |false=>dsimp![oH];erw[Vn (sf h.fit (Vw (ZK e) c) (j.resolve_left λz=>(WX q) z.1).2) ?_];cases symAt o.syms w.2.2 with|none=>rfl|some m=>rfl
theorem DH{o:Ob}(h:zC o):C (k+3) `filled [.d o.obj] σ=match run (gG o) o.slots o.rels with|some a=>.ok (.d (.bytes a.flatten)) σ|none=>.exc gF σ:=by
 injections k _ σ o;have d:=h.cnt;simp![Gs];rw[Gu,zh,gX h.fit];wtm_at "e";rw[hZ (lb d)];wtm_at "e";rw[Cm (λj=>Dat.int (j:Nat)) (λi=>.bytes (o.slotB i)) (by rw[VN];rwa[lb d]) (by intro i A w;simp![Gy,u7,e9 h.fit (Vw (YM (Wx.mp A)) d)];rfl)];wtm_at "f";rw[vV rfl];rw[Gv,qV,show(eg o.count).map (λi=>Dat.bytes (o.slotB i))=o.slots.map .bytes by delta Ob.slots;rw[VQ];rfl];have y:=kE (U:=C (k+2)) (F:=c6) (n:=23) (s:=iU) (c:=gF) (β:=V) (ys:=o.rels) (w:=o.slots) (u:=((none,none,none):Option V×Option V×Option V)) c8 (gG o) (λY u=>dK (some (.d o.obj)) (some (.cell σ.length)) u.1 u.2.1 u.2.2) (λa=>σ++[.list (a.map .bytes)]) (λY a=>a.length=o.count/\∀b∈a,b.length<=8) (λz=>σ<+:z) (kn:=λl=>Sk (C (k+2)) c6 2 l) (kr:=λv=>ret v) ⟨by delta Ob.slots;rw[Vo,VN],λb p=>by obtain⟨i,-,rfl⟩:=VI.mp p;rwa[lO]⟩ λr m Y a u f=>by
  have g:=Kr (k:=k) (σ:=σ++[.list (a.map .bytes)]) h m;delta c8;rw[Gx];delta gG;rw[AK];cases q:iJ o r with
  |none=>rw[q]at g;rwa[m_12 _ ⟨_,rfl⟩ (gB g)]
  |some b=>
   rw[q]at g;erw[⟨⟨Vn WN f.1,λc d=>?_⟩,(some (.d (.int (r.1:Nat))),some (.d (.str r.2.1)),some (.d (.str r.2.2))),?_⟩]
   ·rcases List.mem_or_eq_of_mem_set d with d|rfl; ·rwa[f.2 c d]
    ·rwa[BR q]
   ·erw[Vn (aB g) ?_];dsimp![pV,ac];erw[Vn (Ko eZ (by simp![Vo,f.1];rwa[(h.rel r m).1]) (lb (Vw (ZK (h.rel r m).1) d))) ?_];rw[i8,<-List.map_set];rfl
 cases q:run (gG o) o.slots o.rels with|none=>rw[q]at y;rwa[zD y]|some a=>simp![q]at y;obtain⟨⟨f,t⟩,x,e⟩:=y;erw[(VT (back false σ.length) e).trans ?_];dsimp only;rw[Gw,NK eZ (Vw (NL t) (a_2 (Vt 8 (m8 f)) (Vt 8 d)))];rwa[Kq]
end
section
noncomputable def xB(a b:Row):Bool:=decide (a.name=b.name)&&(decide (a.kind=b.kind)&&(decide ((a.kw:Int)=b.kw)&&(decide ((a.vw:Int)=b.vw)&&(decide ((a.most:Int)=b.most)&&true))))
theorem xC:xB m v=true↔m=v:=by obtain⟨i,a,e,h,g⟩:=m;obtain⟨k,c,d,j,f⟩:=v;dsimp![xB];simp![Vq,Vx,Row.mk.injEq,Zb,and_true]
theorem QU{a b:Row}:cmp .NotEq (.d a.tup) (.d b.tup)=ret !xB a b:=by rfl
theorem BS:∀{l:List Row},bS x (l.map Row.name) (l.map Row.obj)=(l.find? λr=>decide (r.name=x)).map Row.obj:=by intro b;induction b with|nil=>rwa[rfl]|cons r l a=>dsimp![fo];erw[((V1.mpr ⟨am,am⟩:decide (r.name=x)=decide (x=r.name)))▸?_];show(match decide (x=r.name)with|true=>some r.obj|false=>bS x (l.map Row.name) (l.map Row.obj))=_;erw[(a)▸?_];cases decide (x=r.name)<;>rfl
theorem NM:∀{l:List Row},(l.find? λr=>decide (r.name=x))=none->putK x d (l.map Row.name) (l.map Row.obj)=(l.map Row.name++[x],l.map Row.obj++[d]):=by intro b;induction b with|nil=>intro _;rwa[rfl]|cons r l a=>intro h;rw[fo,V1.mpr ⟨am,am⟩]at h;show(match decide (x=r.name)with|true=>(r.name::l.map Row.name,d::l.map Row.obj)|false=>(r.name::(putK x d (l.map Row.name) (l.map Row.obj)).1,r.obj::(putK x d (l.map Row.name) (l.map Row.obj)).2))=_;cases e:decide (x=r.name)with|true=>replace h:=(e)▸h;rwa[k_sn h]|false=>rw[e]at h;rw[a h];rfl
theorem SU{f:Bool->M β}(e:σ[c]?=some (.dict ks vs)):aa (cmp .NotIn (.d (.str x)) (.cell c)) f σ=f (!(bS x ks vs).isSome) σ:=by erw[aB (lL ?_)];show(gP none (gP ((dictOf σ (.cell c)).bind λd=>some (bS x d.1 d.2).isSome) _)).map (!·)=_;erw[(uQ e)▸?_];rfl
theorem Ks{f:Dat->M β}(e:σ[c]?=some (.dict ks vs))(h:bS x ks vs=some d):aa (ay (.cell c) (.d (.str x))) f σ=f d σ:=by erw[aB ?_];show alt (opt (dictOf σ (.cell c)) λr=>lift (bS x r.1 r.2) σ) _=_;rw[uQ e];erw[ju ?_];show lift (bS x ks vs) σ=_;rw[h];rfl
theorem SV{f:Unit->M β}(e:σ[c]?=some (.dict ks vs))(h:ks.length<=1000000):aa (dq (.cell c) (.d (.str x)) d) f σ=f () (σ.set c (.dict (putK x d ks vs).1 (putK x d ks vs).2)):=by erw[aB ?_];show alt (opt (ji σ (.cell c)) _) _=_;simp![xu e];erw[ju ?_];show gd (er ks.length SL) _=_;simp![V0 (show _<=SL from big h)];rfl
noncomputable def jmStep(found:List Row)(r:Row):Option (List Row):=match found.find? λs=>decide (s.name=r.name)with|none=>some (found++[r])|some s=>match xB s r with|true=>some found|false=>none
def QV(p q a b c:aX)(found:List Row):ae:=[p,q,a,b,c,.list (found.map Row.obj),.dict (found.map Row.name) (found.map Row.obj)]
theorem Kt:cV (C (k+1)) `told (.d r.obj) []=ret (.d r.tup):=by simp![zg,io]
theorem QW{a b c:aX}(f:found.length<=1000000):Go zA (λσ'=>[p,q,a,b,c]<+:σ') (λY=>True) (λY u=>bK o0 (some (.cell 5)) (some (.cell 6)) o3 u) (QV p q a b c) EU (jmStep found r) (gr (C (k+1)) cq 22 eW r.obj (bK o0 (some (.cell 5)) (some (.cell 6)) o3 w) (QV p q a b c found)):=by injections q p k found r o0 o3 w a b c;rw[ux,qS,Dy];delta de jmStep;simp![aw,ac];rw[SU (c:=6) (ks:=found.map Row.name) (vs:=found.map Row.obj) rfl,BS];cases e:found.find? λs=>decide (s.name=r.name)with|none=>rw[show(!(am6 Row.obj none).isSome)=true from rfl];dsimp![qk,pV,ac];rw[SV (c:=6) (ks:=found.map Row.name) (vs:=found.map Row.obj) rfl (by rw[Vo];rwa[f]),NM e,kC (c:=5) (xs:=found.map Row.obj) rfl (by rw[Vo];rwa[f])];erw[⟨trivial,some (.d r.obj),?_⟩];delta QV;rw[VE,VE];rfl|some s=>rw[show(!((some s).map Row.obj).isSome)=false from rfl];dsimp![oH];delta bD;rw[aw];rw[Ks (c:=6) (ks:=found.map Row.name) (vs:=found.map Row.obj) (d:=s.obj) rfl (by erw[Vn BS ((e)▸?_)];rfl)];simp![ac,Kt,QU];cases xB s r with|true=>rwa[⟨trivial,some (.d r.obj),rfl⟩]|false=>rwa[m_12 _ ⟨_,rfl⟩ rfl]
end
section
noncomputable def Ob.size(o:Ob):Nat:=o.maps.length+o.oct.length+o.syms.length+o.rels.length
noncomputable def iC:List Ob->Nat|[]=>0|o::os=>o.size+iC os
def ou(found:List Row)(o:Ob):Option (List Row):=run jmStep found o.maps
theorem ow{f c:List Row}(h:jmStep f r=some c):c.length<=f.length+1:=by injections c _ r f;delta jmStep at h;cases e:f.find? λs=>decide (s.name=r.name)with|none=>replace h:=(e)▸h;injection h with a;subst a;rwa[(al)▸VM _]|some s=>replace h:=(e)▸h;dsimp only at h;cases b:xB s r with|true=>replace h:=(b)▸h;injection h with a;subst a;rwa[YE _]|false=>replace h:=(b)▸h;rwa[k_nn h]
theorem zE{a:List B->A->Option (List B)}(j:∀{f f' r},a f r=some f'->f'.length<=f.length+1):∀{ys:List A}{f f':List B},run a f ys=some f'->f'.length<=f.length+ys.length:=by intro i;induction i with|nil=>intro f f' h;injection h with d;subst d;rwa[VM _]|cons y ys b=>intro f f' h;dsimp![run]at h;cases e:a f y with|none=>replace h:=(e)▸h;rwa[k_nn h]|some g=>rw[e]at h;have c:=j e;have k:=b h;simp![ar];rwa[a_2 k c]
theorem SW{a b c:aX}{w:Option V×Option V}(i:found.length+iC (o::os)<=1000000):Go zA (λσ'=>[p,q,a,b,c]<+:σ') (λf=>f.length+iC os<=1000000) (λY(u:Option V×Option V)=>bK o0 (some (.cell 5)) (some (.cell 6)) u.1 u.2) (QV p q a b c) EU (ou found o) (gr (C (k+1)) cq 23 il o.obj (bK o0 (some (.cell 5)) (some (.cell 6)) w.1 w.2) (QV p q a b c found)):=by
 injections q p k found os o o0 a b c w;have d:found.length+(o.maps.length+o.oct.length+o.syms.length+o.rels.length+iC os)<=1000000:=i;have key:=kE (U:=C (k+1)) (F:=cq) (n:=22) (s:=eW) (c:=zA) (β:=LR) (ys:=o.maps) (w:=found) (u:=w.2) Row.obj jmStep (λY u=>bK o0 (some (.cell 5)) (some (.cell 6)) (some (.d o.obj)) u) (QV p q a b c) (λys f=>f.length+ys.length<=1000000) (λσ'=>[p,q,a,b,c]<+:σ') (kn:=λl=>ret (.next l)) (kr:=λv=>ret (.ret v)) (a_1 d) λr Y t f u g=>by have g:f.length+(t.length+1)<=1000000:=g;rwa[(QW (k:=k) (p:=p) (q:=q) (a:=a) (b:=b) (c:=c) (found:=f) (r:=r) (o0:=o0) (o3:=some (.d o.obj)) (w:=u) (Vw (VW ..) g)).imp λf' e Y=>by have:=ow e;rwa[a_2 this g]]
 delta ou;clear i;cases e:run jmStep found o.maps with|none=>rw[e]at key;rwa[key]|some f'=>rw[e]at key;obtain⟨-,j,m⟩:=key;have:=zE (λh=>ow h) e;rwa[⟨a_2 this d,(_,j),m⟩]
theorem sg{a b c:aX}(h:iC os<=1000000):C (k+2) `joined_maps [.d (.list (os.map Ob.obj))] [p,q,a,b,c]=match run ou [] os with|some f=>.ok (.d (.list (f.map Row.obj))) [p,q,a,b,c]|none=>.exc zA [p,q,a,b,c]:=by injections q p k os a b c;rw[uw];have key:=kE (U:=C (k+1)) (F:=cq) (n:=23) (s:=il) (c:=zA) (β:=V) (ys:=os) (w:=[]) (u:=(none,none)) Ob.obj ou (λY(u:Option V×Option V)=>bK (some (.d (.list (os.map Ob.obj)))) (some (.cell 5)) (some (.cell 6)) u.1 u.2) (QV p q a b c) (λys f=>f.length+iC ys<=1000000) (λm=>[p,q,a,b,c]<+:m) (kn:=λl=>Sk (C (k+1)) cq 2 l) (kr:=λv=>ret v) (by simp![a5];rw[Wg];rwa[h]) λo Y j f u g=>SW g;cases e:run ou [] os with|none=>rw[e]at key;rwa[zD (σ:=[p,q,a,b,c]) key]|some f=>rw[e]at key;obtain⟨-,i,d⟩:=key;erw[(VT (back false 5) d).trans ?_];rfl
end
section
theorem QX{f:Bool->M β}{l:List Nm}(e:σ[c]?=some (.list (l.map .str))):aa (cmp .In (.d (.str x)) (.cell c)) f σ=f (decide (x∈l)) σ:=by erw[aB (lL ?_)];have:nz (l.map .str)=some (l.map λx=>x):=lh (h:=λx=>x);rwa[by show gP ((dictOf σ (.cell c)).bind _) ((listOf σ (.cell c)).bind λa=>US (.str x) a)=_;simp![fK e,BE e];show(nz (l.map .str)).map (λb=>decide (x∈b))=_;simp![this,XZ];rfl]
theorem Ku(e:σ[c]?=some (.list xs))(b:xs.length+ys.length<=1000000):aa (cV U `extend (.cell c) [.d (.list ys)]) f σ=f (.d .none) (σ.set c (.list (xs++ys))):=by erw[aB (Vn (aB (a:=.lextend) (σ':=σ) (by delta reads;rw[(by delta dO;rw[dj e];kernel_rfl:dO (iT U) `extend (.cell c) σ=some .lextend)])) ?_)];show opt (gL σ (.cell c)) _=_;rw[dj e];show gd (er (xs.length+ys.length) SL) _=_;rw[V0 (show _<=SL from big b)];rfl
noncomputable def jR(base:Nat)(sy:List (Nm×Nat))(p:Nm×Nat):Option (List (Nm×Nat)):=match decide (p.1∈sy.map (·.1))with|true=>none|false=>some (sy++[(p.1,base+p.2)])
def sh(a o:Ob):Option Ob:=match run (jR (a.oct.length/8)) a.syms o.syms with|some sy=>some ⟨[],a.oct++o.oct,sy,a.rels++o.rels.map λr=>(a.oct.length/8+r.1,r.2.1,r.2.2)⟩|none=>none
def NO(p q:aX)(re:List (Nat×Nm×Nm))(sy:List (Nm×Nat)):ae:=[p,q,.list (sy.map bV),.list (re.map c8),.list ((sy.map (·.1)).map .str)]
theorem xD{f:List (Nm×Nat)}(h:jR m f v=some f'):f'.length<=f.length+1:=by delta jR at h;cases e:decide (v.1∈f.map (·.1))with|true=>replace h:=(e)▸h;rwa[k_nn h]|false=>replace h:=(e)▸h;injection h with a;subst a;rwa[(al)▸VM _]
theorem QY{u:Option V×Option V}(a:sy.length<=1000000):Go gF (λσ'=>[p,q]<+:σ') (λY=>True) (λY(u:Option V×Option V)=>cC o0 o1 (some (.cell 2)) (some (.cell 3)) (some (.cell 4)) o5 (some (.d (.int (h:Nat)))) u.1 u.2) (NO p q re) EU (jR h sy m) (gr U cB 22 gx (bV m) (cC o0 o1 (some (.cell 2)) (some (.cell 3)) (some (.cell 4)) o5 (some (.d (.int h))) u.1 u.2) (NO p q re sy)):=by delta bV;rw[Nf,GC];delta de jR;rw[QX (c:=4) (l:=sy.map (·.1)) rfl];cases decide (m.1∈sy.map (·.1))with|true=>rwa[m_12 _ ⟨_,rfl⟩ rfl]|false=>dsimp![oH];rw[GD,kC (c:=4) (xs:=(sy.map (·.1)).map .str) rfl (by rw[Vo,Vo];rwa[a]),GE];wtm_at "f";rw[dv,kC (c:=2) (xs:=sy.map bV) rfl (by rw[Vo];rwa[a])];erw[⟨trivial,(some (.d (.str m.1)),some (.d (.int (m.2:Nat)))),?_⟩];delta NO;simp![VE,VE,VE];rfl
theorem SX{a:Ob}{k:Option V}(i:a.size+iC (o::os)<=1000000):Go gF (λσ'=>[p,q]<+:σ') (λa=>a.size+iC os<=1000000) (λa(u:Option V×Option V×Option V×Option V)=>cC k (some (.d (.bytes a.oct))) (some (.cell 2)) (some (.cell 3)) (some (.cell 4)) u.1 u.2.1 u.2.2.1 u.2.2.2) (λa=>NO p q a.rels a.syms) EU (sh a o) (gr U cB 23 eX o.obj (cC k (some (.d (.bytes a.oct))) (some (.cell 2)) (some (.cell 3)) (some (.cell 4)) u.1 u.2.1 u.2.2.1 u.2.2.2) (NO p q a.rels a.syms)):=by
 injections u _ q p U os o a k;have b:a.maps.length+a.oct.length+a.syms.length+a.rels.length+(o.maps.length+o.oct.length+o.syms.length+o.rels.length+iC os)<=1000000:=i;rw[Nd,Gz,lM (big (a_1 b))];simp![fL,ac,Dw];have key:=kE (U:=U) (F:=cB) (n:=22) (s:=gx) (c:=gF) (β:=LR) (ys:=o.syms) (w:=a.syms) (u:=(u.2.2.1,u.2.2.2)) bV (jR (a.oct.length/8)) (λY(z:Option V×Option V)=>cC k (some (.d (.bytes a.oct))) (some (.cell 2)) (some (.cell 3)) (some (.cell 4)) (some (.d o.obj)) (some (.d (.int ((a.oct.length/8:Nat):Int)))) z.1 z.2) (NO p q a.rels) (λys f=>f.length+ys.length<=1000000) (λσ'=>[p,q]<+:σ') (kn:=λl=>Bt U cB 23 eX 2 l) (kr:=λv=>ret (.ret v)) (a_1 b) λr Y j f u d=>by have d:f.length+(j.length+1)<=1000000:=d;rwa[(QY (Vw (VW ..) d)).imp λt e Y=>by have:=xD e;rwa[a_2 this d]]
 delta sh;cases e:run (jR (a.oct.length/8)) a.syms o.syms with
 |none=>rw[e]at key;rwa[key]
 |some sy=>
  simp![e]at key;obtain⟨-,z,g⟩:=key;have m:=zE (λh=>xD h) e;erw[⟨?_,(some (.d o.obj),some (.d (.int ((a.oct.length/8:Nat):Int))),z.1,z.2),g.trans ?_⟩]; ·show 0+(a.oct++o.oct).length+sy.length+(a.rels++o.rels.map _).length+_<=_;simp![al,al,Vo];rwa[a_2 m b]
  ·dsimp only;rw[GA,qV];simp![ac,iZ];delta c8;rw[Ve (λr:Nat×Nm×Nm=>Dat.int (r.1:Nat)) (λr=>.str r.2.1) (λr=>.str r.2.2) (λr=>c8 (a.oct.length/8+r.1,r.2.1,r.2.2)) (big (a_1 b)) (by intro r _ w u z;rfl)];wtm_at "f";rw[dv,Ku (c:=3) (xs:=a.rels.map c8) rfl (by simp![Vo,Vo];rwa[a_1 b]),GB,xw];wtm_at "f";rw[zc (big (a_1 b))];dsimp![NO,EU];rw[VE,VQ (l:=o.rels)];rfl
def gH(os:List Ob):Except Str Ob:=match run sh ⟨[],[],[],[]⟩ os with|none=>.error gF|some a=>match run ou [] os with|none=>.error zA|some f=>.ok ⟨f,a.oct,a.syms,a.rels⟩
theorem GU:∀{os:List Ob}{f g:List Row},run ou f os=some g->g.length<=f.length+iC os:=by intro j;induction j with|nil=>intro f g h;injection h with d;subst d;rwa[VW .. ]|cons o os a=>intro f g h;dsimp![run]at h;cases e:ou f o with|none=>replace h:=(e)▸h;rwa[k_nn h]|some i=>replace h:=(e)▸h;have c:=zE (λh=>ow h) e;have k:=a h;have b:iC (o::os)=o.maps.length+o.oct.length+o.syms.length+o.rels.length+iC os:=rfl;rwa[mM k (so b) c]
theorem p8(h:iC os<=1000000):C (k+3) `join [.d (.list (os.map Ob.obj))] [p,q]=match gH os with|.ok o=>.ok (.d o.obj) [p,q]|.error c=>.exc c [p,q]:=by injections q p k os;simp![Na];simp![Nb,ac,vV rfl,vV rfl,vV rfl];have key:=kE (U:=C (k+2)) (F:=cB) (n:=23) (s:=eX) (c:=gF) (β:=V) (ys:=os) (w:=⟨[],[],[],[]⟩) (u:=(none,none,none,none)) Ob.obj sh (λa(u:Option V×Option V×Option V×Option V)=>cC (some (.d (.list (os.map Ob.obj)))) (some (.d (.bytes a.oct))) (some (.cell 2)) (some (.cell 3)) (some (.cell 4)) u.1 u.2.1 u.2.2.1 u.2.2.2) (λa=>NO p q a.rels a.syms) (λys a=>a.size+iC ys<=1000000) (λr=>[p,q]<+:r) (kn:=λl=>Sk (C (k+2)) cB 2 l) (kr:=λv=>ret v) (by show 0+iC os<=_;rw[Wg];rwa[h]) λo Y m a u d=>SX d;delta gH;cases e:run sh ⟨[],[],[],[]⟩ os with|none=>rw[e]at key;rwa[zD (σ:=[p,q]) key]|some a=>rw[e]at key;obtain⟨d,j,i⟩:=key;have d:a.maps.length+a.oct.length+a.syms.length+a.rels.length+0<=1000000:=d;erw[(VT (back false 2) i).trans ?_];have jm:=sg (k:=k) (p:=p) (q:=q) (a:=.list (a.syms.map bV)) (b:=.list (a.rels.map c8)) (c:=.list ((a.syms.map (·.1)).map .str)) h;dsimp only;erw[(Nc)▸?_];delta NO;simp![dX,dW,aw,ac];cases g:run ou [] os with|none=>replace jm:=(g)▸jm;erw[(gB jm)▸?_];rfl|some f=>rw[g]at jm;rw[aB jm,aB (ki (LA.list (xs:=f.map Row.obj) (by rw[Vo];rwa[Vw (GU g) (by simp![a5,Wg];rwa[h])])) (LA.cell (c:=2) (xs:=a.syms.map bV) rfl (by rw[Vo];rwa[a_1 d])) (LA.cell (c:=3) (xs:=a.rels.map c8) rfl (by rw[Vo];rwa[a_1 d])))];rfl
end
section
theorem zF{ys:List A}(b:A->Dat)(g:A->Option Dat)(L:τ->Ls)(w:τ)(d:ys.length<=16777216)(a:∀y∈ys,∀w,∃c,jg U n sc e (b y) (L w) σ=.ok (L c,g y) σ):bR U n sc e (L w) (.items (ys.map b)) σ=.ok (ys.filterMap g) σ:=yB (r:=.ok _ σ) (tK (σ':=σ) (ds:=ys.filterMap g) (V7 (AA (P:=iT U) (n:=n) (sc:=ai sc (mN e)) (σ:=σ) (t:=(eH 0 e).target) (ifs:=(eH 0 e).ifs) (elt:=gc 0 e) L b g (ys:=ys) d a w) λc e=>⟨_,e⟩) rfl)
theorem NP(L:τ->Ls)(o:τ->ae)(I D:τ->Prop)(m:τ->Nat)(b:∀w,I w->D w/\Dl U F n s (L w) (o w)=.ok false (o w)\/Dl U F n s (L w) (o w)=.ok true (o w)/\∃a,Bt U F n s 0 (L w) (o w)=.ok (.next (L a)) (o a)/\I a/\m a<m w)(i:I w)(l:m w<NN):∃a,I a/\D a/\wh U F n s (L w) kn kr (o w)=kn (L a) (o a):=by
 rwa[((by
  intro j;induction j with
  |zero=>rwa[λw Y h=>absurd h (Zh _)]
  |succ j k=>
   erw[λw i h=>(aw)▸(ba λc=>?_)];rcases b w i with⟨d,e⟩|⟨e,a,g,f,p⟩; ·rwa[c ((aB e)▸ia w i d rfl)]
   ·erw[c ((aB e)▸?_)];rw[aw,aB g];rwa[k a f (XY p (an8 h))]:∀j(w:τ),I w->m w<j->∃a,I a/\D a/\aa (jV (Dl U F n s) (Bt U F n s 0) j (L w)) (tF kn kr) (o w)=kn (L a) (o a))) NN w i l]
theorem SY(e:σ[c]?=some (.list (xs++[d])))(b:xs.length+1<=1000000):aa (cV U `pop (.cell c) []) f σ=f (.d d) (σ.set c (.list xs)):=by erw[aB (Vn (aB (a:=.lpop) (σ':=σ) (by delta reads;rw[(by dsimp![dO];rw[dj e];kernel_rfl:dO (iT U) `pop (.cell c) σ=some .lpop)])) ?_)];show opt (gL σ (.cell c)) _=_;rw[dj e];show gd (er (xs++[d]).length SL) (opt (xs++[d]).getLast? λe=>Res.ok (V.d e) (σ.set c (.list (xs++[d]).dropLast)))=_;simp![ab5,List.dropLast_concat,al,V0 (show xs.length+[d].length<=SL from big b)];rfl
def mx(o:Ob)(b e:Nat):List Nm:=(o.rels.filter λr=>decide (r.2.1=kj)&&(decide (b<=r.1)&&decide (r.1<e))).map (·.2.2)
def jc(o:Ob)(x:Nm)(f:(Nm×Nat)×Nat):List Nm:=match decide (f.1.1=x)with|true=>mx o f.1.2 f.2|false=>[]
def rC(o:Ob)(x:Nm):List Nm:=o.funs.flatMap (jc o x)
def Reach(o:Ob)(x:Nm):Prop:=∀Q:Nm->Prop,(∀p,o.syms.head?=some p->Q p.1)->(∀x y,Q x->y∈rC o x->(symAt o.syms y).isSome=true->Q y)->Q x
theorem BU:(mx o h m).length<=o.rels.length:=by delta mx;rw[Vo];rwa[VP .. ]
theorem xE:∀{fs:List ((Nm×Nat)×Nat)},(fs.flatMap (jc o x)).length<=fs.length*o.rels.length:=by intro b;induction b with|nil=>rwa[WK _]|cons f fs a=>simp![VY,al,ar,YF,Yj];rw[ad5];rwa[VZ a (by delta jc;cases decide (f.1.1=x)with|true=>rwa[BU]|false=>rwa[WK _])]
noncomputable def rest(o:Ob)(found:List Nm):Nat:=(o.syms.filter λp=>!decide (p.1∈found)).length
theorem Kv(h:x∉m)(b:(symAt o.syms x).isSome=true):rest o (m++[x])<rest o m:=by
 delta symAt at b;rw[an5,ao2]at b;erw[x_12 b λp a e=>?_];have e:=VF e;delta rest;rw[show(λp:Nm×Nat=>!decide (p.1∈m++[x]))=λp=>!decide (p.1=x)&&!decide (p.1∈m)by funext p;simp![<-Bool.not_or,WW.mpr (show decide (p.1∈m++[x])=true↔(decide (p.1=x)||decide (p.1∈m))=true by simp[or_comm])]];rw[<-X3];erw[Ye.mpr (m_12 p (V8.mpr ⟨a,?_⟩) ?_)]; ·rw[e,VO h];rfl
 ·rw[Vz e];rwa[Bool.noConfusion]
noncomputable def nS(p q:aX)(f w:List Nm):ae:=[p,q,.list (f.map .str),.list (w.map .str)]
def nL(o:Ob)(o1 o4 o5 o6:Option V):Ls:=aO (some (.d o.obj)) o1 (some (.cell 2)) (some (.cell 3)) o4 o5 o6
theorem Kw{w:List Nm}(b:o.rels.length<=1000000)(a:w.length+o.rels.length<=1000000):gr U aK 22 fF (pW g) (nL o (some (.d (.str x))) o4 o5 o6) (nS p q h w)=.ok (.next (nL o (some (.d (.str x))) (some (.d (.str g.1.1))) (some (.d (.int (g.1.2:Nat)))) (some (.d (.int (g.2:Nat)))))) (nS p q h (w++jc o x g)):=by injections q p U g x o o4 o5 o6 h w;dsimp![pW,nL];simp![GJ,AP,EG,fV];delta jc;cases decide (g.1.1=x)with|false=>rw[VC];rfl|true=>dsimp![qk];rw[qV];simp![ac,iZ];delta c8;rw[Nz (λr:Nat×Nm×Nm=>Dat.int (r.1:Nat)) (λr=>.str r.2.1) (λr=>.str r.2.2) (λr=>decide (r.2.1=kj)&&(decide (g.1.2<=r.1)&&decide (r.1<g.2))) (λr=>.str r.2.2) (big b) (by erw[λr Y w u z=>Vn GL ?_];simp![EG,SK,QI,V1.mpr YI,V1.mpr XX];simp![OX,GP,xr,fV,W0];rw[show T "call"=kj from rfl];cases decide (r.2.1=kj)&&(decide (g.1.2<=r.1)&&decide (r.1<g.2))<;>rfl)];wtm_at "e";rw[dv,Ku (c:=3) (xs:=w.map .str) rfl (by simp![Vo,Vo];rwa[Vw (Xm (VP ..) _) a])];dsimp![nS,mx];simp![VE,VQ];rfl
end
section
def rc(o:Ob)(x:Nm):Bool:= @decide (Reach o x) (ak1 _)
theorem kl:rc o x=true↔Reach o x:= @decide_eq_true_iff _ (ak1 _)
structure NW where
 f:List Nm
 w:List Nm
 a:Option V
 b:Option V
 c:Option V
 d:Option V
def NW.L(o:Ob)(v:NW):Ls:=nL o v.a v.b v.c v.d
def NW.S(p q:aX)(v:NW):ae:=nS p q v.f v.w
def NW.m(o:Ob)(v:NW):Nat:=rest o v.f*(o.funs.length*o.rels.length+1)+v.w.length
structure NI(o:Ob)(v:NW):Prop where
 sound:∀x∈v.f,Reach o x
 want:∀x∈v.w,(symAt o.syms x).isSome=true->Reach o x
 first:∀p,o.syms.head?=some p->p.1∈v.f\/p.1∈v.w
 closed:∀x∈v.f,∀y∈rC o x,(symAt o.syms y).isSome=true->y∈v.f\/y∈v.w
 len:v.f.length+v.m o<=90000
theorem Reach.step(h:Reach o x)(b:y∈rC o x)(d:(symAt o.syms y).isSome=true):Reach o y:=λQ c a=>a x y (h Q c a) b d
theorem Kx(h:o.syms.head?=some m):(symAt o.syms m.1).isSome=true:=by cases e:o.syms with|nil=>replace h:=(e)▸h;rwa[k_nn h]|cons a l=>replace h:=(e)▸h;injection h with b;subst b;delta symAt;dsimp![fo];rw[Vz rfl];rfl
theorem NI.skip(h:NI o v)(e:v.w=w++[x])(c:x∈v.f\/symAt o.syms x=none)(b:v'.f=v.f)(f:v'.w=w):NI o v'/\v'.m o<v.m o:=by
 have i:v'.m o+1=v.m o:=by delta NW.m;simp![b,f,e,al];rfl
 have d:∀y,(symAt o.syms y).isSome=true->y∈v.f\/y∈v.w->y∈v'.f\/y∈v'.w:=by
  intro y k a;rw[b,f];rcases a with a|a; ·rwa[.inl a]
  ·rw[e,VJ,Vy]at a;rcases a with a|a; ·rwa[.inr a]
   ·subst a;rcases c with c|c; ·rwa[.inl c]
    ·replace k:=(c)▸k;rwa[gm k]
 erw[⟨⟨?_,?_,?_,?_,?_⟩,a_1 (m8 i)⟩]; ·rwa[(b)▸h.sound]
 ·rwa[(f)▸λy a=>h.want y ((e)▸Xi _ a)]
 ·rwa[λp g=>d _ (Kx g) (h.first p g)]
 ·rwa[(b)▸λy a z j k=>b▸d z k (h.closed y a z j k)]
 ·have:=h.len;rw[b];rwa[a_2 this (m8 i)]
theorem NI.add(h:NI o v)(e:v.w=w++[x])(k:x∉v.f)(n:(symAt o.syms x).isSome=true)(d:v'.f=v.f++[x])(f:v'.w=w++rC o x):NI o v'/\v'.m o<v.m o:=by
 have i:v'.m o<v.m o:=by delta NW.m;simp![d,f,e,al,al];have q:(rest o (v.f++[x])+1)*(o.funs.length*o.rels.length+1)<=rest o v.f*(o.funs.length*o.rels.length+1):=Zf _ (Kv k n);have m:(rC o x).length<=o.funs.length*o.rels.length:=xE (o:=o) (x:=x) (fs:=o.funs);simp![YF,Yj]at q;rwa[a_2 q m]
 have j:=h.want x ((e)▸Wj _ (Vy.mpr rfl)) n;have c:∀y,y∈v.f\/y∈v.w->y∈v'.f\/y∈v'.w:=by
  intro y a;rw[d,f];rcases a with a|a; ·rwa[.inl (Xi _ a)]
  ·rw[e,VJ]at a;rcases a with a|a; ·rwa[.inr (Xi _ a)]
   ·rwa[.inl (Wj _ a)]
 erw[⟨⟨?_,?_,?_,?_,?_⟩,i⟩]
 ·erw[(d)▸?_];intro y a;rcases VJ.mp a with a|a; ·rwa[h.sound y a]
  ·rw[Vy.mp a];rwa[j]
 ·erw[(f)▸?_];intro y a b;rcases VJ.mp a with a|a; ·rwa[h.want y ((e)▸Xi _ a) b]
  ·rwa[j.step a b]
 ·rwa[λp l=>c _ (h.first p l)]
 ·intro y a z g b;rw[d]at a;rcases VJ.mp a with a|a; ·rwa[c z (h.closed y a z g b)]
  ·rw[Vy.mp a]at g;rw[f];rwa[.inr (Wj _ g)]
 ·have:=h.len;simp![d,al];show v.f.length+1+_<=_;rwa[a_2 this i]
theorem NI.all(h:NI o v)(e:v.w=[]):decide (x∈v.f)=rc o x:=by
 erw[WW.mpr ⟨λa=>kl.mpr (h.sound x (VF a)),λa=>Vz (kl.mp a (· ∈v.f) (λp c=>?_) λy z b d f=>?_)⟩]
 ·rcases h.first p c with h|h; ·rwa[h]
  ·replace h:=(e)▸h;rwa[k_mn h]
 ·rcases h.closed y b z d f with h|h; ·rwa[h]
  ·replace h:=(e)▸h;rwa[k_mn h]
end
variable{v v':NW}
section
theorem GV:∀{fs:List ((Nm×Nat)×Nat)}{w:List Nm},run (λw g=>some (w++jc o x g)) w fs=some (w++fs.flatMap (jc o x)):=by intro b;induction b with|nil=>intro w;simp![Xv,VC];rfl|cons g fs a=>intro w;dsimp![run];erw[Vn a ?_];simp![VY,VA]
theorem Ky{f w:List Nm}(d:o.rels.length<=1000000)(a:w.length+fs.length*o.rels.length<=1000000):∃u:Option V×Option V×Option V,fr U aK 22 fF (nL o (some (.d (.str x))) o4 o5 o6) EU (λv=>ret (.ret v)) (.items (fs.map pW)) (nS p q f w)=.ok (.next (nL o (some (.d (.str x))) u.1 u.2.1 u.2.2)) (nS p q f (w++fs.flatMap (jc o x))):=by have e:=kE (U:=U) (F:=aK) (n:=22) (s:=fF) (c:=gF) (β:=LR) (ys:=fs) (w:=w) (u:=(o4,o5,o6)) pW (λw g=>some (w++jc o x g)) (λY(u:Option V×Option V×Option V)=>nL o (some (.d (.str x))) u.1 u.2.1 u.2.2) (nS p q f) (λys w=>w.length+ys.length*o.rels.length<=1000000) (λY=>True) (kn:=EU) (kr:=λv=>ret (.ret v)) a (by intro y _ zs w u a;simp![ar,YF,Yj]at a;erw[⟨?_,(_,_,_),Kw d (a_1 a)⟩];have b:=xE (o:=o) (x:=x) (fs:=[y]);simp![VY,Xv,VC,show [y].length=1 from rfl,Yj]at b;dsimp only;rw[al];rwa[a_2 b a]);simp![GV]at e;rwa[e.2]
theorem GW(d:o.Fit)(m:o.funs.length*o.rels.length<=90000)(h:NI o v)(n:v.w≠[]):∃v',Bt (C (k+2)) aK 23 cZ 0 (v.L o) (v.S p q)=.ok (.next (v'.L o)) (v'.S p q)/\NI o v'/\v'.m o<v.m o:=by
 injections p _ q k o v;erw[ba λr=>?_];obtain⟨w,x,e⟩:∃w x,v.w=w++[x]:=nv _ _ (List.dropLast_concat_getLast n).symm;have a:=h.len;have j:v.w.length<=v.m o:=Zn ..;have b:v.w.length=w.length+1:=by simp![e,al];rfl
 erw[r ?_];dsimp![NW.L,NW.S];dsimp![nL,nS];erw[(AL)▸?_];rw[e,VE,SY (c:=3) (xs:=w.map .str) rfl (by rw[Vo];rwa[mM (so b) j a]),AM];delta de;delta hO;rw[aw];rw[QX (c:=2) (l:=v.f) rfl];cases i:decide (x∈v.f)with|true=>rwa[m_12 ⟨v.f,w,some (.d (.str x)),v.b,v.c,v.d⟩ rfl (h.skip e (.inl (VF i)) rfl rfl)]|false=>simp![OY,jw];simp![ac,UI];cases t:symAt o.syms x with|none=>rwa[m_12 ⟨v.f,w,some (.d (.str x)),v.b,v.c,v.d⟩ rfl (h.skip e (.inr t) rfl rfl)]|some g=>dsimp![Option.isNone];dsimp![ac,oH];rw[AN,kC (c:=2) (xs:=v.f.map .str) rfl (by rw[Vo];rwa[a_1 a]),AO,Dz,fM d];obtain⟨u,s⟩:=Ky (U:=C (k+2)) (o:=o) (p:=p) (q:=q) (x:=x) (f:=v.f++[x]) (w:=w) (fs:=o.funs) (o4:=v.b) (o5:=v.c) (o6:=v.d) d.rels (D4 (so b) j a m);erw[m_12 ⟨v.f++[x],w++rC o x,some (.d (.str x)),u.1,u.2.1,u.2.2⟩ (Vn ?_ s) (h.add e (WX i) (by erw[(t)▸?_];rfl) rfl rfl)];delta nS;rw[VE];rfl
theorem NI.init(j:NW.m o ⟨[],(o.syms.take 1).map (·.1),m,w,y,D⟩<=80000):NI o ⟨[],(o.syms.take 1).map (·.1),m,w,y,D⟩:=by
 have e:(o.syms.take 1).map (·.1)=o.syms.head?.toList.map (·.1):=by obtain⟨⟩:=o.syms<;>rfl
 erw[⟨λx f=>(nomatch f),λx f Y Q i Y=>?_,λp h=>.inr ?_,λx f=>(nomatch f),?_⟩]; ·simp![e]at f;rwa[x_12 (VI.mp f) λp h g=>(g)▸i p (Option.mem_toList.mp h)]
 ·simp![e,h];rwa[Vy.mpr rfl]
 ·simp![a5,Wg];rwa[lb j]
theorem vo(a:o.Fit)(b:(o.syms.length+1)*(o.funs.length*o.rels.length+1)<=80000):C (k+3) `needed [.d o.obj] [p,q]=.ok (.d (.list (((o.syms.map (·.1)).filter (rc o)).map .str))) [p,q]:=by
 injections q p k o;simp![GF];rw[GG,vV rfl,oo];simp![ac,fL,aw];rw[jA (l:=none) (h:=some 1) rfl rfl (by rw[Vo];rwa[a.syms])];simp![ac,fL,iZ];erw[((by simp![Zc];rfl:cut none (some 1) (o.syms.map bV)=(o.syms.take 1).map bV))▸?_];have d:bR (C (k+2)) 22 aK.sc n5 (z1::(`name,none)::(`slot,none)::aO (some (.d o.obj)) none none none none none none) (.items ((o.syms.take 1).map bV))=ret ((o.syms.take 1).map λs=>.str s.1):=Tw (λs:Nm×Nat=>Dat.str s.1) (λs=>.int (s.2:Nat)) (λs=>.str s.1) (lb (Xn ..)) λr Y w u=>by rfl
 erw[(d)▸?_];have i:rest o []*(o.funs.length*o.rels.length+1)<=o.syms.length*(o.funs.length*o.rels.length+1):=Zf _ (VP ..);simp![YF,Yj]at b;have e:NW.m o ⟨[],(o.syms.take 1).map (·.1),none,none,none,none⟩<=80000:=by show rest o []*_+((o.syms.take 1).map (·.1)).length<=_;rw[Vo];have:(o.syms.take 1).length<=1:=Xn ..;rwa[mM this i b]
 erw[ba λf=>gJ (NP (U:=C (k+2)) (F:=aK) (n:=23) (s:=cZ) (NW.L o) (NW.S p q) (NI o) (λv=>v.w=[]) (NW.m o) (kn:=λl=>Sk (C (k+2)) aK 2 l) (kr:=λv=>ret v) (w:=⟨[],(o.syms.take 1).map (·.1),none,none,none,none⟩) (by intro v hv;simp![(by dsimp![NW.L,nL];rw[GI,DG (c:=3) (xs:=v.w.map .str) rfl]:Dl (C (k+2)) aK 23 cZ (v.L o) (v.S p q)=.ok (!(v.w.map Dat.str).isEmpty) (v.S p q)),Y8];cases g:v.w with|nil=>rwa[.inl ⟨rfl,rfl⟩]|cons x l=>rwa[.inr ⟨rfl,GW a (a_1 b) hv ((g)▸λh=>k_cn h)⟩]) (NI.init e) (Wv e (XY #v[] hN))) λv hv hd j=>f ((VT (back false 2) (Vn (by dsimp![NW.L,NW.S,nL,nS];simp![VQ];rfl) j)).trans ?_)];dsimp![NW.S,NW.L,nL,nS];rw[GH,oo];simp![ac,iZ];rw[hd];dsimp![aa,cu,aa];rw[(by erw[zF (λs:Nm×Nat=>bV s) (λs=>if rc o s.1=true then some (Dat.str s.1)else none) (λu:Option V×Option V=>z1::(`name,u.1)::(`slot,u.2)::aO (some (.d o.obj)) v.a (some (.cell 2)) (some (.cell 3)) v.b v.c v.d) (none,none) (big a.syms) λs Y u=>⟨(some (.d (.str s.1)),some (.d (.int (s.2:Nat)))),?_⟩];dsimp![bV];rw[GK];delta de;rw[aw];erw[Vn (QX (c:=2) (l:=v.f) rfl) ?_];rw[hv.all hd];cases rc o s.1<;>rfl:bR (C (k+2)) 22 aK.sc n6 (z1::(`name,none)::(`slot,none)::aO (some (.d o.obj)) v.a (some (.cell 2)) (some (.cell 3)) v.b v.c v.d) (.items (o.syms.map bV)) [p,q,.list (v.f.map .str),.list ([].map .str)]=.ok (o.syms.filterMap λs=>if rc o s.1=true then some (Dat.str s.1)else none) [p,q,.list (v.f.map .str),.list ([].map .str)]),BB (p:=λs:Nm×Nat=>rc o s.1) (h:=λs=>Dat.str s.1),List.filter_map,VQ];rfl
end
section
noncomputable def LM(b e:Nat)(r:Nat×Nm×Nm):Bool:=decide (b<=r.1)&&decide (r.1<e)
def jd(o a:Ob)(f:(Nm×Nat)×Nat):Ob:=match rc o f.1.1 with|true=>⟨[],a.oct++(o.oct.take (8*f.2)).drop (8*f.1.2),a.syms++[(f.1.1,a.oct.length/8)],a.rels++(o.rels.filter (LM f.1.2 f.2)).map λr=>(a.oct.length/8+r.1-f.1.2,r.2.1,r.2.2)⟩|false=>a
def ci(o:Ob):Ob:=o.funs.foldl (jd o) ⟨[],[],[],[]⟩
def rD(rels:List (Nat×Nm×Nm)):List Nm:=(rels.filter λr=>decide (r.2.1=iI)).map (·.2.2)
def my(o:Ob):Ob:=⟨o.maps.filter λr=>decide (r.name∈rD (ci o).rels),(ci o).oct,(ci o).syms,(ci o).rels⟩
structure Ob.Sm(o:Ob):Prop where
 fit:o.Fit
 a:(o.syms.length+1)*(o.funs.length*o.rels.length+1)<=80000
 b:(o.syms.length+1)*(o.oct.length+o.rels.length+1)<=80000
 at':∀p∈o.syms,p.2<=100000
noncomputable def Ob.w(a:Ob):Nat:=a.oct.length+a.syms.length+a.rels.length
theorem Kz{a:Ob}{f:(Nm×Nat)×Nat}:(jd o a f).w<=a.w+(o.oct.length+o.rels.length+1):=by dsimp![jd,Ob.w];cases rc o f.1.1 with|false=>rwa[VW .. ]|true=>simp![al,al,Vo,WD,WC];have h:[(f.1.1,a.oct.length/8)].length=1:=rfl;grind
def KA(p q:aX)(a:Ob):ae:=[p,q,.list (a.syms.map bV),.list (a.rels.map c8)]
def KB(o:Ob)(kept:List Nm)(a:Ob)(u:Option V×Option V×Option V×Option V):Ls:=bH (some (.d o.obj)) (some (.d (.list (kept.map .str)))) (some (.d (.bytes a.oct))) (some (.cell 2)) (some (.cell 3)) u.1 u.2.1 u.2.2.1 u.2.2.2 none
theorem DI{a:Ob}(d:o.Fit)(k:a.w+(o.oct.length+o.rels.length+1)<=80000)(g:m.1.2<=100000/\m.2<=100000)(h:decide (m.1.1∈kept)=rc o m.1.1):∃j,gr U bQ 23 gW (pW m) (KB o kept a u) (KA p q a)=EU (KB o kept (jd o a m) j) (KA p q (jd o a m)):=by injections u _ q p U kept o m a;have b:a.oct.length+a.syms.length+a.rels.length+(o.oct.length+o.rels.length+1)<=80000:=k;dsimp![pW,KB];simp![JN,Dq,kh,h,fV];delta jd;cases rc o m.1.1 with|false=>rwa[⟨(_,_,_,_),rfl⟩]|true=>rw[lM (big (a_1 b))];wtm_at "d";simp![dv];delta KA;rw[kC (c:=2) (xs:=a.syms.map bV) rfl (by rw[Vo];rwa[a_1 b]),qV];simp![ac,iZ];delta c8;rw[Nz (λr:Nat×Nm×Nm=>Dat.int (r.1:Nat)) (λr=>.str r.2.1) (λr=>.str r.2.2) (LM m.1.2 m.2) (λr=>c8 (a.oct.length/8+r.1-m.1.2,r.2.1,r.2.2)) (big d.rels) (by intro r _ w u z;simp![JQ,SK,QI,V1.mpr YI,V1.mpr XX];simp![OX,GP,fV];simp![show(decide (m.1.2<=r.1)&&decide (r.1<m.2))=LM m.1.2 m.2 r from rfl];cases e:LM m.1.2 m.2 r with|false=>rfl|true=>have i:m.1.2<=r.1:=VF (Ze.mp e).1;dsimp![qk,J3,fL,ac];simp![BG,show((a.oct.length/8+r.1:Nat):Int)-(m.1.2:Nat)=((a.oct.length/8+r.1-m.1.2:Nat):Int)from(Int.ofNat_sub (Vw i (Zn ..))).symm];rfl)];wtm_at "e";rw[dv,Ku (c:=3) (xs:=a.rels.map c8) rfl (by simp![Vo,Vo];have:(o.rels.filter (LM m.1.2 m.2)).length<=o.rels.length:=VP ..;rwa[a_2 this b]),xw];wtm_at "d";rw[uW (gC (a_1 (Vt 8 g.1))) (gC (a_1 (Vt 8 g.2))) d.oct];wtm_at "d";rw[zc (by delta cut;rw[WD];rw[WC];rwa[big (mM b (Y6 (min (8*m.snd) o.oct.length) ((some (8*m.fst.snd)).getD 0)) (XN (8*m.snd) o.oct.length))])];erw[⟨(some (.d (.str m.1.1)),some (.d (.int (m.1.2:Nat))),some (.d (.int (m.2:Nat))),some (.d (.int ((a.oct.length/8:Nat):Int)))),?_⟩];rw[VE,VE,VQ (l:=o.rels.filter _)];rfl
theorem lU{a:τ->A->τ}:∀{ys:List A}{w:τ},run (λw y=>some (a w y)) w ys=some (ys.foldl a w):=by intro c;induction c with|nil=>rwa[rfl]|cons _ _ b=>rwa[b]
theorem xF(h:o.Sm):C (k+4) `strip [.d o.obj] [p,q]=.ok (.d (my o).obj) [p,q]:=by
 injections q p k o;have i:=h.b;have x:o.funs.length*(o.oct.length+o.rels.length+1)<=o.syms.length*(o.oct.length+o.rels.length+1):=Zf _ (by delta Ob.funs;rw[Zm];rwa[X5 .. ]);rw[YF,Yj]at i;simp![JI];rw[JJ,aB (vo h.fit h.a)];dsimp![ac];rw[vV rfl,vV rfl,JK,Dz,fM h.fit];have D:=kE (U:=C (k+3)) (F:=bQ) (n:=23) (s:=gW) (c:=gF) (β:=V) (ys:=o.funs) (w:=⟨[],[],[],[]⟩) (u:=(none,none,none,none)) pW (λa f=>some (jd o a f)) (λa u=>KB o ((o.syms.map (·.1)).filter (rc o)) a u) (KA p q) (λys a=>a.w+ys.length*(o.oct.length+o.rels.length+1)<=80000) (λY=>True) (kn:=λl=>Sk (C (k+3)) bQ 2 l) (kr:=λv=>ret v) (by show 0+_<=80000;rwa[a_2 x i]) (by
  intro f y ys a u b;simp![ar,YF]at b;rw[Yj]at b;have g:=aq7 y;have m:f.2<=100000:=by
   rcases VJ.mp g.2 with d|d; ·rwa[x_12 (VI.mp d) λp B e=>(e)▸h.at' p (Xh B)]
   ·rw[Vy.mp d];delta Ob.count;rwa[a_2 (Nat.div_mul_le_self o.oct.length 8) b]
  obtain⟨j,e⟩:=DI (U:=C (k+3)) (p:=p) (q:=q) (a:=a) (u:=u) (kept:=(o.syms.map (·.1)).filter (rc o)) h.fit (by grind) ⟨h.at' f.1 g.1,m⟩ (WW.mpr (by rw[decide_eq_true_iff,V8];rwa[⟨λh=>h.2,λh=>⟨VI.mpr (m_12 f.1 g.1 rfl),h⟩⟩]));rwa[⟨Vw (by have:=Kz (o:=o) (a:=a) (f:=f);rwa[a_1 this]) b,j,e⟩]);simp![lU]at D;erw[ba λt=>?_];obtain⟨b,u,e⟩:=D;erw[t ((VT (back false 2) e).trans ?_)];rw[show o.funs.foldl (jd o) ⟨[],[],[],[]⟩=ci o from rfl]at b⊢;have b:(ci o).oct.length+(ci o).syms.length+(ci o).rels.length+0*_<=80000:=b;rw[Nat.zero_mul]at b;delta KB KA;dsimp only;rw[JL];delta cu;have A:bR (C (k+3)) 22 bQ.sc qT (z1::(`slot,none)::(`way,none)::(`name,none)::bH (some (.d o.obj)) (some (.d (.list (((o.syms.map (·.1)).filter (rc o)).map .str)))) (some (.d (.bytes (ci o).oct))) (some (.cell 2)) (some (.cell 3)) u.1 u.2.1 u.2.2.1 u.2.2.2 none) (.items ((ci o).rels.map c8))=ret (((ci o).rels.filter λr=>decide (r.2.1=iI)).map λr=>.str r.2.2):=Nz (λr:Nat×Nm×Nm=>Dat.int (r.1:Nat)) (λr=>.str r.2.1) (λr=>.str r.2.2) (λr=>decide (r.2.1=iI)) (λr=>.str r.2.2) (big (a_1 b)) λr Y w u z=>by simp![JO,EG,show T "map"=iI from rfl];cases decide (r.2.1=iI)<;>rfl
 simp![aw];simp![QR];rw[aB (zv rfl A)];dsimp![ac];rw[JM,u4];wtm_at "e";rw[(by delta rD;rw[VQ];rfl:((ci o).rels.filter λr=>decide (r.2.1=iI)).map (λr:Nat×Nm×Nm=>Dat.str r.2.2)=(rD (ci o).rels).map .str),Ny Row.obj (λr=>decide (r.name∈rD (ci o).rels)) Row.obj (big h.fit.maps) (by erw[λr Y w=>Vn JP ((Dy)▸?_)];simp![ac,kh,fV];cases decide (r.name∈rD (ci o).rels)<;>rfl)];wtm_at "e";rw[aB (ki (LA.list (xs:=(o.maps.filter λr=>decide (r.name∈rD (ci o).rels)).map Row.obj) (by rw[Vo];rwa[Vw (VP ..) h.fit.maps])) (LA.cell (c:=2) (xs:=(ci o).syms.map bV) rfl (by rw[Vo];rwa[a_1 b])) (LA.cell (c:=3) (xs:=(ci o).rels.map c8) rfl (by rw[Vo];omega)))]at⊢;rfl
end
section
theorem xG(c:A->Dat)(L:τ->Ls)(I:List A->τ->ae->Prop):∀{ys:List A}{w:τ}{σ:ae},I ys w σ->(∀y∈ys,∀e w σ,I (y::e) w σ->∃b σ',gr U F n s (c y) (L w) σ=.ok (.next (L b)) σ'/\I e b σ')->∃b σ',I [] b σ'/\fr U F n s (L w) kn kr (.items (ys.map c)) σ=kn (L b) σ':=by intro v19;induction v19 with|nil=>intro w σ i _;rwa[m_22 w σ i rfl]|cons y ys j=>intro w σ i a;erw[d6 (a y (Vv ..) ys w σ i) λm f k i1=>d6 (j i1 λz l=>a z (VB _ l)) λh d i2 g=>m_22 h d i2 (Vn ?_ g)];simp![BD,BD];show aa (aa (gr U F n s (c y) (L w)) _) _ σ=_;rw[aw,aB k]
theorem O2{ys:List A}(f:A->Dat)(L:τ->Ls)(I:List A->List Dat->ae->Prop)(i:I ys [] σ)(a:∀y k acc w σ,I (y::k) acc σ->acc.length<=1000000/\∃b d σ',jg U n sc e (f y) (L w) σ=.ok (L b,some d) σ'/\I k (acc++[d]) σ'):∃ds σ',I [] ds σ'/\bR U n sc e (L w) (.items (ys.map f)) σ=.ok ds σ':=by
 have v:∀(ys:List A)(acc:List Dat)(w:τ)(σ:ae),I ys acc σ->∃b ds σ',aD (vJ (iT U) n) (eH 0 e).target (eH 0 e).ifs (ai sc (mN e)) (compElt (vU (iT U) n) (ai sc (mN e)) (gc 0 e)) (ys.map f) (L w) acc σ=.ok (L b,ds) σ'/\I [] ds σ':=by intro ys;induction ys with|nil=>rwa[λacc w σ h=>m_32 w acc σ rfl h]|cons y ys t=>erw[λacc w σ h=>ba λg=>?_];obtain⟨l,s,d,c,u,i1⟩:=a y ys acc w σ h;rwa[fi (t (acc++[d]) s c i1) λp x j o i2=>g (m_32 p x j ((mr (big l) u).trans o) i2)]
 rwa[ba λg=>fi (v ys [] w σ i) λb ds σ' q m=>g (m_22 ds σ' m (yB (r:=.ok _ σ') (tK (σ':=σ') (ds:=ds) ⟨_,q⟩ rfl)))]
noncomputable def penM(n w:Nat):aX:=.list [.int n,.int w]
theorem DJ:aa (bD (ay (.cell 0) (.d (.int 0)))) f (penM m w::σ)=f (.d (.int m)) (penM m w::σ):=rfl
theorem KC:aa (bD (ay (.cell 0) (.d (.int 1)))) f (penM m w::σ)=f (.d (.int w)) (penM m w::σ):=rfl
theorem KD{f:Unit->M β}:aa (dq (.cell 0) (.d (.int 0)) (.int i)) f (penM m w::σ)=f () (penM i w::σ):=rfl
theorem QZ{f:Unit->M β}:aa (dq (.cell 0) (.d (.int 1)) (.int i)) f (penM m w::σ)=f () (penM m i::σ):=rfl
theorem BV(h:binI op w y=some D):af op (.d (.int w)) (.d (.int y))=ret (Dat.int D):=by funext σ;erw[ju (m:=lift ((binI op w y).map Dat.int) σ) ((h)▸?_)];rfl
theorem DK(h:1<=i):af .Mod (.d (.int (m:Nat))) (.d (.int i))=ret (.int ((m %i:Nat):Int)):=by erw[BV ?_];show(match decide ((i:Int)=0)with|true=>none|false=>some ((m:Int).fmod i):Option Int)=_;rw[VO (by lia),ZF _ (Wf i)];rfl
theorem DL(h:1<=i)(a:i<2^100):af .FloorDiv (.d (.int (m:Nat))) (.d (.int i))=ret (.int ((m/i:Nat):Int)):=by erw[BV ?_];show(match decide ((i:Int)=0)||! nf i (2^100)with|true=>none|false=>some ((m:Int).fdiv i):Option Int)=_;rw[VO (by lia),W9.mpr a,Wq _ (Wf i)];rfl
theorem xH(h:1<=i)(a:i<2^100):Sk U dS 1 (dT (some (.cell 0)) (some (.d (.int i))) none) (penM m w::σ)=.ok (.d (.int ((m %i:Nat):Int))) (penM (m/i) w::σ):=by simp![AS];simp![aw,DJ,DK h,fL,ac,AU,aw,DJ,DL h a,fL,ac,pV,ac,KD,AV];rfl
theorem cS(g:w<=1000000)(h:1<=i)(f:i<2^100):∃d c b,d<i/\b<=w+1/\C (k+1) `_law_draw [.cell 0,.d (.int i)] (penM m w::σ)=.ok (.d (.int d)) (penM c b::σ):=by
 injections m _ k i σ w;have a:∀{d c b:Nat}{x:Res V},x=.ok (.d (.int d)) (penM c b::σ)->back false (penM m w::σ).length x=.ok (.d (.int d)) (penM c b::σ):=by rintro d c b _ rfl;show Res.ok _ (aq1 (σ.length+1) (penM c b::σ))=_;rw[ae5,XQ]
 rw[AQ,AR];unfold de;rw[aw,DJ,SH,c7];cases decide ((m:Int)=0)with
 |false=>rwa[⟨_,_,_,ZD _ h,YE _,a (xH h f)⟩]
 |true=>
  rw[Tu,aw,KC,QE,Ck,c7,OV,c7,QZ,aw,aw,aw,KC,uO (by rw[show short 2038=true by decide,Bool.true_or]),Ck,c7,SG,Ck,c7];have e:af .Pow (.d (.int (2038*((w+1:Nat):Int)+7013))) (.d (.int 9))=ret (.int (((2038*(w+1)+7013)^9:Nat):Int)):=by erw[BV ?_];show(match short (2038*((w+1:Nat):Int)+7013)&&decide ((0:Int)<=9)&&decide ((9:Int)<=1000000)with|true=>some ((2038*((w+1:Nat):Int)+7013)^9)|false=>none:Option Int)=_;have j:2038*((w+1:Nat):Int)+7013=((2038*(w+1)+7013:Nat):Int):=rfl;rw[j,show short ((2038*(w+1)+7013:Nat):Int)=true from W9.mpr (show 2038*(w+1)+7013<18446744073709551616 from a_1 (Vt 2038 g)),<-ar0];rfl
  rw[e,Ck,c7,OV,c7,KD];rwa[⟨_,_,_,ZD _ h,VM _,a (xH h f)⟩]
theorem NQ{i:List Int}(f:i.length<=1000000):∃m,C (k+1) `_law_pen [.d (.list (i.map .int))] []=.ok (.cell 0) [penM m 0]:=by
 injections k i;simp![Dr,Ds,Dt];rw[jA (l:=none) (h:=some 24) rfl rfl (by rw[Vo];rwa[f])];erw[(show cut none (some 24) (i.map Dat.int)=(i.take 24).map .int by rw[Zc];rfl)▸(ba λd=>?_)];erw[d6 (xG (U:=C k) (F:=dH) (n:=23) (s:=ii) (β:=V) (ys:=i.take 24) (σ:=[]) (w:=(13,none)) (kn:=λl=>Sk (C k) dH 2 l) (kr:=λv=>ret v) Dat.int (λu:Nat×Option V=>fg (some (.d (.list (i.map .int)))) (some (.d (.int (u.1:Nat)))) u.2) (λY u σ=>σ=[]) rfl (by
  rintro y _ g⟨m,u⟩σ rfl;simp![Du,yN];rw[uO (by rw[show short 1019=true by rfl,Z4])];rw[show bi `int [.d (.int y)]=ret (.int y)by kernel_rfl];wtm_at "e";erw[(show bi `abs [.d (.int y)]=ret (.int (y.natAbs:Nat))by kernel_rfl)▸?_];wtm_at "e";rw[uO (by rw[show short 2=true by rfl,Bool.true_or])];obtain⟨b,c⟩:∃b:Nat,bi `int [.d (.bool (decide (y<0)))]=ret (.int b):=by cases decide (y<0)with|true=>rwa[⟨1,∅⟩]|false=>rwa[⟨0,∅⟩]
  rw[c];wtm_at "f";simp![J2,show af .Pow (.d (.int 10)) (.d (.int 40))=ret (.int ((10^40:Nat):Int))by kernel_rfl,show 2*(y.natAbs:Int)+b=((2*y.natAbs+b:Nat):Int)by lia];simp![fL,ac];rw[DK (Nat.pos_of_ne_zero #v[])];rwa[m_22 (_,_) _ rfl rfl])) λw j a e=>?_];subst a;erw[d ⟨w.1,(VT (back true 0) e).trans ?_⟩];rfl
end
section
theorem pick_run(g:w<=1000000)(h:xs≠[])(c:xs.length<=1000):∃d b a,d∈xs/\a<=w+1/\C (k+2) `_law_pick [.cell 0,.d (.list xs)] (penM m w::σ)=.ok (.d d) (penM b a::σ):=by simp![AW,AX,JW (big (lb c))];wtm_at "e";erw[ba λj=>bw (cS (k:=k) (σ:=σ) (m:=m) (i:=xs.length) g (WF.mpr h) (Wv c #v[])) λd b a hd f e=>j ?_];simp![aw,aB e,JY hd (big (lb c))];erw[m_33 _ b a (Y7 hd) f ?_];rw[VL,VG hd];show Res.ok _ (aq1 (σ.length+1) (penM b a::σ))=_;dsimp![ae5];rw[XQ];rfl
def signs:Nm:=T "abcdefghijklmnopqrstuvwxyz0123456789_"
def SZ:Nm:=T "0123456789"
structure vp(z:Nm):Prop where
 ne:z≠[]
 first:SZ.contains (z.getD 0 0)=false
 all:z.all signs.contains=true
theorem vp.app(h:vp z)(b:signs.contains c=true):vp (z++[c]):=by
 erw[⟨λe=>?_,?_,?_⟩]; ·rwa[h.ne (Xr.mp e).1]
 ·have:=h.first;cases z with|nil=>rwa[absurd rfl h.ne]|cons a l=>rwa[this]
 ·simp![List.all_append];simp![h.all,a6,b];rfl
theorem vp.name(h:vp z)(a:z.length<=15):dk z=true:=by delta dk;rw[W9.mpr (WF.mpr h.ne)];simp![V0 a,show(T "0123456789").contains (z.getD 0 0)=false from h.first,show z.all (T "abcdefghijklmnopqrstuvwxyz0123456789_").contains=true from h.all];rfl
theorem KE:(T "abcdefghijklmnopqrstuvwxyz_").length=27/\∀i<27,signs.contains ((T "abcdefghijklmnopqrstuvwxyz_").getD i 0)=true/\SZ.contains ((T "abcdefghijklmnopqrstuvwxyz_").getD i 0)=false:=⋯
theorem S0:signs.length=37/\∀i<37,signs.contains (signs.getD i 0)=true:=⋯
theorem GX{u:Option V}{t:aX}(l:w<=1000000)(n:vp z)(h:z.length<=1000):∃c b a,signs.contains c=true/\a<=w+1/\gr (C (k+1)) aJ 22 fh d (aL (some (.cell 0)) o1 o2 o3 o4 (some (.d (.str z))) u) [penM m w,t]=.ok (.next (aL (some (.cell 0)) o1 o2 o3 o4 (some (.d (.str (z++[c])))) (some (.d d)))) [penM b a,t]:=by erw[ba λg=>bw (cS (k:=k) (σ:=[t]) (m:=m) (i:=37) l #v[] #v[]) λj b a hd f e=>g (m_33 (signs.getD j 0) b a (S0.2 j hd) f ?_)];rw[yS,uE,aw,aw,show(37:Int)=((37:Nat):Int)from rfl,aB e,kb (s:=T "abcdefghijklmnopqrstuvwxyz0123456789_") (hd) #v[]];dsimp![fL,ac];rw[eP (lb (WB h))];rfl
theorem GY{found:List Nm}(hw:w<=990000)(I:found.length<=1000)(L:i<tails.length)(K:tails.length<=100)(hs:signs.contains (tails.getD i 0)=true):∃x A g M p6,dk x=true/\x.getLast?=some (tails.getD i 0)/\g<=w+15/\gr (C (k+2)) aJ 23 bM (.int i) (aL (some (.cell 0)) o1 (some (.d (.str tails))) (some (.cell 1)) o4 o5 o6) [penM m w,.list (found.map .str)]=.ok (.next (aL (some (.cell 0)) o1 (some (.d (.str tails))) (some (.cell 1)) (some (.d (.int i))) M p6)) [penM A g,.list ((found++[x]).map .str)]:=by
 injections o4 o5 m _ k i tails w o1 o6 found;erw[ba λhG=>bw (cS (k:=k+1) (σ:=[.list (found.map .str)]) (m:=m) (w:=w) (i:=27) (a_1 hw) #v[] #v[]) λj m1 H hd hw1 e=>hG ?_];simp![yR,uB,aw,show(27:Int)=((27:Nat):Int)from rfl,aB e,kb ((KE.1)▸hd) #v[]];dsimp![fL,ac];simp![uC];wtm_at "f";erw[ba λhG=>bw (pick_run (k:=k) (σ:=[.list (found.map .str)]) (m:=m1) (w:=H) (xs:=[.int 0,.int 1,.int 2,.int 13]) (a_2 hw1 hw) (λh=>k_cn h) #v[]) λd m2 r hd2 hw2 E=>?_];obtain⟨c,q,rfl⟩:∃c:Nat,c<=13/\d=.int c:=by
  simp![VD,Xb,YQ]at hd2;rcases hd2 with rfl|rfl|rfl|rfl; ·rwa[m_12 0 #v[] rfl]
  ·rwa[m_12 1 #v[] rfl]
  ·rwa[m_12 2 #v[] rfl]
  ·rwa[m_12 13 #v[] rfl]
 erw[hG ?_];simp![aw];rw[aB E];dsimp![ac];rw[hZ (lb q)];dsimp![ac];erw[d6 (xG (U:=C (k+2)) (F:=aJ) (n:=22) (s:=fh) (β:=LR) (ys:=eg c) (σ:=[penM m2 r,.list (found.map .str)]) (w:=([(T "abcdefghijklmnopqrstuvwxyz_").getD j 0],o6)) (kn:=λl=>Bt (C (k+2)) aJ 23 bM 2 l) (kr:=λv=>ret (.ret v)) (λj:Nat=>Dat.int j) (λv:Nm×Option V=>aL (some (.cell 0)) o1 (some (.d (.str tails))) (some (.cell 1)) (some (.d (.int i))) (some (.d (.str v.1))) v.2) (λys v σ=>∃m g,σ=[penM m g,.list (found.map .str)]/\g+ys.length<=r+c/\v.1.length+ys.length<=14/\vp v.1) (Hg m2 r rfl ((VN)▸VM _) (by erw[(VN)▸?_];show 1+c<=14;rwa[a_1 q]) ⟨λh=>k_cn h,(KE.2 j hd).2,by dsimp![List.all_cons];rw[(KE.2 j hd).1];rfl⟩) (by intro y _ N b σ q50285;obtain⟨z,u⟩:=b;erw[LZ q50285 λm g q5022 f hl hz=>?_];subst q5022;simp![ar]at f hl;rwa[bw (GX (k:=k+1) (m:=m) (w:=g) (z:=z) (o1:=o1) (o2:=some (.d (.str tails))) (o3:=some (.cell 1)) (o4:=some (.d (.int i))) (u:=u) (d:=.int y) (t:=.list (found.map .str)) (Ug f hw2 q hw1 hw) hz (a_1 hl)) λc' A D B o e'=>⟨(z++[c'],some (.d (.int y))),_,e',A,D,rfl,a_2 o f,by rw[al];show z.length+1+_<=14;rwa[a_1 hl],hz.app B⟩])) λv σ' q132 G=>?_];erw[LZ q132 λm3 J p hw3 a hz=>?_];subst p;erw[(G)▸?_];obtain⟨z,u⟩:=v;have a:z.length+0<=14:=a;dsimp only;rw[uD,kb L (lb K)];dsimp![fL,ac];rw[eP (show z.length+1<=_ by rwa[a_1 a])];wtm_at "e";rw[dv,kC (c:=1) (xs:=found.map .str) rfl (by rw[Vo];rwa[a_1 I])];erw[RE (z++[tails.getD i 0]) m3 J (some (.d (.str z))) u (((hz).app hs).name (by rw[al];show z.length+1<=15;rwa[a_1 a])) (by erw[Vn ab5 ?_];rfl) (D4 hw3 hw2 q hw1) ?_];simp![VE];rfl
theorem xI{many:Nat}(hw:w<=900000)(hm:many<=tails.length)(ht:tails.length<=100)(hs:∀i<tails.length,signs.contains (tails.getD i 0)=true):∃(xs:List Nm)(m' w':Nat),w'<=w+15*many/\(∀x∈xs,dk x=true)/\xs.map aj7=(tails.take many).map some/\C (k+3) `_law_names [.cell 0,.d (.int many),.d (.str tails)] [penM m w]=.ok (.d (.list (xs.map .str))) [penM m' w']:=by
 injections m _ k tails w many;simp![yO,yP,vV rfl,yQ];rw[hZ (a_2 hm ht)];erw[ba λhG=>?_];erw[d6 (xG (U:=C (k+2)) (F:=aJ) (n:=23) (s:=bM) (β:=V) (ys:=eg many) (σ:=[penM m w,.list []]) (w:=(none,none,none)) (kn:=λl=>Sk (C (k+2)) aJ 2 l) (kr:=λv=>ret v) (λj:Nat=>Dat.int j) (λv:Option V×Option V×Option V=>aL (some (.cell 0)) (some (.d (.int many))) (some (.d (.str tails))) (some (.cell 1)) v.1 v.2.1 v.2.2) (λys v σ=>∃(xs:List Nm)(m w':Nat),σ=[penM m w',.list (xs.map .str)]/\w'+15*ys.length<=w+15*many/\(∀x∈xs,dk x=true)/\xs.map aj7=(tails.take (many-ys.length)).map some/\∃a,a+ys.length=many/\ys=(eg many).drop a) ⟨[],m,w,rfl,by rw[VN];rwa[VM _],λx d=>k_mn d,by rw[VN,Ym];rfl,0,by rw[VN,Wg],rfl⟩ (by
  rintro y _ p⟨t,q,u3⟩σ⟨xs,m,w',rfl,b,h,d,a,ha,hy⟩;dsimp![f5]at b ha d;have e:xs.length=a:=by have:=VT sA d;simp![Vo,Vo,WC]at this;rw[this,Zg ha.symm];rwa[Yx (a_2 (m8 ha) hm)]
  have g:y=a:=by have:=VT (λl=>l[0]?) hy;simp![List.getElem?_drop,YV]at this;rw[ac1 (a_1 (m8 ha))]at this;rwa[Vp this]
  erw[ba λhG=>?_];subst g;erw[RL (GY (k:=k) (m:=m) (w:=w') (i:=y) (found:=xs) (tails:=tails) (o1:=some (.d (.int many))) (o4:=t) (o5:=q) (o6:=u3) (D4 b (Vt 15 hm) hw (Vt 15 ht)) (D4 (m8 e) (m8 ha) hm ht) (a_2 (m8 ha) hm) ht (hs y (by omega))) λx m' o o5 o6 hx1 hx2 hw'' r=>hG ⟨(_,o5,o6),_,r,xs++[x],m',o,rfl,a_2 hw'' b,?_,?_,y+1,Zi (a_1 (m8 ha)) (a_1 (so ha)),?_⟩]
  ·intro z c;rcases VJ.mp c with c|c; ·rwa[h z c]
   ·rwa[(Vy.mp c)▸hx1]
  ·simp![VE,d,V3,hx2,show many-p.length=y+1 from Zg (ha.symm.trans (Nat.add_right_comm y p.length 1)),show many-(p.length+1)=y from Zg ha.symm,List.take_add_one,VE];rw[VL];rw[VG (by rwa[a_2 (m8 ha) hm]:y<tails.length)];rfl
  ·rw[<-Zz,<-hy];rfl)) λv σ' f e3=>?_];obtain⟨xs,m3,w3,rfl,u,h,c,-⟩:=f;erw[hG (gO xs m3 w3 (by omega) h c ((VT (back false 1) e3).trans ?_))];rfl
end
section
inductive Item where|mv(d:UInt8)(n:Nat)|wd(d:UInt8)(n:Nat)|mp(d:UInt8)(x:Nm)|cl(x:Nm)|ex
noncomputable def wW(s:Nm)(d:UInt8)(x:Dat):Dat:=.tuple [.str s,.int (d.toNat:Nat),x]
def BW:Nm:=T "move"
def xJ:Nm:=T "wide"
def xK:Nm:=T "exit"
def Item.D:Item->Dat|.mv d n=>wW BW d (.int (n:Nat))|.wd d n=>wW xJ d (.int (n:Nat))|.mp d x=>wW iI d (.str x)|.cl x=>wW kj 0 (.str x)|.ex=>wW xK 0 (.int 0)
noncomputable def Item.Ok(ms ns:List Nm):Item->Prop|.mp d x=>d.toNat<16/\x∈ms|.cl x=>x∈ns|_=>True
theorem UK(h:X σ=.ok (.d d) σ'):ao [jy (ao [ret (.d m),ret (.d w),X])] σ=.ok [.d (.tuple [m,w,d])] σ':=by dsimp![dX,dW,QH,ac];simp![dX,dW,QH,aw,ac];erw[Vn (aB h) ?_];rfl
theorem Q0{xs':List Dat}(e:σ[c]?=some (.list xs))(h:ms σ=.ok [.d d] σ')(g:σ'[c]?=some (.list xs'))(i:xs'.length<=1000000):aa (cY U `append (.cell c) ms) f σ=f (.d .none) (σ'.set c (.list (xs'++[d]))):=by
 have b:∀{σ xs},σ[c]?=some (.list xs)->dO (iT U) `append (.cell c) σ=some .lappend:=by intro σ xs e;dsimp![dO];rw[dj e];kernel_rfl
 have j:=kC (U:=U) (f:=ret) (d:=d) g i;unfold cV at j;rw[aw,aB (a:=.lappend) (σ':=σ') (by delta reads;rw[b g])]at j;delta cY;rw[aw,aB (a:=.lappend) (σ':=σ) (by delta reads;rw[b e]),aw,aB h];rwa[aB (yB j)]
theorem DM{f:Dat->M β}(e:σ[c]?=some (.list xs))(a:xs.length+ys.length<=1000000):aa (af .Add (.cell c) (.d (.list ys))) f σ=f (.list (xs++ys)) σ:=by erw[aB ?_];show alt (opt (listOf σ (.cell c)) _) _=_;rw[fK e];erw[ju ?_];show lift (within (xs.length+ys.length) (Dat.list (xs++ys))) σ=_;rw[iH (big a)];rfl
theorem KF:cmp .NotEq (.d (.list xs)) (.d (.list []))=ret !xs.isEmpty:=by funext σ;erw[lL ?_];show(oK (.list xs) (.list [])).map (!·)=_;rw[nil_eq];rfl
theorem vq{d:Nat}(h:d<256):(d.toUInt8).toNat=d:=ZY h
def O3(i:Nat)(ns ms:List Nm)(o5 o6 o7:Option V):Ls:=bg (some (.cell 0)) (some (.d (.int i))) (some (.d (.list (ns.map .str)))) (some (.d (.list (ms.map .str)))) (some (.cell 2)) o5 o6 o7
def Hf(m w:Nat)(q:aX)(acc:List Item):ae:=[penM m w,q,.list (acc.map Item.D)]
theorem zG{a:List Item}(g:a.length<=1000)(h:X (Hf m w q a)=.ok (.d d) (Hf y D q a))(i:it.D=.tuple [E,F,d]):aa (cY U `append (.cell 2) (ao [jy (ao [ret (.d E),ret (.d F),X])])) (λY=>ret (LR.next G)) (Hf m w q a)=.ok (.next G) (Hf y D q (a++[it])):=by rw[Q0 (c:=2) (xs:=a.map Item.D) (xs':=a.map Item.D) rfl (UK h) rfl (by rw[Vo];rwa[lb g]),<-i];delta Hf;erw[(VE)▸?_];rfl
theorem sG{xs:List Nm}(g:w<=1000000)(h:xs≠[])(i:xs.length<=1000):∃x f a,x∈xs/\a<=w+1/\C (k+2) `_law_pick [.cell 0,.d (.list (xs.map .str))] (penM m w::σ)=.ok (.d (.str x)) (penM f a::σ):=by erw[ba λj=>bw (pick_run (k:=k) (σ:=σ) (m:=m) (xs:=xs.map Dat.str) g (λe=>h (List.map_eq_nil_iff.mp e)) (by rw[Vo];rwa[i])) λd f a hd c e=>x_12 (VI.mp hd) λx l b=>?_];clear hd;subst b;rwa[j (m_33 x f a l c e)]
theorem O4:af .Pow (.d (.int 2)) (.d (.int 32))=ret (.int ((4294967296:Nat):Int)):=∅
theorem KG{ns ms:List Nm}{acc:List Item}{d:UInt8}(hd:d.toNat<10)(g:w<=990002)(f:acc.length<=1000)(hn:ns.length<=1000)(j:ms.length<=1000)(p:i<=1000):∃its b l,(∀it∈its,Item.Ok ms ns it)/\its.length<=1/\l<=w+1/\Bt (C (k+2)) aY 23 ct 1 (O3 i ns ms o5 (some (.d (.int kd))) (some (.d (.int (d.toNat:Nat))))) (Hf m w q acc)=.ok (.next (O3 i ns ms o5 (some (.d (.int kd))) (some (.d (.int (d.toNat:Nat)))))) (Hf b l q (acc++its)):=by injections q k i w o5 kd m ns ms acc d;delta O3;rw[uG];dsimp![EF,fV];cases decide (kd=0)with|true=>erw[ba λc=>bw (cS (k:=k+1) (σ:=[q,.list (acc.map Item.D)]) (m:=m) (w:=w) (i:=4294967296) (a_1 g) #v[] #v[]) λx b l hx a e=>c (gO [.mv d x] b l λit h=>by rw[Vy.mp h];trivial (VM _) a ?_)];rwa[zG (it:=.mv d x) f (e) rfl]|false=>dsimp![oH,EF,fV];cases decide (kd=1)with|true=>erw[ba λc=>bw (cS (k:=k+1) (σ:=[q,.list (acc.map Item.D)]) (m:=m) (w:=w) (i:=18446744073709551616) (by omega) #v[] #v[]) λx b l hx a e=>c (gO [.wd d x] b l λit h=>by rw[Vy.mp h];trivial (VM _) a ?_)];rwa[zG (it:=.wd d x) f (e) rfl]|false=>simp![oH,EF,KF,Y8,J4];simp![xr,GP,W0,Dv,Ck,c7];rw[jA (gC (a_1 p)) rfl (by rw[Vo];rwa[a_1 hn])];dsimp![fL,ac];rw[KF];rw[show cut (some (i+1)) none (ns.map Dat.str)=(ns.drop (i+1)).map .str by simp![Yw];rfl,Y8];cases h:decide (kd=2)&&!ms.isEmpty with|true=>erw[ba λc=>?_];obtain⟨x,b,l,hx,a,e⟩:=sG (k:=k) (σ:=[q,.list (acc.map Item.D)]) (m:=m) (w:=w) (xs:=ms) (by omega) (λn=>by replace h:=(n)▸h;simp![Vq]at h;rwa[nomatch h.2]) j;erw[c (gO [.mp d x] b l (λit h=>by rw[Vy.mp h];rwa[⟨Xq hd #v[],hx⟩]) (VM _) a ?_)];dsimp![qk];rwa[zG (it:=.mp d x) f e rfl]|false=>dsimp![oH];cases o:(ns.drop (i+1)).isEmpty with|true=>erw[⟨[],m,w,(λit h=>nomatch h),WK _,YE _,?_⟩];rw[VC];rfl|false=>obtain⟨x,b,l,hx,a,e⟩:=sG (k:=k) (σ:=[q,.list (acc.map Item.D)]) (m:=m) (w:=w) (xs:=ns.drop (i+1)) (by omega) (λn=>by rw[n]at o;cases o) (by rw[WD];rwa[a_2 (Y6 ns.length (i+1)) hn]);erw[⟨[.cl x],b,l,λit h=>by rw[Vy.mp h];rwa[Xh hx],VM _,a,?_⟩];rw[show(!false)=true from rfl];dsimp![fV,qk];rwa[zG (it:=.cl x) f (by simp![GO,GN,c7];rwa[e]) rfl]
theorem DN{ns ms:List Nm}{acc:List Item}(r:w<=990000)(j:acc.length<=1000)(z:ns.length<=1000)(hm:ms.length<=1000)(n:i<=1000):∃its c w' p5 g f,(∀it∈its,Item.Ok ms ns it)/\its.length<=1/\w'<=w+3/\gr (C (k+2)) aY 23 ct y (O3 i ns ms o5 o6 o7) (Hf m w q acc)=.ok (.next (O3 i ns ms p5 g f)) (Hf c w' q (acc++its)):=by erw[ba λh=>bw (cS (k:=k+1) (σ:=[q,.list (acc.map Item.D)]) (m:=m) (w:=w) (i:=4) (a_1 r) #v[] #v[]) λkd m1 w1 A a s=>bw (cS (k:=k+1) (σ:=[q,.list (acc.map Item.D)]) (m:=m1) (w:=w1) (i:=10) (a_2 a r) #v[] #v[]) λd u x hd b t=>?_];have p:(d.toUInt8).toNat=d:=vq (a_1 hd);erw[x_34 (KG (k:=k) (m:=u) (w:=x) (i:=i) (ns:=ns) (ms:=ms) (q:=q) (acc:=acc) (o5:=some (.d y)) (kd:=kd) (d:=d.toUInt8) (a_2 (m8 p) hd) (mM b a r) j z hm n) λits c w' l h2 o e=>h (RF its c w' _ _ _ l h2 (mM o b a) (Vn ?_ e))];rw[p];delta O3;rw[yX,uF];rwa[(aB s).trans (aB t)]
theorem GZ{ns ms:List Nm}(J:w<=980000)(Q:ns.length<=1000)(K:ms.length<=1000)(X:i<=1000):∃its E r,(∀it∈its,Item.Ok ms ns it)/\its≠[]/\its.length<=4/\r<=w+10/\C (k+3) `_law_items [.cell 0,.d (.int (i:Nat)),.d (.list (ns.map .str)),.d (.list (ms.map .str))] [penM m w,q]=.ok (.d (.list (its.map Item.D))) [penM E r,q]:=by
 injections q k i w m ns ms;erw[ba λx=>bw (cS (k:=k+1) (σ:=[q,.list []]) (m:=m) (w:=w) (i:=4) (a_1 J) #v[] #v[]) λc m1 A u B W=>x ?_];simp![yT,yU,vV rfl,yV];simp![dX,dW,aw];simp![aB (show C (k+2) `_law_draw [.cell 0,.d (.int 4)] ([penM m w,q]++[.list []])=.ok (.d (.int c)) [penM m1 A,q,.list []]from W)];simp![ac];rw[hZ (a_1 u)];erw[ba λx=>?_];erw[d6 (xG (U:=C (k+2)) (F:=aY) (n:=23) (s:=ct) (β:=V) (ys:=eg c) (σ:=Hf m1 A q []) (w:=(none,none,none)) (kn:=λl=>Sk (C (k+2)) aY 2 l) (kr:=λv=>ret v) (λj:Nat=>Dat.int j) (λv:Option V×Option V×Option V=>O3 i ns ms v.1 v.2.1 v.2.2) (λys Y σ=>∃(its:List Item)(m r:Nat),σ=Hf m r q its/\r+3*ys.length<=A+3*c/\its.length+ys.length<=c/\∀it∈its,Item.Ok ms ns it) (gO [] m1 A rfl ((VN)▸VM _) ((VN)▸XW (Wg _)) λit h=>k_mn h) (by
  intro y _ zs d σ b;obtain⟨P,N,R⟩:=d;erw[x_34 b λits m r t o f g=>?_];subst t;dsimp![f5]at o f;erw[ba λx=>RM (DN (k:=k) (m:=m) (w:=r) (i:=i) (ns:=ns) (ms:=ms) (q:=q) (acc:=its) (o5:=P) (o6:=N) (o7:=R) (y:=.int y) (D4 o (Vt 3 u) B J) (a_2 f u) Q K X) λG E H Z M L T h2 h3 O=>x ⟨(Z,M,L),_,O,its++G,E,H,rfl,a_2 h3 o,by rw[al];rwa[a_2 h2 f],λz a=>?_⟩];rcases VJ.mp a with a|a; ·rwa[g z a]
  ·rwa[T z a])) λv σ' D e=>?_];obtain⟨its,m2,I,rfl,p,f,g⟩:=D;have p:I+3*0<=A+3*c:=p;have f:its.length+0<=c:=f;erw[x (LP (its++[.ex]) m2 I (λz a=>?_) (λh=>?_) (by rw[al];show its.length+1<=4;rwa[a_2 f u]) (mM p (Vt 3 u) B) ?_)]
 ·rcases VJ.mp a with a|a; ·rwa[g z a]
  ·rw[Vy.mp a];trivial
 ·rwa[absurd (Xr.mp h).2 λh=>k_cn h]
 erw[(VT (back false 2) e).trans ?_];dsimp![O3,Hf];rw[yW];wtm_at "f";delta bD;rw[aw];rw[DM (c:=2) (xs:=its.map Item.D) rfl (by rw[Vo];show its.length+1<=_;rwa[a_2 f u]),VE];rfl
end
variable{it:Item}
section
noncomputable def bL(l:List UInt8):List Dat:=l.map λc=>.int (c.toNat:Nat)
noncomputable def wV:Option Int->V|none=>.d .none|some m=>.d (.int m)
noncomputable def LN(n:Nat):List UInt8:=ew n 0
def Item.oct(w:Option Int):Item->List UInt8|.mv d n=>[183,d,0,0]++dh (n:Nat) 4|.wd d n=>[24,d,0,0]++dh (n:Nat) 4++LN 4++dh ((n/4294967296:Nat):Int) 4|.mp d _=>[24,match w with|none=>d|some _=>d+16,0,0]++dh (w.getD 0) 4++LN 8|.cl _=>[133,16,0,0]++dh (w.getD (-1)) 4|.ex=>[149]++LN 7
noncomputable def Item.w:Item->Nat|.wd _ _=>2|.mp _ _=>2|_=>1
theorem KH(h:1<=i):af .Mod (.d (.int m)) (.d (.int i))=ret (.int (m %i)):=by erw[BV ?_];show(match decide ((i:Int)=0)with|true=>none|false=>some (m.fmod i):Option Int)=_;rw[VO (by lia),ZF _ (Wf i)]
theorem Q1(h:1<=i)(a:i<2^100):af .FloorDiv (.d (.int m)) (.d (.int i))=ret (.int (m/i)):=by erw[BV ?_];show(match decide ((i:Int)=0)||! nf i (2^100)with|true=>none|false=>some (m.fdiv i):Option Int)=_;rw[VO (by lia),W9.mpr a,Wq _ (Wf i)];rfl
theorem Vl{P:Nat->Prop}(h:i<4)(b:P 0)(a:P 1)(c:P 2)(d:P 3):P i:=by cases i with|zero=>rwa[b]|succ i=>cases i with|zero=>rwa[a]|succ i=>cases i with|zero=>rwa[c]|succ i=>cases i with|zero=>rwa[d]|succ i=>rwa[absurd h (Nat.not_lt.mpr (Zn ..))]
theorem Q2(h:i<4):af .Pow (.d (.int 256)) (.d (.int i))=ret (.int ((2^(8*i):Nat):Int))/\1<=2^(8*i)/\2^(8*i)<2^100:=Vl (P:=λi=>af .Pow (.d (.int 256)) (.d (.int i))=ret (.int ((2^(8*i):Nat):Int))/\1<=2^(8*i)/\2^(8*i)<2^100) h (m_03 ∅ #v[] #v[]) (m_03 ∅ #v[] #v[]) (m_03 ∅ #v[] #v[]) (m_03 ∅ #v[] #v[])
theorem eu:C (k+1) `_law_little [.d (.int w),.d (.int 4)]=ret (.d (.list (bL (dh w 4)))):=by funext σ;rw[wj];erw[dZ ?_];rw[wk,show(4:Int)=((4:Nat):Int)from rfl,hZ #v[]];dsimp![ac];rw[Cm (λi:Nat=>Dat.int i) (λi=>.int ((w/2^(8*i) %256).toNat.toUInt8.toNat:Nat)) #v[] (by intro i b u;have a:=Q2 (Wx.mp b);erw[Vn wl ?_];rw[a.1];dsimp![fL,ac];rw[Q1 a.2.1 a.2.2];dsimp![fL,ac];rw[show(256:Int)=((256:Nat):Int)from rfl,KH #v[]];rw[vq (by grind),ar0];rw[XJ (ar2 _ #v[])];rfl)];rfl
theorem tE:(cmp .Eq (.d (.str BW)) (.d (.str (T "move")))=ret true/\cmp .Eq (.d (.str xJ)) (.d (.str (T "move")))=ret false/\cmp .Eq (.d (.str iI)) (.d (.str (T "move")))=ret false/\cmp .Eq (.d (.str kj)) (.d (.str (T "move")))=ret false/\cmp .Eq (.d (.str xK)) (.d (.str (T "move")))=ret false)/\cmp .Eq (.d (.str xJ)) (.d (.str (T "wide")))=ret true/\cmp .Eq (.d (.str iI)) (.d (.str (T "wide")))=ret false/\cmp .Eq (.d (.str kj)) (.d (.str (T "wide")))=ret false/\cmp .Eq (.d (.str xK)) (.d (.str (T "wide")))=ret false:=by erw[Cn (Cn ?_ ?_ ?_ ?_ ?_) ?_ ?_ ?_ ?_]<;>kernel_rfl
theorem tM:(cmp .Eq (.d (.str BW)) (.d (.str (T "map")))=ret false/\cmp .Eq (.d (.str xJ)) (.d (.str (T "map")))=ret false/\cmp .Eq (.d (.str iI)) (.d (.str (T "map")))=ret true/\cmp .Eq (.d (.str kj)) (.d (.str (T "map")))=ret false/\cmp .Eq (.d (.str xK)) (.d (.str (T "map")))=ret false)/\cmp .Eq (.d (.str BW)) (.d (.str (T "call")))=ret false/\cmp .Eq (.d (.str xJ)) (.d (.str (T "call")))=ret false/\cmp .Eq (.d (.str iI)) (.d (.str (T "call")))=ret false/\cmp .Eq (.d (.str kj)) (.d (.str (T "call")))=ret true/\cmp .Eq (.d (.str xK)) (.d (.str (T "call")))=ret false:=by erw[Fd (Cn ?_ ?_ ?_ ?_ ?_) ?_ ?_ ?_ ?_ ?_]<;>kernel_rfl
theorem KI(c:a.length+b.length<=1000000):af .Add (.d (.list (bL a))) (.d (.list (bL b)))=ret (.list (bL (a++b))):=by delta bL;erw[Vn (oj (by rw[Vo,Vo];rwa[big c])) ?_];rw[VE]
theorem EW(h:a.length<=100):af .Add (.d (.list (bL a))) (.d (.list (bL (dh w 4))))=ret (.list (bL (a++dh w 4))):=KI ((len_little)▸(a_1 h))
theorem UL:[Dat.int 0,.int 0,.int 0,.int 0]=bL (LN 4):=rfl
theorem Q3:af .Mult (.d (.list [.int 0])) (.d (.int 8))=ret (.list (bL (LN 8)))/\af .Mult (.d (.list [.int 0])) (.d (.int 7))=ret (.list (bL (LN 7))):=⟨∅,∅⟩
theorem Rv:cmp .Is (.d .none) (.d .none)=ret true/\∀m,cmp .Is (.d (.int m)) (.d .none)=ret false:=⟨∅,λm=>by kernel_rfl⟩
theorem lV(hd:∀d x,it=.mp d x->d.toNat<16):C (k+2) `_law_octets [.d it.D,wV w]=ret (.d (.list (bL (it.oct w)))):=by
 injections it _ k w;funext σ;simp![wm];erw[dZ ?_];rw[wn];cases it with
 |mv d n=>dsimp![ac];dsimp![Item.D,wW];simp![f7,f6,tE.1.1];simp![fV,qk,zf,mX,mW,ac];rw[eu];rfl
 |wd d n=>dsimp![ac];dsimp![Item.D,wW];rw[f7,f6,tE.1.2.1];dsimp![fV,oH];rw[hY,tE.2.1];simp![fV,qk,zf,mX,mW,ac];rw[eu];dsimp![ac];rw[show [Dat.int 24,.int (d.toNat:Nat),.int 0,.int 0]=bL [24,d,0,0]from rfl,EW (Vu rfl)];dsimp![fL,ac];simp![UL];rw[KI (Vu rfl)];rw[O4];simp![fL,ac];rw[DL #v[] #v[]];simp![dX,dW,fL,ac];rw[eu];rfl
 |mp d x=>have hd:=hd d x rfl;dsimp![ac];dsimp![Item.D,wW];simp![f7,f6,tE.1.2.2.1];rw[Dv,Tv];simp![hY,tE.2.2.1];rw[Dv,Tv];simp![jz,tM.1.2.2.1];rw[Dv,Tu]at⊢;cases w with|none=>erw[(show cmp .Is (wV none) (.d .none)=ret true from Rv.1)▸?_];rw[Dv,Tu,c7]at⊢;rw[show af .Add (.d (.int (d.toNat:Nat))) (.d (.int 0))=ret (.int (d.toNat:Nat))by rfl]at⊢;wtm_at "e";wtm_at "f";rw[eu]at⊢;wtm_at "e";wtm_at "f";rw[show [Dat.int 24,.int (d.toNat:Nat),.int 0,.int 0]=bL [24,d,0,0]from rfl,EW (Vu rfl),Q3.1]at⊢;dsimp![fL,ac];rfl|some m=>erw[(show cmp .Is (wV (some m)) (.d .none)=ret false from Rv.2 m)▸?_];rw[Dv,Tv,c7]at⊢;rw[show af .Add (.d (.int (d.toNat:Nat))) (.d (.int 16))=ret (.int ((d+16).toNat:Nat))by rw[show(16:Int)=((16:Nat):Int)from rfl,QD,UInt8.toNat_add,show UInt8.toNat 16=16 from rfl,ZY (by omega)]at⊢]at⊢;wtm_at "e";wtm_at "f";simp![show wV (some m)=.d (.int m)from rfl,eu];wtm_at "e";wtm_at "f";rw[show [Dat.int 24,.int ((d+16).toNat:Nat),.int 0,.int 0]=bL [24,d+16,0,0]from rfl,EW (Vu rfl),Q3.1]at⊢;dsimp![fL,ac];rfl
 |cl x=>
  rw[c7]at⊢;unfold Item.D wW;rw[f7,f6,tE.1.2.2.2.1]at⊢;dsimp![fV,oH];rw[hY,tE.2.2.2.1]at⊢;dsimp![fV,oH];rw[jz,tM.1.2.2.2.1]at⊢;dsimp![fV,oH];rw[nu,tM.2.2.2.2.1]at⊢;have e:de (cmp .Is (wV w) (.d .none)) (ret (V.d (.int (-1)))) (ret (wV w))=ret (.d (.int (w.getD (-1)))):=by cases w with|none=>rw[show cmp .Is (wV none) (.d .none)=ret true from Rv.1]at⊢;rfl|some m=>rw[show cmp .Is (wV (some m)) (.d .none)=ret false from Rv.2 m]at⊢;rfl
  rw[e]at⊢;wtm_at "e";wtm_at "f";rw[eu]at⊢;wtm_at "e";wtm_at "f";rw[show [Dat.int 133,.int 16,.int 0,.int 0]=bL [133,16,0,0]from rfl,EW (Vu rfl)]at⊢;rfl
 |ex=>dsimp![ac];unfold Item.D wW;rw[f7,f6,tE.1.2.2.2.2]at⊢;dsimp![fV,oH];rw[hY,tE.2.2.2.2]at⊢;dsimp![fV,oH];rw[jz,tM.1.2.2.2.2]at⊢;dsimp![fV,oH];rw[nu,tM.2.2.2.2.2]at⊢;dsimp![fV,oH];rw[wo]at⊢;wtm_at "e";wtm_at "f";rw[Q3.2]at⊢;wtm_at "e";wtm_at "f";rw[show [Dat.int 149]=bL [149]from rfl,KI (Vu rfl)]at⊢;rfl
end
end
section
variable{α β τ A:Type}{d:Dat}{e:Expr}{it:Item}{ps:List (Dat×Nm)}{acc pre:List (Nat×Nm×Nm)}{sy:List (Nm×Nat)}{a its:List Item}{ns ys used ks xs ws R:List Nm}{maps J:List Row}{b:List UInt8}{as:List V}{q:aX}{k n s c i j:Nat}{r:Nat×Nm×Nm}{x t l:Nm}{fs f:Nm->List Item}{o:Ob}{w4:Option V}{u:Option V×Option V}{σ:ae}{g:Str}{U:Str->List V->M V}{v:V}
def Item.kind:Item->Nm|.mv _ _=>BW|.wd _ _=>xJ|.mp _ _=>iI|.cl _=>kj|.ex=>xK
noncomputable def Item.nm:Item->Dat|.mv _ n=>.int n|.wd _ n=>.int n|.mp _ x=>.str x|.cl x=>.str x|.ex=>.int 0
def Item.rel(s:Nat):Item->Option (Nat×Nm×Nm)|.mp _ x=>some (s,iI,x)|.cl x=>some (s,kj,x)|_=>none
theorem O5:ay (.d it.D) (.d (.int 0))=ret (.str it.kind):=by obtain⟨⟩:=it<;>kernel_rfl
theorem KJ:ay (.d it.D) (.d (.int 2))=ret it.nm:=by obtain⟨⟩:=it<;>kernel_rfl
theorem S6:cmp .In (.d (.str it.kind)) (.d (.tuple [.str (T "map"),.str (T "call")]))=ret (it.rel s).isSome:=by obtain⟨⟩:=it<;>kernel_rfl
theorem NR(h:it.rel s=some r):c8 r=.tuple [.int s,.str it.kind,it.nm]:=by obtain⟨⟩:=it<;>cases h<;>rfl
theorem wX:C (k+1) `_law_width [.d it.D]=ret (.d (.int (it.w:Nat))):=by funext σ;rw[yY];erw[dZ ?_];obtain⟨⟩:=it<;>rfl
def FD(q:aX)(f:Nm->List Item)(ns:List Nm):Prop:=∃ks vs,q=.dict ks vs/\∀x∈ns,bS x ks vs=some (.list ((f x).map Item.D))
theorem FD.get{f:V->M β}(h:FD q fs ns)(b:x∈ns):aa (bD (ay (.cell 1) (.d (.str x)))) f (p::q::σ)=f (.d (.list ((fs x).map Item.D))) (p::q::σ):=by erw[ba λa=>?_];obtain⟨ks,vs,rfl,h⟩:=h;erw[a ?_];delta bD;rw[aw,Ks (c:=1) (ks:=ks) (vs:=vs) rfl (h x b)];rfl
structure LS where
 s:Nat
 sy:List (Nm×Nat)
 re:List (Nat×Nm×Nm)
 ro:List (Nat×Item)
def p9(p:Nat×Item):Dat:=.tuple [.int (p.1:Nat),p.2.D]
def fW(a:LS)(it:Item):LS:=⟨a.s+it.w,a.sy,a.re++(it.rel a.s).toList,a.ro++[(a.s,it)]⟩
def lW(f:Nm->List Item)(a:LS)(x:Nm):LS:=(f x).foldl fW ⟨a.s,a.sy++[(x,a.s)],a.re,a.ro⟩
def NS(p q:aX)(a:LS):ae:=[p,q,.list (a.sy.map bV),.list (a.re.map c8),.list (a.ro.map p9)]
def NT(v:V)(a:LS)(u:Option V×Option V):Ls:=bt (some (.cell 1)) (some v) (some (.cell 2)) (some (.cell 3)) (some (.cell 4)) (some (.d (.int (a.s:Nat)))) u.1 u.2
theorem NU{a:LS}(d:a.re.length+a.ro.length<=900000):gr (C (k+1)) aW 22 bY it.D (NT v a u) (NS p q a)=.ok (.next (NT v (fW a it) (u.1,some (.d it.D)))) (NS p q (fW a it)):=by
 injections it q k u v p a;dsimp![NT,NS];rw[A2,wu,O5];wtm_at "f";simp![S6 (s:=a.s)];dsimp![fV];have b:∀(re:List (Nat×Nm×Nm)),Bt (C (k+1)) aW 22 bY 1 (bt (some (.cell 1)) (some v) (some (.cell 2)) (some (.cell 3)) (some (.cell 4)) (some (.d (.int (a.s:Nat)))) u.1 (some (.d it.D))) [p,q,.list (a.sy.map bV),.list (re.map c8),.list (a.ro.map p9)]=.ok (.next (bt (some (.cell 1)) (some v) (some (.cell 2)) (some (.cell 3)) (some (.cell 4)) (some (.d (.int ((a.s+it.w:Nat):Int)))) u.1 (some (.d it.D)))) [p,q,.list (a.sy.map bV),.list (re.map c8),.list ((a.ro++[(a.s,it)]).map p9)]:=by intro re;rw[ww];wtm_at "e";rw[dv,kC (c:=4) (xs:=a.ro.map p9) rfl (by rw[Vo];rwa[a_1 d]),wz,wX];rw[VE];rfl
 cases e:it.rel a.s with|none=>simp![show(none:Option (Nat×Nm×Nm)).isSome=false from rfl,oH,b];dsimp![fW];simp![e,show(none:Option (Nat×Nm×Nm)).toList=[]from rfl,VC]|some r=>rw[show(some r).isSome=true from rfl];rw[KJ];wtm_at "e";rw[dv,kC (c:=3) (xs:=a.re.map c8) rfl (by rw[Vo];rwa[a_1 d]),<-NR e];have e2:(a.re++[r]).map c8=a.re.map c8++[c8 r]:=VE;have:=b (a.re++[r]);rw[e2]at this;delta fW;simp![e];erw[Vn this ?_];rw[<-e2];rfl
theorem oy:∀{its:List Item}{a:LS},(its.foldl fW a).ro.length=a.ro.length+its.length/\(its.foldl fW a).re.length<=a.re.length+its.length/\(its.foldl fW a).sy=a.sy
|[],a=>m_03 rfl (VM _) rfl
|it::its,a=>by
 have h:=oy (its:=its) (a:=fW a it);have h2:(it.rel a.s).toList.length<=1:=by cases it.rel a.s<;>rwa[Vu rfl]
 dsimp![hM,f5];have b:(fW a it).re.length=a.re.length+(it.rel a.s).toList.length:=al;rwa[m_03 (by simp![h.1,show(fW a it).ro.length=a.ro.length+1 from al];simp +arith only) (mM h.2.1 (m8 b) h2) h.2.2]
theorem NV{a:LS}(j:FD q f ns)(m:x∈ns)(g:a.sy.length+a.re.length+a.ro.length+2*(f x).length<=900000):∃b,gr (C (k+1)) aW 23 dM (.str x) (NT v a u) (NS p q a)=EU (NT v (lW f a x) b) (NS p q (lW f a x)):=by
 injections ns u _ q k x f v p a;dsimp![NT,NS];simp![A1,wq];wtm_at "e";rw[dv,kC (c:=2) (xs:=a.sy.map bV) rfl (by rw[Vo];rwa[a_1 g]),wt,aw];show∃b,aa (bD (ay (.cell 1) (.d (.str x)))) _ (p::q::[.list (a.sy.map bV++[.tuple [.str x,.int (a.s:Nat)]]),.list (a.re.map c8),.list (a.ro.map p9)])=_;rw[j.get m];have key:=kE (U:=C (k+1)) (F:=aW) (n:=22) (s:=bY) (c:=gF) (β:=LR) (ys:=f x) (w:=⟨a.s,a.sy++[(x,a.s)],a.re,a.ro⟩) (u:=u.2) Item.D (λa o=>some (fW a o)) (λa u=>NT v a (some (.d (.str x)),u)) (NS p q) (λys a=>a.re.length+a.ro.length+2*ys.length<=900000) (λY=>True) (kn:=EU) (kr:=λv=>ret (.ret v)) (by dsimp only;rwa[a_1 g]) λo Y ys a u d=>by dsimp![f5]at d;have h:=oy (its:=[o]) (a:=a);have i:(fW a o).ro.length=a.ro.length+1:=h.1;have r:(fW a o).re.length<=a.re.length+1:=h.2.1;rwa[⟨mM r d (m8 i),_,NU (a_1 d)⟩]
 simp![lU]at key;erw[ba λl=>?_];obtain⟨-,b,e⟩:=key;erw[l ⟨(some (.d (.str x)),b),Vn ?_ e⟩];dsimp![NS,NT];rw[VE];rfl
theorem xM{t:Expr}(L:τ->Ls)(c:A->Dat)(g:A->Option Dat)(a:∀y w,∃b,ry P n sc t ifs elt (c y) (L w) σ=.ok (L b,g y) σ):∀{ys:List A}{acc:List Dat}{w:τ},acc.length+ys.length<=1000000->∃b,aD (vJ P n) t ifs sc (compElt (vU P n) sc elt) (ys.map c) (L w) acc σ=.ok (L b,acc++ys.filterMap g) σ
|[],acc,w,_=>⟨w,by simp![ZC,VC];rfl⟩
|y::ys,acc,w,d=>by
 dsimp![f5]at d;obtain⟨i,f⟩:=a y w;have j:(g y).toList.length<=1:=by cases g y<;>rwa[Vu rfl]
 obtain⟨h,e⟩:=xM L c g a (ys:=ys) (acc:=acc++(g y).toList) (w:=i) ((al)▸(a_2 j d));erw[⟨h,(mr (big (a_1 d)) f).trans (e.trans ?_)⟩];dsimp![eO];rw[VA];cases g y<;>rfl
theorem KL{B:Type}(h:A->Dat)(i:B->Dat)(L:τ->Ls)(its:A->List B)(g:B->Option Dat)(G:(eH 0 e).ifs=[]){ys:List A}{K:Nat}(C:ys.length*K<=1000000)(f:∀y∈ys,(its y).length<=K)(b:∀y∈ys,∀w,∃a,SC sc e (h y) (L w)=ret (L a)/\SA U n sc e (L a) σ=.ok (.items ((its y).map i)) σ)(c:∀z w,∃a,Qd U n sc e (i z) (L w) σ=.ok (L a,g z) σ):Ey U n sc e (L w) (.items (ys.map h)) σ=.ok ((ys.flatMap its).filterMap g) σ:=by
 injections τ A σ B K _ e n U sc;erw[ba λj=>?_];obtain⟨a,x⟩:=((by
  intro ys;induction ys with
  |nil=>rwa[λacc w Y Y Y=>⟨w,by rw[Xv,ZC,VC];rfl⟩]
  |cons y ys E=>
   intro acc w k f p;simp![ar,YF,Yj]at k;erw[ba λj=>x_12 (p y (Vv ..) w) λo r m=>?_];have q:=f y (Vv ..);obtain⟨v,u⟩:=xM (P:=iT U) (n:=n) (sc:=ai sc (mN e)) (σ:=σ) (t:=(eH 1 e).target) (ifs:=(eH 1 e).ifs) (elt:=gc 0 e) L i g c (ys:=its y) (acc:=acc) (w:=o) (a_2 q k);have D:((its y).filterMap g).length<=(its y).length:=Xf ..;obtain⟨F,s⟩:=E (acc++(its y).filterMap g) v (by rw[al];rwa[mM D q k]) (λz l=>f z (VB _ l)) λz l=>p z (VB _ l);erw[j ⟨F,?_⟩];rw[VY,YZ,<-VA,<-s];unfold SC at r;unfold SA at m;rw[V3];conv=>lhs;unfold aD
   rw[r];rw[G];show aa (aa (Ts (iT U) n (ai sc (mN e)) (eH 1 e).iter (L o)) _) _ σ=_;rw[aw,aB m];rwa[aB u]:∀(ys:List A)(acc:List Dat)(w:τ),acc.length+ys.length*K<=1000000->(∀y∈ys,(its y).length<=K)->(∀y∈ys,∀w,∃a,SC sc e (h y) (L w)=ret (L a)/\SA U n sc e (L a) σ=.ok (.items ((its y).map i)) σ)->∃a,aD (vJ (iT U) n) (eH 0 e).target (eH 0 e).ifs (ai sc (mN e)) (λls' acc=>aa (Ts (iT U) n (ai sc (mN e)) (eH 1 e).iter ls') λd=>match d with|.items ys=>aD (vJ (iT U) n) (eH 1 e).target (eH 1 e).ifs (ai sc (mN e)) (compElt (vU (iT U) n) (ai sc (mN e)) (gc 0 e)) ys ls' acc|_=>stq) (ys.map h) (L w) acc σ=.ok (L a,acc++(ys.flatMap its).filterMap g) σ)) ys [] w (by simp![a5,Wg];rwa[C]) f b;rwa[j (aB x)]
noncomputable def Item.use:Item->Option Nm|.mp _ x=>some x|_=>none
noncomputable def Item.call:Item->Option Nm|.cl x=>some x|_=>none
theorem O6:cmp .Eq (.d (.str it.kind)) (.d (.str (T "map")))=ret it.use.isSome:=by obtain⟨⟩:=it<;>kernel_rfl
theorem KM:cmp .Eq (.d (.str it.kind)) (.d (.str (T "call")))=ret it.call.isSome:=by obtain⟨⟩:=it<;>kernel_rfl
theorem Q4(h:it.use.isSome=true):some it.nm=it.use.map .str:=by obtain⟨⟩:=it<;>first|rfl|rwa[gm h]
theorem NX(h:it.call.isSome=true):some it.nm=it.call.map .str:=by obtain⟨⟩:=it<;>first|rfl|rwa[gm h]
structure rd(f:Nm->List Item)(ns:List Nm):Prop where
 nl:ns.length<=10
 its:∀x∈ns,(f x).length<=10
 dst:∀x∈ns,∀it∈f x,∀d y,it=Item.mp d y->d.toNat<16
def dY(f:Nm->List Item)(ns:List Nm):List Nm:=(ns.flatMap f).filterMap Item.use
theorem KN{g:A->Option Nm}{l:List A}:l.filterMap (λa=>(g a).map Dat.str)=(l.filterMap g).map .str:=by simp![ad2]
theorem km{p:aX}(c:FD q f ms)(d:∀x∈ns,x∈ms)(a:rd f ns):C (k+1) `_law_used [.cell 1,.d (.list (ns.map .str))] [p,q]=.ok (.d (.list ((dY f ns).map .str))) [p,q]:=by rw[A8];erw[dZ ?_];rw[A9];delta cu;rw[aw];erw[Vn (aB (KL (U:=C k) (n:=22) (σ:=[p,q]) (sc:=fH.sc) (e:=gA) Dat.str Item.D (λu:Option V×Option V=>z1::(`name,u.1)::(`item,u.2)::dU (some (.cell 1)) (some (.d (.list (ns.map .str))))) f (λit=>it.use.map .str) ∅ (ys:=ns) (w:=(none,none)) (K:=10) (by have:=a.nl;rwa[a_1 (Vt 10 this)]) a.its (by erw[λx b u=>m_12 (some (.d (.str x)),u.2) Bb ?_];rw[Bc,c.get (d x b)];rfl) (by erw[λit u=>(Ba)▸((O5)▸?_)];dsimp![fL,ac];erw[(O6)▸?_];cases e:it.use.isSome with|false=>erw[⟨(u.1,some (.d it.D)),(Yr.mp (by rw[<-an4,e];rfl))▸?_⟩];rfl|true=>simp![qk,fV,qk,KJ,<-Q4 e];rwa[⟨(u.1,some (.d it.D)),rfl⟩]))) ?_];rw[KN];rfl
def laid(f:Nm->List Item)(ns:List Nm):LS:=ns.foldl (lW f) ⟨0,[],[],[]⟩
def UM(a:LS):Dat:=.tuple [.list (a.sy.map bV),.list (a.re.map c8),.list (a.ro.map p9)]
noncomputable def LS.sz(a:LS):Nat:=a.sy.length+a.re.length+a.ro.length
theorem KP{a:LS}(h:(f x).length<=10):(lW f a x).sz<=a.sz+21:=by
 have b:=oy (its:=f x) (a:=⟨a.s,a.sy++[(x,a.s)],a.re,a.ro⟩);have c:((f x).foldl fW ⟨a.s,a.sy++[(x,a.s)],a.re,a.ro⟩).sy.length=a.sy.length+1:=(b.2.2)▸al
 delta lW LS.sz;rwa[Ug (m8 c) (m8 b.1) h b.2.1 h]
theorem qa(o:FD q f ms)(t:∀x∈ns,x∈ms)(i:rd f ns):C (k+2) `_law_laid [.cell 1,.d (.list (ns.map .str))] [p,q]=.ok (.d (UM (laid f ns))) [p,q]:=by
 injections ms p _ ns q k f;rw[A0];have m:=i.nl;have r:=kE (U:=C (k+1)) (F:=aW) (n:=23) (s:=dM) (c:=gF) (β:=V) (ys:=ns) (w:=⟨0,[],[],[]⟩) (u:=(none,none)) Dat.str (λa x=>some (lW f a x)) (λa u=>NT (.d (.list (ns.map .str))) a u) (NS p q) (λys a=>a.sz+21*ys.length<=1000) (λY=>True) (kn:=λl=>Sk (C (k+1)) aW 2 l) (kr:=λv=>ret v) (by show 0+21*ns.length<=1000;rwa[a_1 (Vt 21 m)]) λx g ys a u d=>by dsimp![f5]at d;have b:=i.its x g;have h:=KP (a:=a) b;have h2:a.sz=a.sy.length+a.re.length+a.ro.length:=rfl;rwa[⟨a_2 h d,NV o (t x g) (mM (so h2) d (Vt 2 b))⟩]
 rw[lU]at r;erw[ba λj=>?_];obtain⟨-,u,e⟩:=r;erw[j ((VT (back false 2) e).trans ?_)];rfl
noncomputable def aH:List Item->Nat|[]=>0|it::its=>it.w+aH its
noncomputable def place:Nat->List Item->List (Nat×Item)|_,[]=>[]|s,it::its=>(s,it)::place (s+it.w) its
noncomputable def a0(f:Nm->List Item):Nat->List Nm->List (Nm×Nat)|_,[]=>[]|s,x::xs=>(x,s)::a0 f (s+aH (f x)) xs
def gn(p:Nat×Item):Option (Nat×Nm×Nm):=p.2.rel p.1
theorem gZ:∀{a b:List Item},aH (a++b)=aH a+aH b:=by intro d;induction d with|nil=>rwa[(Wg _).symm]|cons e a c=>intro b;show e.w+aH (a++b)=e.w+aH a+aH b;simp![c,WV]
theorem xN:∀{a b:List Item}{s:Nat},place s (a++b)=place s a++place (s+aH a) b:=by intro e;induction e with|nil=>rwa[rfl]|cons d a c=>intro b s;show(s,d)::place (s+d.w) (a++b)=(s,d)::(place (s+d.w) a++place (s+(d.w+aH a)) b);rw[c,WV]
theorem xO:∀{a:List Item}{s:Nat},(place s a).map (·.2)=a:=by intro c;induction c with|nil=>rwa[rfl]|cons d a b=>intro s;show d::(place (s+d.w) a).map (·.2)=_;rw[b]
theorem NY:∀{its:List Item}{a:LS},its.foldl fW a=⟨a.s+aH its,a.sy,a.re++(place a.s its).filterMap gn,a.ro++place a.s its⟩:=by intro d;induction d with|nil=>intro a;show a=⟨a.s,a.sy,a.re++[],a.ro++[]⟩;simp![VC,VC]|cons c its b=>intro a;erw[Vn b ?_];show LS.mk (a.s+c.w+aH its) a.sy (a.re++(c.rel a.s).toList++(place (a.s+c.w) its).filterMap gn) (a.ro++[(a.s,c)]++place (a.s+c.w) its)=LS.mk (a.s+(c.w+aH its)) a.sy (a.re++((a.s,c)::place (a.s+c.w) its).filterMap gn) (a.ro++(a.s,c)::place (a.s+c.w) its);rw[WV,VA,VA,eO,show gn (a.s,c)=c.rel a.s from rfl];cases c.rel a.s<;>rfl
theorem NZ:∀{ns:List Nm}{a:LS},ns.foldl (lW f) a=⟨a.s+aH (ns.flatMap f),a.sy++a0 f a.s ns,a.re++(place a.s (ns.flatMap f)).filterMap gn,a.ro++place a.s (ns.flatMap f)⟩:=by intro c;induction c with|nil=>intro a;show a=⟨a.s,a.sy++[],a.re++[],a.ro++[]⟩;simp![VC,VC,VC]|cons x ns b=>erw[Vn b ?_];delta lW;rw[NY];simp![VY,gZ,xN,YZ];simp![WV];simp![VA,VA,VA];rfl
theorem EX:laid f ns=⟨aH (ns.flatMap f),a0 f 0 ns,(place 0 (ns.flatMap f)).filterMap gn,place 0 (ns.flatMap f)⟩:=by erw[Vn NZ ?_];rw[Wg];rfl
def lX(f:Nm->List Item)(ns:List Nm)(maps:List Row)(used:List Nm):Ob:=⟨maps.filter λr=>decide (r.name∈used),(ns.flatMap f).flatMap (Item.oct none),a0 f 0 ns,(place 0 (ns.flatMap f)).filterMap gn⟩
theorem qb:(it.oct w).length=8*it.w:=by obtain⟨⟩:=it<;>dsimp![Item.oct,List.length_append,len_little,LN,List.length_replicate,f5,List.length_nil]<;>rfl
theorem BX:1<=it.w/\it.w<=2:=by obtain⟨⟩:=it<;>rwa[⟨Vu rfl,Vu rfl⟩]
theorem BY{l:List UInt8}(a:l.length<=1000000):bi `bytes [.d (.list (bL l))]=ret (.bytes l):=by
 delta bL;simp![sC (h:=λc:UInt8=>((c.toNat:Nat):Int)) (λc Y=>⟨Wf _,Vf c⟩) (big a)];have:(λc:UInt8=>((c.toNat:Nat):Int).toNat.toUInt8)=id:=by funext c;rwa[UInt8.toNat_inj.mp (by erw[Vn (vq c.toNat_lt) ?_];rfl)]
 rw[this,af9]
theorem rd.len(h:rd f ns):(ns.flatMap f).length<=100:=by
 have a:=h.nl;have:∀(l:List Nm),(∀x∈l,(f x).length<=10)->(l.flatMap f).length<=10*l.length:=by intro l;induction l with|nil=>rwa[λY=>WK _]|cons x l c=>intro h;have a:=c λy b=>h y (VB _ b);have d:=h x (Vv ..);rw[VY];simp![al,ar];rwa[a_2 d a]
 have:=this ns h.its;rwa[a_2 this (Vt 10 a)]
theorem place_len:∀{a:List Item}{s:Nat},(place s a).length=a.length:=by intro c;induction c with|nil=>rwa[rfl]|cons _ _ b=>rwa[VT ah6 b]
theorem mz(h:p∈place s a):p.2∈a:=(xO (a:=a) (s:=s))▸VI.mpr (m_12 p h rfl)
theorem KQ{w:Nat×Item->Option Int}:∀{l:List (Nat×Item)}{acc:List UInt8},l.foldl (λacc p=>acc++p.2.oct (w p)) acc=acc++l.flatMap λp=>p.2.oct (w p):=by intro b;induction b with|nil=>rwa[(VC _).symm]|cons p l a=>intro acc;simp![hM];simp![a,VY,VA]
theorem iK(A:FD q f ms)(hs:∀x∈ns,x∈ms)(h:rd f ns)(m:maps.length<=1000):C (k+3) `_law_told [.cell 1,.d (.list (ns.map .str)),.d (.list (maps.map Row.tup)),.d (.list (used.map .str))] [p,q]=.ok (.d (lX f ns maps used).tup) [p,q]:=by
 injections ms _ ns used maps q k f p;have b:=h.len;simp![A3];erw[dZ ?_];rw[A4,aB (qa A hs h),EX];delta UM;simp![c7];have B:=kE (U:=C (k+2)) (F:=cb) (n:=23) (s:=iG) (c:=gF) (β:=V) (ys:=place 0 (ns.flatMap f)) (w:=[]) (u:=(none,none)) p9 (λacc p=>some (acc++p.2.oct none)) (λacc(u:Option V×Option V)=>cE (some (.cell 1)) (some (.d (.list (ns.map .str)))) (some (.d (.list (maps.map Row.tup)))) (some (.d (.list (used.map .str)))) (some (.d (.list ((a0 f 0 ns).map bV)))) (some (.d (.list (((place 0 (ns.flatMap f)).filterMap gn).map c8)))) (some (.d (.list ((place 0 (ns.flatMap f)).map p9)))) (some (.d (.list (bL acc)))) u.1 u.2) (λY=>[p,q]) (λys acc=>acc.length+16*ys.length<=2000) (λY=>True) (kn:=λl=>Sk (C (k+2)) cb 3 l) (kr:=λv=>ret v) (by rw[place_len];show 0+_<=2000;rwa[a_1 (Vt 16 b)]) λr o ys acc u g=>by dsimp![f5]at g;have j:=qb (it:=r.2) (w:=none);have D:=(BX (it:=r.2)).2;erw[⟨by dsimp only;rw[al];rwa[mM (m8 j) (Vt 8 D) g],(some (.d (.int (r.1:Nat))),some (.d r.2.D)),?_⟩];dsimp![p9];rw[A6,wA,show V.d .none=wV none from rfl,lV λd x e=>x_12 (Xc.mp (mz o)) λy t E=>h.dst y t _ E d x e];dsimp![ac];rw[KI (mM (m8 j) (Vt 8 D) g)];rfl
 rw[lU,KQ (w:=λY=>none)]at B;obtain⟨g,u,e⟩:=B;erw[Vn e ?_];have i:((place 0 (ns.flatMap f)).flatMap λp=>p.2.oct none)=(ns.flatMap f).flatMap (Item.oct none):=by conv=>rhs;rw[<-xO (a:=ns.flatMap f) (s:=0),List.flatMap_map]
 rw[X7,i]at g;simp![X7];erw[(i)▸?_];rw[A5];dsimp![iZ,ac];rw[Ny Row.tup (λr=>decide (r.name∈used)) Row.tup (big (lb m)) (by erw[λr Y w=>Vn A7 ((show ay (.d r.tup) (.d (.int 0))=ret (.str r.name)by kernel_rfl)▸?_)];simp![fL,ac,kh,fV];cases decide (r.name∈used)<;>rfl)];wtm_at "e";rw[lN (by rw[Vo];rwa[Vw (VP ..) (lb m)]),BY (a_1 g),lN,lN]; ·rfl
 ·rw[Vo];have:=Xf gn (place 0 (ns.flatMap f));simp![place_len]at this;rwa[a_2 this b]
 ·rw[Vo];have:∀(l:List Nm)s,(a0 f s l).length=l.length:=by intro l;induction l with|nil=>rwa[λY=>rfl]|cons x l z=>rwa[λs=>VT ah6 (z _)]
  rw[this];have:=h.nl;rwa[a_1 this]
def ko(f:Nm->List Item)(ns:List Nm):List Nm:=(ns.flatMap f).filterMap Item.call
def dm(f:Nm->List Item)(ns found:List Nm):List Nm:=ns.filter λx=>decide (x∈found)||decide (x∈ko f found)
def bZ(f:Nm->List Item)(ns:List Nm):List Nm:=ns.foldl (λfound Y=>dm f ns found) (ns.take 1)
theorem DO{found:List Nm}(h:FD q f ms)(hs:∀x∈found,x∈ms)(g:found.length<=10)(i:∀x∈found,(f x).length<=10):Ey U 18 (ai aR.sc (mN bN)) dI (z1::(`one,none)::(`item,none)::z1::(`name,z)::aF (some (.cell 1)) m y B) (.items (found.map .str)) [p,q]=.ok ((ko f found).map .str) [p,q]:=by simp![KL (U:=U) (n:=18) (σ:=[p,q]) (sc:=ai aR.sc (mN bN)) (e:=dI) Dat.str Item.D (λu:Option V×Option V=>z1::(`one,u.1)::(`item,u.2)::z1::(`name,z)::aF (some (.cell 1)) m y B) f (λa=>a.call.map .str) ∅ (ys:=found) (w:=(none,none)) (K:=10) (a_1 (Vt 10 g)) i (by erw[λx d u=>m_12 (some (.d (.str x)),u.2) uM ?_];rw[uN,h.get (hs x d)];rfl) (by intro a u;simp![uL];rw[O5];dsimp![fL,ac];erw[(KM)▸?_];cases e:a.call.isSome with|false=>erw[⟨(u.1,some (.d a.D)),(Yr.mp (by rw[<-an4,e];rfl))▸?_⟩];rfl|true=>simp![qk,fV,qk,KJ,<-NX e];rwa[⟨(u.1,some (.d a.D)),rfl⟩]),KN];rfl
theorem si(j:FD q f ms)(o:∀x∈ns,x∈ms)(i:rd f ns):C (k+1) `_law_reached [.cell 1,.d (.list (ns.map .str))] [p,q]=.ok (.d (.list ((bZ f ns).map .str))) [p,q]:=by
 injections ms p _ ns q k f;have g:=i.nl;simp![uH];erw[dZ ?_];rw[uI,jA (l:=none) (h:=some 1) rfl rfl (by rw[Vo];rwa[a_1 g])];dsimp![fL,ac];erw[(show cut none (some 1) (ns.map Dat.str)=(ns.take 1).map .str by simp![Zc];rfl)▸?_];have m:=kE (U:=C k) (F:=aR) (n:=23) (s:=eY) (c:=gF) (β:=V) (ys:=ns) (w:=ns.take 1) (u:=none) Dat.str (λfound Y=>some (dm f ns found)) (λfound(u:Option V)=>aF (some (.cell 1)) (some (.d (.list (ns.map .str)))) (some (.d (.list (found.map .str)))) u) (λY=>[p,q]) (λY found=>(∀x∈found,x∈ns)/\found.length<=10) (λY=>True) (kn:=λl=>Sk (C k) aR 2 l) (kr:=λv=>ret v) ⟨λx a=>Wu a,lb (Xn ..)⟩ λx a ys found u b=>by erw[⟨⟨λy d=>(V8.mp d).1,Vw (VP ..) g⟩,some (.d (.str x)),?_⟩];rw[uJ,qU];delta cu;rw[aw];erw[Vn (aB (zF (U:=C k) (n:=21) (σ:=[p,q]) (sc:=aR.sc) (e:=bN) Dat.str (λy:Nm=>if(decide (y∈found)||decide (y∈ko f found))=true then some (Dat.str y)else none) (λu:Option V=>z1::(`name,u)::aF (some (.cell 1)) (some (.d (.list (ns.map .str)))) (some (.d (.list (found.map .str)))) (some (.d (.str x)))) none (ys:=ns) (big (by lia)) (by erw[λy d u=>⟨some (.d (.str y)),?_⟩];rw[uK,kh];rw[Qx];cases e:decide (y∈found)with|true=>rfl|false=>dsimp![oH];dsimp![iZ,ac];dsimp![de,hO,cu];simp![aw];erw[Vn (aB (DO j (λx a=>o x (b.1 x a)) b.2 λx a=>i.its x (b.1 x a))) ?_];dsimp![ac];erw[(kh)▸?_];cases decide (y∈ko f found)<;>rfl))) ?_];rw[BB];rfl
 simp![lU]at m;obtain⟨-,u,e⟩:=m;erw[Vn e ?_];rfl
def Rt{υ:Type}(I:τ->Prop)(L:τ->υ->Ls)(σ:ae)(kn:Ls->M β)(kv:M β)(o:Option τ)(x:Res β):Prop:=match o with|some w=>I w/\∃u,x=kn (L w u) σ|none=>x=kv σ
theorem KR{s:Stmt}{A d e:Type}(c:A->Dat)(a:d->A->Option d)(L:d->e->Ls)(I:List A->d->Prop){kn:Ls->M β}{kr:V->M β}{v:V}:∀{ys:List A}{w:d}{u:e},I ys w->(∀y∈ys,∀f w u,I (y::f) w->Rt (I f) L σ EU (ret (.ret v)) (a w y) (gr U F n s (c y) (L w u) σ))->Rt (I []) L σ kn (kr v) (run a w ys) (fr U F n s (L w u) kn kr (.items (ys.map c)) σ)|[],w,u,i,_=>⟨i,u,rfl⟩|y::ys,w,u,i,b=>by have t:=b y (Vv ..) ys w u i;rw[(by rw[<-aw];rfl:fr U F n s (L w u) kn kr (.items ((y::ys).map c)) σ=aa (gr U F n s (c y) (L w u)) (λr=>aa (match r with|.next l=>forL (gr U F n s) (ys.map c) l|.ret v=>ret (.ret v)) (tF kn kr)) σ)];dsimp![run];cases q:a w y with|none=>rw[q]at t;rwa[aB t]|some g=>rw[q]at t;obtain⟨i1,h,j⟩:=t;rwa[(aB j)▸KR c a L I (kn:=kn) (kr:=kr) (ys:=ys) (w:=g) (u:=h) i1 λz k=>b z (VB _ k)]
noncomputable def oA(p:Nm×Dat):Dat:=.tuple [.str p.1,p.2]
theorem KS:∀{ks:List Nm}{vs:List Dat},x∉ks->ks.length=vs.length->putK x d ks vs=(ks++[x],vs++[d]):=by
 intro g;induction g with
 |nil=>intro b;cases b with|nil=>rwa[λY Y=>rfl]|cons _ _=>rwa[λY h=>L2 h]
 |cons k ks c=>intro a;cases a with|nil=>rwa[λY h=>Hj h]|cons v vs=>intro h f;show(match decide (x=k)with|true=>(k::ks,d::vs)|false=>(k::(putK x d ks vs).1,v::(putK x d ks vs).2))=_;rw[VO λe=>h (by rwa[(e)▸(Vv .. )])];rw[c (λe=>h (VB _ e)) (ae4 f)];rfl
theorem G0:∀{l:List (Nm×Dat)}{ks:List Nm}{vs:List Dat},(ks++l.map (·.1)).Nodup->ks.length=vs.length->pairs (l.map oA) ks vs=some (ks++l.map (·.1),vs++l.map (·.2)):=by intro c;induction c with|nil=>intro ks vs _ _;show some (ks,vs)=some (ks++[],vs++[]);rw[VC,VC]|cons p l b=>intro ks vs h a;show pairs (l.map oA) (putK p.1 p.2 ks vs).1 (putK p.1 p.2 ks vs).2=_;rw[KS (λe=>(XG.mp h).2.2 _ e _ (Vv ..) rfl:p.1∉ks) a,b (by rw[VA];rwa[h]) (by simp![al,al,a];rfl),VA,VA];rfl
theorem KU{l:List (Nm×Dat)}(h:(l.map (·.1)).Nodup)(a:l.length<=1000000):bi `dict [.d (.list (l.map oA))]=ret (.dict (l.map (·.1)) (l.map (·.2))):=by funext σ;erw[Nx ?_];show(pairs (l.map oA) [] []).bind (λr=>within (l.map oA).length (Dat.dict r.1 r.2))=_;rw[G0 (h) rfl];rwa[iH (by rw[Vo];rwa[big a])]
theorem BZ:∀{l:List (Nm×Nat)},bS x (l.map λp:Nm×Nat=>p.1) (l.map λp:Nm×Nat=>Dat.int (p.2:Nat))=(symAt l x).map λ(g:Nat)=>Dat.int g:=by intro b;induction b with|nil=>rwa[rfl]|cons p l a=>delta symAt;dsimp![fo];erw[((V1.mpr ⟨am,am⟩:decide (p.1=x)=decide (x=p.1)))▸?_];show(match decide (x=p.1)with|true=>some (Dat.int (p.2:Nat))|false=>bS x (l.map λp:Nm×Nat=>p.1) (l.map λp:Nm×Nat=>Dat.int (p.2:Nat)))=_;erw[(a)▸?_];cases decide (x=p.1)<;>rfl
noncomputable def numAt(x:Nm):Nat->List Row->Option Nat|_,[]=>none|i,r::l=>match decide (r.name=x)with|true=>some i|false=>numAt x (i+1) l
theorem KV:∀{l:List Row}{i:Nat},bS x ((l.zipIdx i).map λp:Row×Nat=>p.1.name) ((l.zipIdx i).map λp:Row×Nat=>Dat.int (p.2:Nat))=(numAt x i l).map λ(g:Nat)=>Dat.int g:=by intro b;induction b with|nil=>rwa[rfl]|cons r l a=>intro i;dsimp![numAt];erw[((V1.mpr ⟨am,am⟩:decide (r.name=x)=decide (x=r.name)))▸?_];show(match decide (x=r.name)with|true=>some (Dat.int i)|false=>bS x ((l.zipIdx (i+1)).map λp:Row×Nat=>p.1.name) ((l.zipIdx (i+1)).map λp:Row×Nat=>Dat.int (p.2:Nat)))=_;erw[(a)▸?_];cases decide (x=r.name)<;>rfl
theorem KW:∀{l:List Row}{i:Nat},numAt x (i+1) l=(numAt x i l).map (· +1):=by intro b;induction b with|nil=>rwa[rfl]|cons r l a=>intro i;dsimp![numAt];cases decide (r.name=x)with|true=>rfl|false=>rwa[a]
theorem G1:∀{l:List Row},mapNo l x=numAt x 0 l:=by intro b;induction b with|nil=>rwa[rfl]|cons r l a=>dsimp![mapNo,numAt];dsimp![f5];rw[Xo,fo];show(match decide (r.name=x)with|true=>some 0|false=>_)=_;cases decide (r.name=x)with|true=>rfl|false=>rw[List.find?_map,KW,<-a];congr 1
theorem enum_zip{b:A->Dat}:∀{l:List A}{i:Nat},kY i (l.map b)=(l.zipIdx i).map λp=>.tuple [.int (p.2:Nat),b p.1]:=by intro d;induction d with|nil=>rwa[rfl]|cons a l c=>rwa[VT (af2 _) c]
theorem G2{l:List Row}:(l.zipIdx i).map (λp=>p.1.name)=l.map (·.name):=by rw[show(λp:Row×Nat=>p.1.name)=Row.name∘Prod.fst from rfl,<-VQ,ac2]
theorem in_dict:cmp .In (.d (.str x)) (.d (.dict ks vs))=ret (bS x ks vs).isSome:=by rfl
theorem KY(h:bS x ks vs=some d):ay (.d (.dict ks vs)) (.d (.str x))=ret d:=by funext σ;show alt (lift (bS x ks vs) σ) _=_;erw[(h)▸?_];rfl
theorem get_dict:cV U `get (.d (.dict ks vs)) [.d (.str x)]=ret (.d ((bS x ks vs).getD .none)):=∅
def ft(sy:List (Nm×Nat))(maps:List Row)(p:Nat×Item):Option Int:=match p.2 with|.mp _ x=>(mapNo maps x).map λ(i:Nat)=>i|.cl x=>(symAt sy x).map λ(g:Nat)=>g-(p.1:Int)-1|_=>none
def fX(sy:List (Nm×Nat))(maps:List Row)(acc:List UInt8)(p:Nat×Item):Option (List UInt8):=match(gn p).isSome&&(ft sy maps p).isNone with|true=>none|false=>some (acc++p.2.oct (ft sy maps p))
def mA(f:Nm->List Item)(ns:List Nm)(maps:List Row):Option (List UInt8):=run (fX (a0 f 0 ns) maps) [] (place 0 (ns.flatMap f))
noncomputable def KZ:Option (List UInt8)->Dat|some b=>.bytes b|none=>.none
section
variable{acc:List UInt8}{a b c:Option V}
noncomputable def mB(sy:List (Nm×Nat)):Dat:=.dict (sy.map λp:Nm×Nat=>p.1) (sy.map λp:Nm×Nat=>.int (p.2:Nat))
noncomputable def xP(maps:List Row):Dat:=.dict (maps.zipIdx.map λp:Row×Nat=>p.1.name) (maps.zipIdx.map λp:Row×Nat=>.int (p.2:Nat))
def N0(v0 v1 v2 v3 v4 v5:V)(sy:List (Nm×Nat))(maps:List Row)(acc:List UInt8)(a b c:Option V):Ls:=aC (some v0) (some v1) (some v2) (some v3) (some v4) (some v5) (some (.d (mB sy))) (some (.d (xP maps))) (some (.d (.list (bL acc)))) a b c
theorem S7{w:Option Int}:cmp .Is (wV w) (.d .none)=ret w.isNone:=by cases w with|none=>rwa[Rv.1]|some m=>rwa[Rv.2 m]
theorem Q5{w:Option Int}(hd:∀d x,p.2=.mp d x->d.toNat<16)(a:acc.length<=900000):Bt (C (k+2)) av 23 aE 3 (N0 v0 v1 v2 v3 v4 v5 sy maps acc (some (.d (.int (p.1:Nat)))) (some (.d p.2.D)) (some (wV w)))=match(gn p).isSome&&w.isNone with|true=>ret (.ret (.d .none))|false=>EU (N0 v0 v1 v2 v3 v4 v5 sy maps (acc++p.2.oct w) (some (.d (.int (p.1:Nat)))) (some (.d p.2.D)) (some (wV w))):=by erw[Vn sb ?_];rw[O5];simp![fL,ac,UE,mX,mW];rw[S6 (s:=p.1),S7];simp![xr,GP,fV,W0];rw[show Item.rel p.1 p.2=gn p from rfl];cases(gn p).isSome&&w.isNone with|true=>rfl|false=>erw[Vn sd ?_];rw[lV hd];dsimp![ac];rw[KI (by have:=qb (it:=p.2) (w:=w);have:=(BX (it:=p.2)).2;lia)];rfl
theorem S8(h:∀w,w=ft sy maps p->Bt (C (k+2)) av 23 aE 3 (N0 v0 v1 v2 v3 v4 v5 sy maps acc (some (.d (.int (p.1:Nat)))) (some (.d p.2.D)) (some (wV w)))=kn):gr (C (k+2)) av 23 aE (p9 p) (N0 v0 v1 v2 v3 v4 v5 sy maps acc a b c)=kn:=by
 injections a b c p _ sy maps k acc v0 v1 v2 v3 v4 v5 kn;obtain⟨s,it⟩:=p;dsimp![N0]at h⊢;dsimp![p9];simp![wI,r9,sa,O5];simp![fL,ac,O6,fV];have none:it.use=none->it.call=none->xm it.use.isSome (aa (cY (C (k+2)) `get (.d (xP maps)) (ao [bD (ay (.d it.D) (.d (.int 2)))])) λj=>Bt (C (k+2)) av 23 aE 2 (aC (some v0) (some v1) (some v2) (some v3) (some v4) (some v5) (some (.d (mB sy))) (some (.d (xP maps))) (some (.d (.list (bL acc)))) (some (.d (.int s))) (some (.d it.D)) (some j))) (Bt (C (k+2)) av 23 aE 2 (aC (some v0) (some v1) (some v2) (some v3) (some v4) (some v5) (some (.d (mB sy))) (some (.d (xP maps))) (some (.d (.list (bL acc)))) (some (.d (.int s))) (some (.d it.D)) (some (.d .none))))=kn:=by intro f h2;rw[f,show(al1:Option Nm).isSome=false from rfl];dsimp![oH];erw[Vn im ?_];rw[O5];simp![fL,ac,KM];rw[h2,(rfl:(al1:Option Nm).isSome=false)];rwa[h al1 (by obtain⟨⟩:=it<;>first|rfl|(rwa[k_sn f];done)|(rwa[k_sn h2];done))]
 cases it with|mv d n=>rwa[none rfl rfl]|wd d n=>rwa[none rfl rfl]|ex=>rwa[none rfl rfl]|mp d x=>rw[show(Item.use (.mp d x)).isSome=true from rfl];dsimp![qk];rw[KJ];simp![fL,ac,dX,dW,dv];rw[show Item.nm (.mp d x)=.str x from rfl];delta xP;rw[get_dict,KV,<-G1];erw[Vn c7 (Vn im ?_)];rw[O5];erw[Vn ?_ (h ((mapNo maps x).map λ(i:Nat)=>i) rfl)];rw[show V.d (((mapNo maps x).map λ(g:Nat)=>Dat.int g).getD .none)=wV ((mapNo maps x).map λ(i:Nat)=>i)by cases mapNo maps x<;>rfl];rfl|cl x=>rw[show(Item.use (.cl x)).isSome=false from rfl];dsimp![oH];erw[Vn im ?_];rw[O5];simp![fL,ac,KM];rw[show(Item.call (.cl x)).isSome=true from rfl,KJ];dsimp![fL,ac];rw[show Item.nm (.cl x)=.str x from rfl];delta mB;rw[in_dict,BZ];simp![xr,GP,fV,W0];rw[as7];have h:=h ((symAt sy x).map λ(g:Nat)=>g-s-1) rfl;cases e:symAt sy x with|none=>replace h:=(e)▸h;rwa[h]|some g=>rw[e]at h;rw[show((some g).map λ(g:Nat)=>Dat.int g).isSome=true from rfl];dsimp![qk];rw[KY (d:=.int g) (by rw[BZ,e];rfl)];dsimp![fL,ac];dsimp![BG];dsimp![fL,ac];dsimp![BG];have h:_=kn:=h;unfold mB at h;rw[(rfl:am6 (λ(g:Nat)=>g-(s:Int)-1) (some g)=some (g-(s:Int)-1))]at h;dsimp![fL,ac];rwa[h]
theorem N1{acc:List UInt8}(hd:∀d x,p.2=.mp d x->d.toNat<16)(g:acc.length<=900000):gr (C (k+2)) av 23 aE (p9 p) (N0 v0 v1 v2 v3 v4 v5 sy maps acc a b c)=match fX sy maps acc p with|none=>ret (.ret (.d .none))|some e=>EU (N0 v0 v1 v2 v3 v4 v5 sy maps e (some (.d (.int (p.1:Nat)))) (some (.d p.2.D)) (some (wV (ft sy maps p)))):=by erw[S8 λw f=>?_];subst f;erw[Vn (Q5 hd g) ?_];delta fX;cases(gn p).isSome&&(ft sy maps p).isNone<;>rfl
end
theorem cL:∀{ns:List Nm}{s:Nat},(a0 f s ns).map (λp=>p.1)=ns:=by intro b;induction b with|nil=>rwa[rfl]|cons x ns a=>rwa[VT (af2 x) a]
theorem lY(H:FD q f ms)(J:∀x∈ns,x∈ms)(g:rd f ns)(z:maps.length<=1000)(E:ns.Nodup)(i:(maps.map Row.name).Nodup)(hv:bI `enumerate [I]=ret (.pairs (kY 0 (maps.map Row.tup)))):C (k+3) `_law_filled [.cell 1,.d (.list (ns.map .str)),I] [p,q]=.ok (.d (KZ (mA f ns maps))) [p,q]:=by
 injections ms _ ns maps q k f I p;have c:=g.len;have m:=g.nl;simp![wB];erw[dZ ?_];rw[wC,aB (qa H J g),EX];delta UM;dsimp only;rw[wH,wD];simp![show bi `dict [.d (.list ((a0 f 0 ns).map bV))]=ret (mB (a0 f 0 ns))from by have h:=KU (l:=(a0 f 0 ns).map λp=>(p.1,Dat.int (p.2:Nat))) (by rw[VQ];show((a0 f 0 ns).map λp=>p.1).Nodup;rw[cL];rwa[E]) (by have:=VT sA (cL (f:=f) (ns:=ns) (s:=0));rw[Vo]at this;rw[Vo];rwa[a_2 (m8 this) m]);rw[VQ,VQ,VQ]at h;rwa[h],hv,enum_zip];simp![fL,ac,dX,dW];rw[uU (λp:Row×Nat=>Dat.tuple [.int (p.2:Nat),p.1.tup]) (λp=>some (oA (p.1.name,.int (p.2:Nat)))) (λw:Option V×Option V=>z1::(`number,w.1)::(`row,w.2)::aC _ _ _ _ _ _ _ _ _ _ _ _) (none,none) (by rw[Xd];rwa[big (lb z)]) ∅ (by erw[λp Y w=>⟨(some (.d (.int (p.2:Nat))),some (.d p.1.tup)),?_⟩];rfl),W7];simp![BF,ac];rw[(by have h:=KU (l:=maps.zipIdx.map λp=>(p.1.name,Dat.int (p.2:Nat))) (by rw[VQ];show((maps.zipIdx).map λp=>p.1.name).Nodup;rw[G2];rwa[i]) (by rw[Vo,Xd];rwa[lb z]);rw[VQ,VQ,VQ]at h;rwa[h]:bi `dict [.d (.list (maps.zipIdx.map λp=>oA (p.1.name,.int (p.2:Nat))))]=ret (xP maps))];dsimp![fL,ac];have j:=KR (U:=C (k+2)) (F:=av) (n:=23) (s:=aE) (σ:=[p,q]) (β:=V) (ys:=place 0 (ns.flatMap f)) (w:=[]) (u:=(none,none,none)) (v:=.d .none) p9 (fX (a0 f 0 ns) maps) (λacc(u:Option V×Option V×Option V)=>N0 (.cell 1) (.d (.list (ns.map .str))) I (.d (.list ((a0 f 0 ns).map bV))) (.d (.list (((place 0 (ns.flatMap f)).filterMap gn).map c8))) (.d (.list ((place 0 (ns.flatMap f)).map p9))) (a0 f 0 ns) maps acc u.1 u.2.1 u.2.2) (λys acc=>acc.length+16*ys.length<=2000) (kn:=λl=>Sk (C (k+2)) av 3 l) (kr:=λv=>ret v) (by rw[place_len];show 0+_<=2000;rwa[a_1 (Vt 16 c)]) λr B ys acc u a=>by simp![ar]at a;rw[N1 (λd x e=>x_12 (Xc.mp (mz B)) λy D hi=>g.dst y D _ hi d x e) (a_1 a)];cases e:fX (a0 f 0 ns) maps acc r with|none=>rwa[rfl]|some t=>erw[⟨?_,(_,_,_),rfl⟩];delta fX at e;cases o:(gn r).isSome&&(ft (a0 f 0 ns) maps r).isNone with|true=>replace e:=(o)▸e;rwa[k_nn e]|false=>replace e:=(o)▸e;injection e with G;subst G;have:=qb (it:=r.2) (w:=ft (a0 f 0 ns) maps r);have:=(BX (it:=r.2)).2;rw[al];lia
 delta mA;cases e:run (fX (a0 f 0 ns) maps) [] (place 0 (ns.flatMap f))with|none=>rw[e]at j;rwa[j]|some b=>rw[e]at j;obtain⟨a,u,A⟩:=j;have a:b.length+0<=2000:=a;erw[Vn A ?_];dsimp only;delta N0;rw[wF,BY (a_1 a)];rfl
theorem iL(h:∀y∈ps,bi `str [.d y.1]=ret (.str y.2))(c:ps.length<=1000)(d:(aS (T " ") (w::ps.map (·.2))).length<=1000):C (k+1) `_law_line [.d (.str w),.d (.tuple (ps.map (·.1)))]=ret (.d (.str (aS (T " ") (w::ps.map (·.2))))):=by funext σ;simp![Bd];erw[dZ ?_];rw[Be];simp![zf,mX,mW,uX,ac];rw[Cm (λy:Dat×Nm=>y.1) (λy=>Dat.str y.2) (big (lb c)) (by erw[λy e u=>Vn Bf ?_];simp![h y e];rfl)];simp![BF,ac,dX,dW];rw[oj (by rw[Vo];show 1+_<=_;rwa[a_1 c])];have b:=uS (U:=C k) (h:=λx:Nm=>x) (sep:=T " ") (l:=w::ps.map (·.2)) (by rw[XZ,T1];show _+1<=_;rw[T1]at d;rwa[a_1 d]);rw[XZ,V3,VQ]at b;show aa (cV (C k) `join (.d (.str (T " "))) [.d (.list (.str w::ps.map λy=>.str y.2))]) _ σ=_;rw[show(ps.map λy=>Dat.str y.2)=ps.map ((λa=>Dat.str a)∘λx:Dat×Nm=>x.2)from rfl,b];rfl
theorem Q6(h:c<=100000):bI `range [.d (.int 0),.d (.int ((8*c:Nat):Int)),.d (.int 8)]=ret (.items ((eg c).map λi=>Dat.int ((8*i:Nat):Int))):=by delta bI;erw[(show(three [V.d (.int 0),V.d (.int ((8*c:Nat):Int)),V.d (.int 8)]).bind (λr=>Cv r.1 r.2.1 r.2.2)=_ from show Cv (.d (.int 0)) (.d (.int ((8*c:Nat):Int))) (.d (.int 8))=some (Src.items ((eg c).map λi=>Dat.int ((8*i:Nat):Int)))from by show ir (decide ((0:Int)=0)&&decide ((0:Int)<8)&&decide ((8:Int)<=1000)&&decide (0<=((8*c:Nat):Int))&&decide (((8*c:Nat):Int)<=10000000)) (some (Src.items (kX 0 ((8*c:Nat):Int) 8)))=_;rw[Vz (show((8*c:Nat):Int)<=10000000 by lia),Vz (Wf _)];show some (Src.items (d7 0 ((((8*c:Nat):Int)-0+8-1).fdiv 8).toNat 8))=_;rw[Wq _ #v[],show((((8*c:Nat):Int)-0+8-1)/8).toNat=c from by rw[Int.sub_zero,Int.add_sub_assoc];rwa[(aq4 #v[] c 7).trans (YV c)]];have:=((by intro n;induction n with|zero=>intro a;rfl|succ n b=>intro a;simp![Xo,V3,VQ];show Dat.int _::d7 (((8*a:Nat):Int)+8) n 8=_;simp![show((8*a:Nat):Int)+8=((8*(a+1):Nat):Int)by lia,b (a+1)];congr 1;erw[WR λi Y=>?_];congr 3;simp +arith only:∀(n a:Nat),d7 ((8*a:Nat):Int) n 8=(eg n).map λi=>Dat.int ((8*(a+i):Nat):Int))) c 0;rw[show((8*0:Nat):Int)=0 from rfl]at this;rw[this];simp![Wg])▸?_];kernel_rfl
theorem O7{h:A->Int}{l:List A}:bi `sum [.d (.list (l.map λa=>.int (h a)))]=ret (.int (l.map h).sum):=by funext σ;erw[QA ?_];show(yd (l.map λa=>.int (h a))).map (λb=>Dat.int b.sum)=_;rw[Bz];rfl
theorem EY:(b.zipIdx.map λp=>((p.2:Nat)+1:Int)*(p.1.toNat:Nat)).sum=u0 b:=by injections b;delta u0;simp![(by intro l g;induction l with|nil=>rwa[λa=>(Int.add_zero a).symm]|cons i l d=>erw[λa=>Vn hM ?_];simp![d,V3,as4,Int.add_assoc]:∀(l:List Nat)(g:Nat->Int)a,l.foldl (λt i=>t+g i) a=a+(l.map g).sum),Int.zero_add];congr 1;erw[ZZ (by simp![Vo,Vo,Xd];simp![VN]) λi c e=>?_];simp![Vo,Xd]at c;rw[Y9,Y9,List.getElem_zipIdx,ZG,VL,VG c];simp![Wg];rfl
theorem K0{f:V->M β}{b c:List Dat}(h:b.length+c.length<=1000000):aa (Hz (.d (.list b)) (.d (.list c))) f σ=f (.cell σ.length) (σ++[.list (b++c)]):=by erw[aB ?_];show opt (within (b.length+c.length) (b++c)) (λa=>aM (.list a) σ)=_;erw[(iH (big h))▸?_];rfl
theorem N2:aS w (h::m::p)=h++w++aS w (m::p):=rfl
theorem tw:T "map "=T "map"++T " "/\T "symbol "=T "symbol"++T " "/\T "relocation "=T "relocation"++T " "/\T "end "=T "end"++T " ":=⋯
theorem N3{r:Row}:aS (T " ") (T "map"::r.words)=oq r:=by rfl
theorem N4:aS (T " ") [T "symbol",p.1,num p.2]=ot p:=by delta ot;rfl
theorem qc:aS (T " ") [T "relocation",num p.1,p.2.1,p.2.2]=mY p:=by delta mY;erw[(tw.2.2.1)▸?_];show T "relocation"++T " "++(num p.1++T " "++(p.2.1++T " "++p.2.2))=_;simp![VA]
theorem EZ:aS (T " ") [T "end",num n,num m]=gE n m:=by delta gE;rfl
theorem mC{s e:Nm}:∀{l:List Nm},aS s (l++[e,[]])=aS s (l++[e])++s|[]=>VC _|[a]=>by show a++s++(e++s++[])=a++s++e++s;simp![VA,VC]|a::b::l=>by have:=mC (s:=s) (e:=e) (l:=b::l);show a++s++aS s (b::l++[e,[]])=a++s++aS s (b::l++[e])++s;simp![this];simp![VA]
theorem S9(h:ms σ=.ok as σ):cY U m p ms σ=cV U m p as σ:=by dsimp![cY,cV,aa,reads];cases dO (iT U) m p σ with|none=>rfl|some a=>dsimp only;rw[h]
theorem K1(h:o.Ok){r:Row}(a:r∈o.maps):C (k+1) `_law_line [.d (.str (T "map")),.d r.tup]=ret (.d (.str (oq r))):=iL (ps:=r.parts) (xx h a) (show 5<=1000 by decide) (lb (EL h a))
theorem K2(h:o.Ok)(b:p∈o.syms):C (k+1) `_law_line [.d (.str (T "symbol")),.d (bV p)]=ret (.d (.str (ot p))):=by
 rwa[iL (ps:=[(.str p.1,p.1),(.int (p.2:Nat),num p.2)]) (λy a=>by
  rcases VD.mp a with rfl|a; ·rwa[vb]
  ·rwa[(Vy.mp a)▸(i9 (h.sym p b).2)]) (by show 2<=1000;decide) (lb (zm h b))]
theorem K3(h:o.Ok)(b:p∈o.rels):C (k+1) `_law_line [.d (.str (T "relocation")),.d (c8 p)]=ret (.d (.str (mY p))):=by
 injections k o _ p;rwa[(qc)▸iL (ps:=[(.int (p.1:Nat),num p.1),(.str p.2.1,p.2.1),(.str p.2.2,p.2.2)]) (λy a=>by
  rcases VD.mp a with rfl|a; ·rwa[i9 (h.rel p b).1]
  ·rcases VD.mp a with rfl|a; ·rwa[vb]
   ·rwa[(Vy.mp a)▸vb]) (by show 3<=1000;decide) ((qc)▸lb (zo h b))]
theorem K4(b:n<10000000000)(c:m<10000000000):C (k+1) `_law_line [.d (.str (T "end")),.d (.tuple [.int n,.int (m:Nat)])]=ret (.d (.str (gE n m))):=by
 rwa[iL (ps:=[(.int n,num n),(.int m,num m)]) (λy a=>by
  rcases VD.mp a with rfl|a; ·rwa[i9 b]
  ·rwa[(Vy.mp a)▸(i9 c)]) (by show 2<=1000;decide) (lb (zp b c))]
def Ta(o:Ob)(a b c d:Option V):Ls:=aA (some (.d o.tup)) (some (.d (.tuple (o.maps.map Row.tup)))) (some (.d (.bytes o.oct))) (some (.d (.tuple (o.syms.map bV)))) (some (.d (.tuple (o.rels.map c8)))) a b c d
theorem G3{xs:List Dat}(h:o.Fit)(d:i<=100000)(f:xs.length<=1000000):∃e:Option V×Option V,gr (C (k+1)) az 23 dN (.int ((8*i:Nat):Int)) (Ta o (some (.cell 2)) u.1 u.2 none) ([p,q]++[.list xs])=.ok (.next (Ta o (some (.cell 2)) e.1 e.2 none)) ([p,q]++[.list (xs++[.str (ja (o.slotB i))])]):=by injections q k i o u p xs;delta Ta;simp![Bo,wJ,QL];simp![Ck,c7];rw[uW (gC (a_1 (Vt 8 d))) (gC (a_1 (Vt 8 d))) h.oct,show cut (some (8*i)) (some (8*i+8)) o.oct=o.slotB i from rfl];simp![fL,ac,QK];have a:(o.slotB i).length<=8:=lO;rw[Cm (λc:UInt8=>Dat.int c.toNat) (λc=>Dat.str (hex2 c)) (lb a) (by intro c _ w;have g:=c.toNat_lt;erw[Vn Bu ?_];rw[show(16:Int)=((16:Nat):Int)from rfl,DL #v[] #v[],DK #v[]];simp![fL,ac];rw[kb (by rw[rA];rwa[Tz c]) (by rw[rA];decide),kb (by rw[rA];rwa[a_1 (ZD c.toNat (by decide:16>0))]) (by rw[rA];decide)];simp![Ck,c7];rfl)];rw[Uy,c7];simp![wK,show T ""=[]by decide +kernel,uS (h:=hex2) (sep:=[]) (by rw[jM];show(hexOf (o.slotB i)).length+0<=_;rw[sD];rwa[a_1 (Vt 2 a)]),jM];simp![c7,GO,GN];rw[show((o.slotB i).map hex2).flatten=hexOf (o.slotB i)from rfl,eP (lb (VZ (tl (b:=5) ⋯) (DB a)))];simp![Ck,c7,dv];rw[kC (c:=2) (xs:=xs) rfl f];rwa[⟨(some (.d (.int ((8*i:Nat):Int))),some (.d (.list ((o.slotB i).map λc=>.str (hex2 c))))),rfl⟩]
theorem Q7{f:A->Nm}{l:List A}:(l.map f).map Dat.str=l.map λx=>Dat.str (f x):=by simp![VQ];rfl
theorem K5{t:ae}(h:m=.ok (.d d) (σ++t)):back false σ.length m=.ok (.d d) σ:=(h)▸Kq
theorem Q8{d:List A}(b:A->Dat)(g:A->Nm)(c:d.length<=1000000)(a:∀y∈d,∀w,jg U n sc e (b y) ((x0,none)::(x1,w)::ls)=ret ((x0,none)::(x1,some (.d (b y)))::ls,some (.str (g y)))):cu (bR U n sc e ((x0,none)::(x1,none)::ls) (.items (d.map b)))=ret (.d (.list ((d.map g).map .str))):=by simp![Cm b (λy=>.str (g y)) (big c) a,Q7];rfl
def Ob.front(o:Ob):List Nm:=[T "ringgate object 1"]++o.maps.map oq++o.slots.map ja
theorem G4:o.front.length=1+o.maps.length+o.count:=by dsimp![Ob.front,Ob.slots];simp![al,Vo,Vo,Vo,VN];rfl
theorem zH(h:o.Ok)(s:o.oct.length=8*o.count):C (k+2) `_law_text [.d o.tup] [p,q]=.ok (.d (.str o.text)) [p,q]:=by injections q k o p;have b:=h.fit;have e:=count_le h;have j:=jO h;have g:=h.maps;have y:=h.syms;have a:=h.rels;simp![Bg,Bh,ac];delta Ob.tup;rw[Bn,Bi];simp![zf,mX,mW,uX,ac];rw[Q8 Row.tup oq b.maps (by intro r a u;simp![Bp,K1 h a];rfl)];dsimp![ac];rw[K0 (by simp![Vo,Vo];show 1+_<=_;rwa[a_1 g]),Bj,lM (big b.oct),s];simp![fL,ac,dX,dW];rw[Q6 (a_1 e)];erw[K5 (t:=[.list (o.front.map .str),.list (o.lines.map .str)]) (qW (σ:=[p,q]) (B:=900000) (λi:Nat=>Dat.int ((8*i:Nat):Int)) (λi=>.str (ja (o.slotB i))) (λu:Option V×Option V=>Ta o (some (.cell 2)) u.1 u.2 none) (w:=(none,none)) (by simp![al,Vo,Vo,VN];show 1+_+_<=_;rwa[a_2 g e]) (λi z u xs n=>G3 b (by have:=Wx.mp z;rwa[a_2 this e]) (lb n)) λu=>?_)];rw[(by dsimp![Ob.front,Ob.slots];simp![VE,VE,VQ,VQ (f:=o.slotB),VQ];rfl:[Dat.str (T "ringgate object 1")]++(o.maps.map oq).map Dat.str++(eg o.count).map (λi=>Dat.str (ja (o.slotB i)))=o.front.map .str)];delta Ta;rw[Bk];simp![uX,ac];rw[Q8 bV ot b.syms (by erw[λr a u=>Vn Bq ?_];simp![K2 h a];rfl),Q8 c8 mY b.rels (by erw[λr a u=>Vn Br ?_];simp![K3 h a];rfl)]at⊢;have d:=G4 (o:=o);dsimp![ac];simp![bD,aw,ac];erw[Vn (DM (c:=2) (xs:=o.front.map .str) rfl (by simp![Vo,Vo,Vo];rwa[D4 (m8 d) g e y])) (Vn (K0 (by simp![al,Vo,Vo,Vo,Vo,Vo];rwa[Ug (m8 d) g e a y])) ?_)];rw[(by dsimp![Ob.lines,Ob.front];simp![VE]:o.front.map Dat.str++(o.syms.map ot).map Dat.str++(o.rels.map mY).map Dat.str=o.lines.map .str)]at⊢;rwa[show Sk (C (k+1)) az 4 (aA (some (.d o.tup)) (some (.d (.tuple (o.maps.map Row.tup)))) (some (.d (.bytes o.oct))) (some (.d (.tuple (o.syms.map bV)))) (some (.d (.tuple (o.rels.map c8)))) (some (.cell 3)) u.1 u.2 none) [p,q,.list (o.front.map .str),.list (o.lines.map .str)]=.ok (.d (.str o.text)) [p,q,.list (o.front.map .str),.list (o.lines.map .str)]from by rw[Bl,show bI `enumerate [.d (.bytes o.oct)]=ret (.pairs (kY 0 (o.oct.map λc=>Dat.int (c.toNat:Nat))))by kernel_rfl,enum_zip]at⊢;dsimp![ac];rw[uU (λp:UInt8×Nat=>Dat.tuple [.int (p.2:Nat),.int (p.1.toNat:Nat)]) (λp=>some (.int (((p.2:Nat)+1:Int)*(p.1.toNat:Nat)))) (λw:Option V×Option V=>z1::(`spot,w.1)::(`octet,w.2)::aA _ _ _ _ _ _ _ _ _) (none,none) (by rw[Xd]at⊢;rwa[big b.oct]) ∅ (by erw[λp Y w=>⟨(some (.d (.int (p.2:Nat))),some (.d (.int (p.1.toNat:Nat)))),?_⟩];simp![Bs];dsimp![J2];dsimp![fL,ac];rw[uO (by simp![uZ,Z4])]at⊢;rfl),W7]at⊢;simp![BF,ac,dX,dW];rw[O7,EY,O4]at⊢;simp![fL,ac];rw[KH #v[],show((4294967296:Nat):Int)=4294967296 from rfl,ve]at⊢;simp![fL,ac];rw[Bm]at⊢;have m:=uS (U:=C (k+1)) (h:=λx:Nm=>x) (sep:=T "\n") (l:=o.lines++[gE o.lines.length (sumOf o.oct),[]]) (by simp![XZ,mC,al];have:=zq h;have:(T "\n").length<=1:=tl ⋯;lia);rw[XZ,mC]at m;rw[aB ((S9 (by dsimp![dX,dW];simp![dX,dW,bD,aw];unfold kL jy;dsimp![ac];simp![aw,ac];rw[J7 (c:=3) (l:=o.lines.map .str) rfl (by rw[Vo]at⊢;rwa[a_1 j]),Vo]at⊢;simp![ac,mX,mW];rw[K4 (SN j) jN]at⊢;simp![ac,mX,mW];rw[DM (c:=3) (xs:=o.lines.map .str) rfl (by rw[Vo]at⊢;show _+2<=_;rwa[a_1 j]),show T ""=[]by decide +kernel,VE]at⊢;rfl)).trans (Wd m _))]at⊢;rfl]
def UN(s:Stmt):List ag2:=sl 17 s.ctorIdx (λh=>Stmt.Try.elim s h λY hs Y Y Y=>hs) []
def K6(U:Str->List V->M V)(v0 v1:V)(c:Str)(σ':ae):Res V:=opt (clause (iT U) eE.sc c (UN (bo 0 eE.body))) λb=>opt (L5 b) λq=>gd (f9 q.1 (gj (some v0) (some v1) none)&&aV eE.sc q.1) (Sk U eE 1 (gK q.1 (.d (.str q.2.cps.toList)) (gj (some v0) (some v1) none)) σ')
theorem qd:Sk U eE 0 (gj (some (.d (.fn g))) (some h) none) σ=match oM (iT U) g [h] σ with|.ok v σ'=>Sk U eE 1 (gj (some (.d (.fn g))) (some h) (some v)) σ'|.exc c σ'=>K6 U (.d (.fn g)) h c σ'|.stuck=>.stuck:=∅
theorem qe:K6 U h m `ProgramError σ=.ok (.d (.str (T "PROGRAM"))) σ/\K6 U h m `MapError σ=.ok (.d (.str (T "MAP"))) σ/\K6 U h m `TextError σ=.ok (.d (.str (T "TEXT"))) σ:=⟨∅,∅,∅⟩
theorem mD:oM (iT U) `filled=U `filled/\oM (iT U) `join=U `join/\oM (iT U) `read_object=U `read_object:=⟨∅,∅,∅⟩
theorem B0(b:oM (iT (C k)) g=C k g)(h:C k g [m] σ=.ok (.d d) σ):C (k+1) `_law_asked [.d (.fn g),m] σ=.ok (.d d) σ:=by rw[pK,qd,b,h];dsimp only;rwa[(y6)▸dZ rfl]
theorem mE(e:oM (iT (C k)) g=C k g)(h:C k g [m] σ=.exc p σ)(b:K6 (C k) (.d (.fn g)) m p σ=.ok (.d d) σ):C (k+1) `_law_asked [.d (.fn g),m] σ=.ok (.d d) σ:=by rw[pK,qd,e,h];dsimp only;rw[b];rwa[dZ rfl]
theorem K7{f:Dat->M β}:aa (frz (.cell σ.length)) f (σ++[.inst h m vs])=f (.obj h m vs) (σ++[.dead]):=by erw[aB ?_];delta frz;dsimp only;rw[eZ,i8];rfl
theorem N5:back false σ.length (.ok (.cell (σ++p).length) (σ++p++[.inst h m vs]))=.ok (.d (.obj h m vs)) σ:=by delta back;dsimp only;rw[show nf (σ++p).length σ.length=false by simp![al,WT,ne_eq,W9];rwa[ZO (by simp +arith only)]];delta frz;dsimp only;rw[eZ,i8];show Res.ok (V.d (Dat.obj h m vs)) ((σ++p++[aX.dead]).take σ.length)=_;rw[VA,X6 rfl]
theorem eA(a:o.Fit):C (k+2) `_law_object [.d o.tup] σ=.ok (.d o.obj) σ:=by
 injections σ _ k o;simp![wL];simp![wM,show ay (.d o.tup) (.d (.int 0))=ret (.tuple (o.maps.map Row.tup))by kernel_rfl,show ay (.d o.tup) (.d (.int 1))=ret (.bytes o.oct)by kernel_rfl,show ay (.d o.tup) (.d (.int 2))=ret (.tuple (o.syms.map bV))by kernel_rfl,show ay (.d o.tup) (.d (.int 3))=ret (.tuple (o.rels.map c8))by kernel_rfl];simp![fL,ac,uX];erw[ba λf=>?_];erw[d6 (O2 (U:=C (k+1)) (n:=21) (sc:=fS.sc) (e:=iX) (ys:=o.maps) (σ:=σ) Row.tup (λw:Option V=>z1::(`row,w)::fT (some (.d o.tup))) (λys acc g=>(∃t,g=σ++t)/\acc++ys.map Row.obj=o.maps.map Row.obj/\acc.length+ys.length<=1000000) (w:=none) (m_03 ⟨[],(VC _).symm⟩ rfl (by show 0+_<=_;rw[Wg];rwa[a.maps])) (by
  rintro r ys acc w g⟨⟨t,rfl⟩,d,c⟩;dsimp![f5]at c;erw[⟨a_1 c,some (.d r.tup),r.obj,σ++t++[.dead],?_,⟨t++[.dead],VA ..⟩,?_,?_⟩]; ·simp![wN];simp![show ay (.d r.tup) (.d (.int 0))=ret (.str r.name)by kernel_rfl,show ay (.d r.tup) (.d (.int 1))=ret (.str r.kind)by kernel_rfl,show ay (.d r.tup) (.d (.int 2))=ret (.int (r.kw:Nat))by kernel_rfl,show ay (.d r.tup) (.d (.int 3))=ret (.int (r.vw:Nat))by kernel_rfl,show ay (.d r.tup) (.d (.int 4))=ret (.int (r.most:Nat))by kernel_rfl];simp![fL,ac,dX,dW];rw[aB va,K7];rfl
  ·simp![<-d,VA];rfl
  ·rw[al];show acc.length+1+_<=_;rwa[a_1 c])) λh g b e=>?_];obtain⟨⟨t,rfl⟩,hd,-⟩:=b;rw[YS,VC]at hd;subst hd;erw[f ?_];delta cu;simp![dX,dW,aw];rw[aB e];simp![ac];rw[aB (ki (LA.list (by rw[Vo];rwa[a.maps])) (LA.tuple (by rw[Vo];rwa[a.syms])) (LA.tuple (by rw[Vo];rwa[a.rels])))];rwa[N5]
theorem Tb(h:m<=p)(i:p<=w):m+(w-(p+j))<=w:=Vw (VZ h (Nat.sub_le_sub_left (VW p j) w)) (XW (ac0 i))
theorem K8(p:w<=990000)(J:t≠[])(c:t.length<=900000):∃Q H B,Q.length<=t.length+1/\B<=w+3/\C (k+3) `_law_bent [.cell 0,.d (.str t)] (penM m w::σ)=.ok (.d (.str Q)) (penM H B::σ):=by
 injections k _ t σ w m;erw[ba λG=>bw (cS (k:=k+1) (σ:=σ) (m:=m) (w:=w) (i:=t.length) (a_1 p) (WF.mpr J) (by have:t.length<2^90:=Wv c #v[];rwa[Xq this #v[]])) λa O z f e K=>bw (cS (k:=k+1) (σ:=σ) (m:=O) (w:=z) (i:=3) (a_2 e p) #v[] #v[]) λb P x N n E=>bw (pick_run (k:=k) (σ:=σ) (m:=P) (w:=x) (xs:=["0","1","9","a","f","z","_"," ","\n","-","A"].map λs=>Dat.str (T s)) (mM n e p) (λh=>nomatch h) #v[]) λd R A hd r y=>x_12 (VI.mp hd) λs U q=>?_];subst q;erw[G ?_];simp![Bv,Bw];rw[uR (big (lb c))];simp![fL,ac,dX,dW];rw[aB K,aB (show C (k+2) `_law_draw [.cell 0,.d (.int 3)] (penM O z::σ)=.ok (.d (.int b)) (penM P x::σ)from E),Bx];simp![zf,mX,mW,ac,dX,dW];simp![V3,YS]at y;rw[aB y,By,uT (l:=none) rfl (gC (a_2 f c)) (big (lb c))];dsimp![fL,ac];erw[x_12 (by
  dsimp![QI,fV];cases decide ((b:Int)<2)with
  |true=>
   rwa[m_12 (T s) (XW (by
    have:∀s∈["0","1","9","a","f","z","_"," ","\n","-","A"],(T s).length=1:=by decide +kernel
    rwa[this s U])) rfl]
  |false=>rwa[m_12 (T "") (tl ⋯) rfl]:∃g:Nm,g.length<=1/\de (cmp .Lt (.d (.int b)) (.d (.int 2))) (ret (V.d (.str (T s)))) (ret (.d (.str (T ""))))=ret (.d (.str g))) λg o F=>?_];erw[x_12 (by dsimp![EH];cases !decide ((b:Int)=1)with|true=>rwa[m_12 1 (VM _) ∅]|false=>rwa[m_12 0 (WK _) ∅]:∃j:Nat,j<=1/\aa (ao [bB (cmp .NotEq (.d (.int b)) (.d (.int 1)))]) (λL=>bD (bi `int L))=ret (.d (.int j))) λj D I=>(F)▸((I)▸?_)];dsimp![ac];have u:(cut none (some a) t).length<=a:=Xn ..;rw[eP (D4 u f o c)];simp![Ck,c7];dsimp![J3];erw[(Ck)▸?_];rw[c7]at⊢;have S:(cut (some (a+j)) none t).length=t.length-(a+j):=WD;rw[uT (h:=none) (gC (mM f D c)) rfl (big (lb c))]at⊢;rw[Ck,c7]at⊢;have M:(cut (some (a+j)) none t).length<=t.length:=Vw (XW S) (Y6 ..);rw[eP (by rw[al]at⊢;rwa[mM (Vw u (Vw (YM f) c)) o (Vw M c)])]at⊢;erw[m_33 (cut none (some a) t++g++cut (some (a+j)) none t) R A ?_ (mM r n e) ?_]; ·rw[al,al,S]at⊢;rwa[a_2 (Tb u (YM f)) o]
 ·show Res.ok _ (aq1 (σ.length+1) (penM R A::σ))=_;dsimp![ae5];rw[XQ]at⊢
theorem vr{f:Dat->Dat->Option Bool}:∀{xs:List Dat},(∀x∈xs,f x x=some true)->jj f xs xs=some true:=by intro c;induction c with|nil=>rwa[λY=>rfl]|cons x xs b=>intro h;dsimp![jj];rw[h x (Vv ..),b λy a=>h y (VB _ a)];rfl
def Q9(d:Dat):Prop:=∀n,gM n d d=some true
theorem oB:Q9 (.int h):=λn=>by obtain⟨⟩:=n<;>rwa[VT some (Vz rfl)]
theorem oC:Q9 (.str h):=λn=>by obtain⟨⟩:=n<;>rwa[VT some (Vz rfl)]
theorem K9:Q9 (.bytes h):=λn=>by obtain⟨⟩:=n<;>rwa[VT some (Vz rfl)]
theorem kq(h:oK d d=some true):cmp .NotEq (.d d) (.d d)=ret false:=by funext σ;erw[lL ?_];show gP (ir (L4 (.d d)) ((ny (.d d)).map λY=>true)) ((oK d d).map (!·))=_;erw[(h)▸?_];clear h;obtain⟨⟩:=d<;>rfl
theorem jC(h:∀x∈m,gM n x x=some true):gM (n+1) (.tuple m) (.tuple m)=some true/\gM (n+1) (.list m) (.list m)=some true:=⟨by show gP (jj (gM n) m m) _=_;rw[vr h];rfl,by show gP (jj (gM n) m m) _=_;rw[vr h];rfl⟩
theorem qf:oK o.tup o.tup=some true:=by
 erw[(jC (n:=5) λx b=>?_).1];simp![VD,Xb,YQ]at b;rcases b with rfl|rfl|rfl|rfl
 ·rwa[(jC λx b=>by
   erw[x_12 (VI.mp b) λr Y d=>d▸((jC λy a=>?_).1)];simp![Row.vs,VD,Xb,YQ]at a;rcases a with rfl|rfl|rfl|rfl|rfl; ·rwa[oC 3]
   ·rwa[oC 3]
   ·rwa[oB 3]
   ·rwa[oB 3]
   ·rwa[oB 3]).1]
 ·rwa[K9 5]
 ·rwa[(jC λx b=>by
   erw[x_12 (VI.mp b) λr Y c=>c▸((jC λy a=>?_).1)];simp![VD,Xb,YQ]at a;rcases a with rfl|rfl; ·rwa[oC 3]
   ·rwa[oB 3]).1]
 ·rwa[(jC λx b=>by
   erw[x_12 (VI.mp b) λr Y e=>e▸((jC λy a=>?_).1)];simp![VD,Xb,YQ]at a;rcases a with rfl|rfl|rfl; ·rwa[oB 3]
   ·rwa[oC 3]
   ·rwa[oC 3]).1]
theorem Rw(c:UInt8):c.toNat<256:=c.toNat_lt
theorem rf(e:u0 b=n)(h:n<4294967296):u0 b %4294967296=u0 b:=by rw[e];rwa[Int.emod_eq_of_lt (Wf n) (XX.mpr h)]
theorem DP(h:b.length<=3):u0 b %4294967296=u0 b:=by
 rcases b with _|⟨x,_|⟨y,_|⟨z,_|_⟩⟩⟩; ·rfl
 ·rwa[rf (n:=0+1*x.toNat) rfl (a_1 (Rw x))]
 ·rwa[rf (n:=0+1*x.toNat+2*y.toNat) rfl (a_2 (Rw x) (Vt 2 (Rw y)))]
 ·rwa[rf (n:=0+1*x.toNat+2*y.toNat+3*z.toNat) rfl (mM (Rw x) (Vt 2 (Rw y)) (Vt 3 (Rw z)))]
 ·rwa[absurd h (XR (Zn 4 _))]
def iP:Prop:=∀(t:Nm)(o:Ob),t.length<=90000->parse t=some o->o.Ok/\o.text=t
theorem G5(j:iP)(hw:w<=990000)(r:t≠[])(o:t.length<=80000):∃a w' s p6,w'<=w+3/\gr (C (k+5)) aq 23 be (.int i) (au (some (.cell 0)) o1 o2 (some (.d (.str t))) o4 o5 o6) [penM m w,q]=.ok (.next (au (some (.cell 0)) o1 o2 (some (.d (.str t))) (some (.d (.int i))) s p6)) [penM a w',q]:=by injections o4 o5 o6 m _ q k i t w o1 o2;erw[ba λf=>bw (K8 (k:=k+2) (σ:=[q]) (m:=m) (w:=w) hw r (lb o)) λt' a w' h b e=>f ?_];simp![pR,mU,aB e,mV];have l:=kD (k:=k) (p:=penM a w') (q:=q) (t:=t') (a_2 h o);cases c:parse t' with|none=>replace l:=(c)▸l;simp![aB (mE mD.2.2 l qe.2.2),iA,EJ,Vz rfl];rwa[LU a w' _ _ b rfl]|some n=>simp![c]at l;obtain⟨g,d⟩:=j t' n (by omega) c;simp![aB (B0 mD.2.2 l),iA,show cmp .NotEq (.d n.obj) (.d (.str (T "TEXT")))=ret true by kernel_rfl,show bi `isinstance [.d n.obj,.d (.fn `str)]=ret (.bool false)by kernel_rfl,jP (k:=k+2) g,d];simp![ac,EJ,fL,SJ,EE,Qx,xr,qk,oH];rwa[LU a w' _ _ b rfl]
theorem vt(h:o.Ok)(A:o.oct.length=8*o.count)(hA:iP)(x:parse o.text=some o)(hw:w<=980000)(h0:o.text≠[])(u:o.text.length<=80000):∃d w',C (k+6) `_law_text_right [.cell 0,.d o.tup] [penM m w,q]=.ok (.d (.bool true)) [penM d w',q]:=by
 injections m _ q k o w;simp![pL,pM,aB (eA h.fit),pN,jP (k:=k+2) h,ac,pO];have hr:=kD (k:=k+1) (p:=penM m w) (q:=q) (t:=o.text) (lb u);simp![x]at hr;have hs:(cut none (some 3) o.oct).length<=3:=Xn ..;have sl:∀{β:Type}(f:Dat->M β),aa (ay (.d o.tup) (.d (.int 1))) f=f (.bytes o.oct):=λf=>by rw[show ay (.d o.tup) (.d (.int 1))=ret (.bytes o.oct)by kernel_rfl];dsimp![ac]
 suffices B:∃d w',back false [penM m w,q].length (Sk (C (k+5)) aq 3 (au (some (.cell 0)) (some (.d o.tup)) (some (.d o.obj)) (some (.d (.str o.text))) none none none) [penM m w,q])=.ok (.d (.bool true)) [penM d w',q]by erw[kT B λd w' e=>nv d w' (Vn (VT (back false [penM m w,q].length) (aB (a:=false) (jb (b:=false) (b':=false) (by erw[Vn (aB (zH (k:=k+3) h A)) ?_];dsimp![EJ];rw[Vz rfl];rfl) λY=>jb (b:=false) (b':=false) (by simp![aw,aB hr,u5,e8 h.fit,ac,kq qf];rfl) λY=>jb (b:=false) (b':=false) ?_ λY=>rfl))) e)];simp![bD,aw,sl,ac];rw[uW (l:=none) (h:=some 3) rfl rfl h.fit.oct];simp![fL,ac,dX,dW,aw];rw[jB (lb hs),DP hs];dsimp![ac];rw[show bI `enumerate [.d (.bytes (cut none (some 3) o.oct))]=ret (.pairs (kY 0 ((cut none (some 3) o.oct).map λc=>Dat.int (c.toNat:Nat))))by kernel_rfl,enum_zip]at⊢;dsimp![ac];rw[uU (λp:UInt8×Nat=>Dat.tuple [.int (p.2:Nat),.int (p.1.toNat:Nat)]) (λp=>some (.int (((p.2:Nat)+1:Int)*(p.1.toNat:Nat)))) (λw:Option V×Option V=>z1::(`at,w.1)::(`octet,w.2)::au _ _ _ _ _ _ _) (none,none) (by rw[Xd]at⊢;rwa[lb hs]) ∅ (by erw[λp Y w=>⟨(some (.d (.int (p.2:Nat))),some (.d (.int (p.1.toNat:Nat)))),?_⟩];simp![pS,J2];simp![fL,ac];rw[uO (by rw[uZ,Z4]at⊢)]at⊢;dsimp![fL,ac,pV]),W7]at⊢;simp![BF,ac];rw[O7,EY]at⊢;simp![ac];dsimp![EH];rw[Vz rfl]at⊢;rfl
 rw[pP,show(3:Int)=((3:Nat):Int)from rfl,hZ #v[]]at⊢;dsimp![ac];erw[d6 (xG (U:=C (k+5)) (F:=aq) (n:=23) (s:=be) (β:=V) (ys:=eg 3) (σ:=[penM m w,q]) (w:=(none,none,none)) (kn:=λl=>Sk (C (k+5)) aq 4 l) (kr:=λv=>ret v) (λj:Nat=>Dat.int j) (λv:Option V×Option V×Option V=>au (some (.cell 0)) (some (.d o.tup)) (some (.d o.obj)) (some (.d (.str o.text))) v.1 v.2.1 v.2.2) (λys Y σ=>∃d w':Nat,σ=[penM d w',q]/\w'+3*ys.length<=w+9) (m_22 m w rfl (by rw[VN]at⊢;rwa[VM _])) (by intro y _ G g σ q60185;obtain⟨u1,u2,D⟩:=g;erw[d6 q60185 λd w' q6012 r=>?_];subst q6012;rw[ar]at r;rwa[RJ (G5 (k:=k) (m:=d) (w:=w') (i:=y) (t:=o.text) (q:=q) (o1:=some (.d o.tup)) (o2:=some (.d o.obj)) (o4:=u1) (o5:=u2) (o6:=D) hA (a_2 r hw) h0 u) λm2 z E p6 h2 e=>⟨(_,E,p6),_,e,m2,z,rfl,a_2 h2 r⟩])) λv σ' q5072 e=>?_];obtain⟨d,w',rfl,-⟩:=q5072;erw[⟨d,w',(VT (back false 2) e).trans ?_⟩];rw[pQ]at⊢;rfl
theorem Ra{a:List Dat}:cmp .Eq (.d (.list a)) (.d (.list []))=ret a.isEmpty:=by funext σ;rwa[lL nil_eq]
noncomputable def cj(maps:List Row):Ob:=⟨maps,[],[],[]⟩
noncomputable def Row.up(r:Row):Row:=⟨r.name,r.kind,r.kw,r.vw,r.most+1⟩
structure zI(f:Nm->List Item)(ns:List Nm)(maps:List Row):Prop where
 len:maps.length<=1000
 fit:(lX f (ns.take 1) maps (dY f (ns.take 1))).Fit
 size:(lX f (ns.take 1) maps (dY f (ns.take 1))).size<=100000
 twice:gH [lX f (ns.take 1) maps (dY f (ns.take 1)),lX f (ns.take 1) maps (dY f (ns.take 1))]=.error gF
 same:gH [cj maps,cj maps]=.ok (cj maps)
 other:maps≠[]->gH [cj maps,cj (maps.map Row.up)]=.error zA
theorem sj(y:FD q f ms)(z:∀x∈ns,x∈ms)(n:rd f ns)(h:zI f ns maps):C (k+5) `_law_twice_right [.cell 1,.d (.list (ns.map .str)),.d (.list (maps.map Row.tup))] [p,q]=.ok (.d (.bool true)) [p,q]:=by
 injections ns maps q k f ms p;have c:=h.len;have s:maps.length<=1000000:=lb c;have i:∀x∈ns.take 1,x∈ms:=λx d=>z x (Wu d);have g:rd f (ns.take 1):=⟨lb (Xn ..),λx d=>n.its x (Wu d),λx d=>n.dst x (Wu d)⟩;have m:∀{ms:List Row},ms.length<=1000->(cj ms).Fit:=λh=>⟨lb h,WK _,WK _,WK _⟩;have o:∀{ms:List Row},(cj ms).size=ms.length:=rfl;have t:=p8 (k:=k) (p:=p) (q:=q) (os:=[lX f (ns.take 1) maps (dY f (ns.take 1)),lX f (ns.take 1) maps (dY f (ns.take 1))]) (by have:=h.size;show _+(_+0)<=_;rwa[a_1 (Vt 2 this)]);have v:=p8 (k:=k+1) (p:=p) (q:=q) (os:=[cj maps,cj maps]) (by show _+(_+0)<=_;rw[o];rwa[a_1 (Vt 2 c)]);have j:=p8 (k:=k) (p:=p) (q:=q) (os:=[cj maps,cj (maps.map Row.up)]) (by show _+(_+0)<=_;simp![o,o,Vo];omega);simp![h.twice]at t;simp![h.same]at v;simp![n7];erw[dZ ?_];rw[n8,jA (l:=none) (h:=some 1) rfl rfl (by rw[Vo];have:=n.nl;rwa[a_1 this]),(by simp![Zc];rfl:cut none (some 1) (ns.map Dat.str)=(ns.take 1).map .str)];dsimp![fL,ac,dX,dW];simp![fL,ac,dX,dW,aw];erw[Vn (aB (km y i g)) (Vn (aB (iK (k:=k+1) y i g c)) ?_)];rw[n9,lN (by rw[Vo];rwa[s])];wtm_at "e";rw[show Dat.tuple [.tuple (maps.map Row.tup),.bytes [],.tuple [],.tuple []]=(cj maps).tup from rfl,aB (eA (k:=k+2) (m c)),oa];erw[Vn (aB (a:=false) (σ':=[p,q]) (jb (b:=false) (b':=false) ?_ λY=>jb (b:=false) (b':=false) ?_ λY=>rfl)) ?_]; ·delta kL;dsimp![dX,dW,ac];simp![dX,dW,aw,ac];rw[aB (eA (k:=k+2) h.fit),aB (eA (k:=k+2) h.fit)];simp![mX,mW,ac];simp![aB (mE mD.2.1 (show C (k+3) `join [.d (.list [(lX f (ns.take 1) maps (dY f (ns.take 1))).obj,(lX f (ns.take 1) maps (dY f (ns.take 1))).obj])] [p,q]=.exc gF [p,q]from t) qe.1),EJ,Vz rfl];rfl
 ·wtm_at "f";simp![aw];rw[aB (show C (k+4) `join [.d (.list [(cj maps).obj,(cj maps).obj])] [p,q]=.ok (.d (cj maps).obj) [p,q]from v),u5,e8 (k:=k+2) (m c)];simp![ac];rw[kq qf];rfl
 dsimp![oH];rw[og];simp![iZ,ac];rw[Cm Row.tup (λr=>r.up.tup) (big s) (by intro r _ u;rw[oi,show ay (.d r.tup) (.d (.int 0))=ret (.str r.name)by kernel_rfl,show ay (.d r.tup) (.d (.int 1))=ret (.str r.kind)by kernel_rfl,show ay (.d r.tup) (.d (.int 2))=ret (.int (r.kw:Nat))by kernel_rfl,show ay (.d r.tup) (.d (.int 3))=ret (.int (r.vw:Nat))by kernel_rfl,show ay (.d r.tup) (.d (.int 4))=ret (.int (r.most:Nat))by kernel_rfl];wtm_at "e";rfl)];simp![BF,ac,dX,dW];rw[lN (by rw[Vo];rwa[s])];simp![fL,ac];rw[oh,Ra,Y8];have A:C (k+4) `_law_object [.d (cj (maps.map Row.up)).tup] [p,q]=.ok (.d (cj (maps.map Row.up)).obj) [p,q]:=eA (k:=k+2) (m (by rw[Vo];rwa[c]));unfold Ru;dsimp![UZ,ac,EE];simp![UZ,ac,aw,EE];cases w:maps.isEmpty with|true=>rfl|false=>rw[h.other λe=>by rw[e]at w;rwa[k_tf w]]at j;have j:C (k+3) `join [.d (.list [(cj maps).obj,(cj (maps.map Row.up)).obj])] [p,q]=.exc zA [p,q]:=j;dsimp only;unfold kL;wtm_at "e";simp![aw];rw[show Dat.tuple [.tuple (maps.map λr=>r.up.tup),.bytes [],.tuple [],.tuple []]=(cj (maps.map Row.up)).tup by unfold cj Ob.tup;rw[VQ];rfl];rw[aB A];simp![mX,mW,ac];rw[aB (mE mD.2.1 j qe.2.1)];dsimp![EG];rw[Vz rfl];rfl
theorem N6{ys:List A}(b:A->Dat)(g:A->Option Dat)(L:τ->Ls)(w:τ)(f:ys.length<=16777216)(c:isTup (eH 0 e).target=true)(a:∀y∈ys,∀w,∃d,jg U n sc e (b y) (L w) σ=.ok (L d,g y) σ):bR U n sc e (L w) (.pairs (ys.map b)) σ=.ok (ys.filterMap g) σ:=by simp![<-zF b g L w f a];dsimp![bR,cR,L7];erw[(c)▸?_];rfl
section
variable(f:Nm->List Item)(ns:List Nm)(maps:List Row)(c:Nat)
def jD:List Nm:=dY f (ns.take c)
def oD:List Nm:=dY f (ns.drop c)
def Rb:Ob:=lX f (ns.take c) maps (jD f ns c)
def Rc:Ob:=lX f (ns.drop c) maps (oD f ns c)
def dw:List Row:=maps.filter (λr=>decide (r.name∈jD f ns c))++maps.filter λr=>decide (r.name∈oD f ns c)&&!decide (r.name∈jD f ns c)
def zJ:Ob:=lX f ns (dw f ns maps c) (jD f ns c++oD f ns c)
def zK:Ob:=lX f (bZ f ns) (dw f ns maps c) (dY f (bZ f ns))
structure Due(o:Ob)(ns:List Nm)(maps:List Row):Prop where
 fill:zC o
 is:(run (gG o) o.slots o.rels).map ah1=mA f ns maps
 ne:mA f ns maps≠some []
 len:∀b,mA f ns maps=some b->b.length<=1000000
 sm:o.Sm
structure xQ:Prop where
 few:rd f ns
 nd:ns.Nodup
 ml:maps.length<=10
 mnd:(maps.map Row.name).Nodup
 fA:(Rb f ns maps c).Fit
 fB:(Rc f ns maps c).Fit
 sz:iC [Rb f ns maps c,Rc f ns maps c]<=1000000
 jo:gH [Rb f ns maps c,Rc f ns maps c]=.ok (zJ f ns maps c)
 W:Due f (zJ f ns maps c) ns (dw f ns maps c)
 L:Due f (zK f ns maps c) (bZ f ns) (zK f ns maps c).maps
 need:((zJ f ns maps c).syms.map (·.1)).filter (rc (zJ f ns maps c))=bZ f ns
 kn:((dw f ns maps c).map Row.name).Nodup
 s1:1<=(zJ f ns maps c).syms.length
 rsub:∀x∈bZ f ns,x∈ns
 rlen:(bZ f ns).length<=ns.length
 rnd:(bZ f ns).Nodup
 ln:((zK f ns maps c).maps.map Row.name).Nodup
 st:my (zJ f ns maps c)=zK f ns maps c
 st2:my (zK f ns maps c)=zK f ns maps c
 nm:∀x∈ns,dk x=true
 ok:(zK f ns maps c).Ok
 oct:(zK f ns maps c).oct.length=8*(zK f ns maps c).count
 back:parse (zK f ns maps c).text=some (zK f ns maps c)
 t0:(zK f ns maps c).text≠[]
 tl:(zK f ns maps c).text.length<=80000
 tw:zI f ns maps
end
section
noncomputable def je(l:List Nm):Dat:=.list (l.map .str)
theorem cut_str:cut m h (xs.map Dat.str)=(cut m h xs).map .str:=by delta cut;obtain⟨⟩:=h<;>simp![Yw,Zc]
theorem vu(h:Due f o ns maps)(c:m [p,q]=.ok (.d (KZ (mA f ns maps))) [p,q]):aa (C (k+4) `_law_asked [.d (.fn `filled),.d o.obj]) (λx=>aa (Ru m (ret (.d (.str (T "PROGRAM"))))) λy=>cmp .NotEq x y) [p,q]=.ok false [p,q]:=by have b:=DH (k:=k) (σ:=[p,q]) h.fill;have g:=h.is;have d:=h.ne;delta Ru;cases e:run (gG o) o.slots o.rels with|none=>rw[e]at b g;rw[<-g]at c;erw[Vn (aB (mE mD.1 b qe.1)) ?_];rw[aw,aB c];rfl|some a=>rw[e]at b g;rw[<-g]at d c;erw[Vn (aB (B0 mD.1 b)) ?_];rw[aw,aB c];dsimp![nx,KZ,aw];rw[show lift (truth (.d (.bytes a.flatten)))=ret true by show lift (within a.flatten.length (decide (0<a.flatten.length)))=_;rw[iH (big (h.len _ (by rw[<-g];rfl))),Vz (WF.mpr λe=>d (by simp![nx,e]))];rfl,c7]at⊢;dsimp![ac];rw[Km,Vz rfl];rfl
def qm(script words name at':Option V)(ns:List Nm)(maps:List Row)(o8 o9 o10 o11 o12 o13 o14 o15 o16 o17:Option V):Ls:=aG script (some (.cell 0)) (some (.d (je ns))) words name (some (.d (.list (maps.map Row.tup)))) (some (.cell 1)) at' o8 o9 o10 o11 o12 o13 o14 o15 o16 o17
variable{s o7:Option V}
theorem rd.sub(h:rd f ns)(b:∀x∈xs,x∈ns)(c:xs.length<=ns.length):rd f xs:=⟨Vw c h.nl,λx a=>h.its x (b x a),λx a=>h.dst x (b x a)⟩
theorem rd.take(h:rd f ns):rd f (ns.take c):=h.sub (λY a=>Wu a) ((WC)▸XN .. )
theorem rd.drop(h:rd f ns):rd f (ns.drop c):=h.sub (λY a=>Xh a) ((WD)▸Y6 .. )
def B1(ns:List Nm)(c:Nat):V:=.d (.list [je (ns.take c),je (ns.drop c)])
def kH(f:Nm->List Item)(ns:List Nm)(c:Nat):V:=.d (.list [je (jD f ns c),je (oD f ns c)])
theorem Rd(g:FD q f ns)(d:rd f ns):Sk (C (k+6)) ax 9 (qm s w4 o4 o7 ns maps o8 (some (B1 ns c)) none o11 o12 o13 o14 o15 o16 o17) [p,q]=Sk (C (k+6)) ax 10 (qm s w4 o4 o7 ns maps o8 (some (B1 ns c)) (some (kH f ns c)) o11 o12 o13 o14 o15 o16 o17) [p,q]:=by
 dsimp![qm,B1];rw[Qp]at⊢;dsimp![iZ,ac];delta cu;rw[aw];rwa[(aB (zF (U:=C (k+6)) (n:=22) (σ:=[p,q]) (sc:=ax.sc) (e:=y7) (ys:=[ns.take c,ns.drop c]) je (λl=>some (je (dY f l))) (λw:Option V=>z1::(`group,w)::aG s (some (.cell 0)) (some (.d (je ns))) w4 o4 (some (.d (.list (maps.map Row.tup)))) (some (.cell 1)) o7 o8 (some (.d (.list [je (ns.take c),je (ns.drop c)]))) none o11 o12 o13 o14 o15 o16 o17) none (Vu rfl) (by
  erw[λl b w=>⟨some (.d (je l)),?_⟩];have:(∀x∈l,x∈ns)/\rd f l:=by
   rcases VD.mp b with rfl|b; ·rwa[⟨λY a=>Wu a,d.take⟩]
   ·rwa[(Vy.mp b)▸⟨λY a=>Xh a,d.drop⟩]
  simp![Qs];delta je;erw[Vn (aB (km (k:=k+5) g this.1 this.2)) ?_];rfl))).trans rfl]
def E0(f:Nm->List Item)(ns:List Nm)(maps:List Row)(c:Nat):V:=.d (.list ([Rb f ns maps c,Rc f ns maps c].map Ob.obj))
theorem N7(i:FD q f ns)(d:rd f ns)(j:maps.length<=10)(g:(Rb f ns maps c).Fit)(h:(Rc f ns maps c).Fit):Sk (C (k+6)) ax 10 (qm s w4 o4 o7 ns maps o8 (some (B1 ns c)) (some (kH f ns c)) none o12 o13 o14 o15 o16 o17) [p,q]=Sk (C (k+6)) ax 11 (qm s w4 o4 o7 ns maps o8 (some (B1 ns c)) (some (kH f ns c)) (some (E0 f ns maps c)) o12 o13 o14 o15 o16 o17) [p,q]:=by
 delta qm;simp![Nh];simp![show bI `zip [B1 ns c,kH f ns c]=ret (.pairs ([(ns.take c,jD f ns c),(ns.drop c,oD f ns c)].map λy=>Dat.tuple [je y.1,je y.2]))by kernel_rfl,c7];delta cu;simp![aw];rwa[(aB (N6 (U:=C (k+6)) (n:=22) (σ:=[p,q]) (sc:=ax.sc) (e:=y8) (ys:=[(ns.take c,jD f ns c),(ns.drop c,oD f ns c)]) (λy=>Dat.tuple [je y.1,je y.2]) (λy=>some (lX f y.1 maps y.2).obj) (λw:Option V×Option V=>z1::(`group,w.1)::(`some,w.2)::aG s (some (.cell 0)) (some (.d (je ns))) w4 o4 (some (.d (.list (maps.map Row.tup)))) (some (.cell 1)) o7 o8 (some (B1 ns c)) (some (kH f ns c)) none o12 o13 o14 o15 o16 o17) (none,none) (Vu rfl) ∅ (by
  erw[λl b w=>⟨(some (.d (je l.1)),some (.d (je l.2))),?_⟩];have:(∀x∈l.1,x∈ns)/\rd f l.1/\(lX f l.1 maps l.2).Fit:=by
   rcases VD.mp b with rfl|b; ·rwa[m_03 (λY a=>Wu a) d.take g]
   ·rwa[(Vy.mp b)▸m_03 (λY a=>Xh a) d.drop h]
  simp![Qt];simp![dX,dW,aw];erw[Vn (aB (iK (k:=k+3) i this.1 this.2.1 (lb j))) ?_];simp![ac];erw[Vn (aB (eA (k:=k+4) this.2.2)) ?_];rfl))).trans rfl]
theorem B2:ay (kH f ns c) (.d (.int 0))=ret (je (jD f ns c))/\ay (kH f ns c) (.d (.int 1))=ret (je (oD f ns c)):=⟨∅,∅⟩
theorem Re{l:List Nm}:cmp .NotIn (.d (.str x)) (.d (.list (l.map .str)))=ret !decide (x∈l):=by funext σ;erw[lL ?_];show((nz (l.map .str)).map λa=>decide (x∈a)).map (!·)=_;simp![lh (h:=λx=>x),XZ];rfl
theorem N8(a:maps.length<=10):Sk (C (k+6)) ax 11 (qm s w4 o4 o7 ns maps o8 o9 (some (kH f ns c)) o11 o12 o13 o14 o15 o16 o17)=Sk (C (k+6)) ax 12 (qm s w4 o4 o7 ns maps o8 o9 (some (kH f ns c)) o11 (some (.d (.list ((dw f ns maps c).map Row.tup)))) o13 o14 o15 o16 o17):=by delta qm;have a:maps.length<=16777216:=lb a;erw[Vn Ni ?_];dsimp![iZ,ac];rw[Ny Row.tup (λr=>decide (r.name∈jD f ns c)) Row.tup a (by erw[λr Y w=>Vn Qu ?_];rw[show ay (.d r.tup) (.d (.int 0))=ret (.str r.name)by kernel_rfl,B2.1];dsimp![fL,ac];delta je;erw[(kh)▸?_];cases decide (r.name∈jD f ns c)<;>rfl),Ny Row.tup (λr=>decide (r.name∈oD f ns c)&&!decide (r.name∈jD f ns c)) Row.tup a (by erw[λr Y w=>Vn Qv ?_];rw[show ay (.d r.tup) (.d (.int 0))=ret (.str r.name)by kernel_rfl,B2.1,B2.2];dsimp![fL,ac];delta je;simp![kh,Re];simp![fV,xr,GP,W0];cases decide (r.name∈oD f ns c)&&!decide (r.name∈jD f ns c)<;>rfl)];dsimp![BF,ac];rw[oj (by simp![Vo,Vo];have b:=VP (λr:Row=>decide (r.name∈jD f ns c)) maps;have d:=VP (λr:Row=>decide (r.name∈oD f ns c)&&!decide (r.name∈jD f ns c)) maps;lia),<-VE];rfl
end
section
variable{s o4 o7 o8 o9 o15 o16:Option V}{p:aX}
theorem vv(h:rd f xs):(dY f xs).length<=100:=Vw (Xf ..) h.len
theorem qg(h:maps.length<=10):(dw f ns maps c).length<=1000:=by delta dw;rw[al];have a:=VP (λr:Row=>decide (r.name∈jD f ns c)) maps;have b:=VP (λr:Row=>decide (r.name∈oD f ns c)&&!decide (r.name∈jD f ns c)) maps;rwa[D4 b h a h]
def rE(f:Nm->List Item)(ns:List Nm)(maps:List Row)(c:Nat):V:=.d (.list ((dw f ns maps c).map Row.tup))
theorem N9(g:FD q f ns)(h:xQ f ns maps c):Sk (C (k+6)) ax 12 (qm s w4 o4 o7 ns maps o8 o9 (some (kH f ns c)) (some (E0 f ns maps c)) (some (rE f ns maps c)) o13 o14 o15 o16 o17) [p,q]=Sk (C (k+6)) ax 14 (qm s w4 o4 o7 ns maps o8 o9 (some (kH f ns c)) (some (E0 f ns maps c)) (some (rE f ns maps c)) (some (.d (zJ f ns maps c).tup)) (some (.d (zJ f ns maps c).obj)) o15 o16 o17) [p,q]:=by injections p o13 o14 _ ns maps q k c f w4 s o4 o7 o8 o9 o15 o16 o17;delta qm;rw[Nj,B2.1,B2.2];simp![dX,dW,fL,ac];have e:=vv (rd.take (c:=c) h.few);have b:=vv (rd.drop (c:=c) h.few);delta je;rw[oj (by simp![Vo,Vo];dsimp![jD,oD];rwa[a_2 b e]),<-VE];simp![fL,ac];erw[Vn (aB (iK (k:=k+3) g (λY d=>d) h.few (qg h.ml))) ?_];rw[Nk]at⊢;have a:=p8 (k:=k+3) (p:=p) (q:=q) h.sz;simp![h.jo]at a;rwa[(aB a).trans rfl]
theorem Oa{b:List Dat}(h:1<=b.length)(a:b.length<=1000000):bq (.d (.tuple b)) (.d (.int 1)) (.d .none)=ret (.tuple (b.drop 1)):=by funext σ;show gd (er (0+1) b.length) (lift (within b.length (Dat.tuple (b.drop (0+1)))) σ)=_;rw[V0 h,iH (big a)];rfl
theorem Oc{l:List ((Nm×Nat)×Nat)}:oK (.list (l.map pW)) (.list (l.map pW))=some true:=by
 erw[(jC (n:=5) λx c=>x_12 (VI.mp c) λr Y a=>?_).2];clear c;subst a;erw[(jC (n:=4) λy b=>?_).1];simp![VD,Xb,YQ]at b;rcases b with rfl|rfl|rfl; ·rwa[oC 4]
 ·rwa[oB 4]
 ·rwa[oB 4]
theorem E1:ay (.d o.tup) (.d (.int 0))=ret (.tuple (o.maps.map Row.tup))/\ay (.d o.tup) (.d (.int 1))=ret (.bytes o.oct)/\ay (.d o.tup) (.d (.int 2))=ret (.tuple (o.syms.map bV)):=⟨∅,∅,∅⟩
theorem Od(e:FD q f ns)(h:xQ f ns maps c):Sk (C (k+6)) ax 14 (qm s w4 o4 o7 ns maps o8 o9 o10 o11 (some (rE f ns maps c)) (some (.d (zJ f ns maps c).tup)) (some (.d (zJ f ns maps c).obj)) o15 o16 o17) [p,q]=Sk (C (k+6)) ax 15 (qm s w4 o4 o7 ns maps o8 o9 o10 o11 (some (rE f ns maps c)) (some (.d (zJ f ns maps c).tup)) (some (.d (zJ f ns maps c).obj)) o15 o16 o17) [p,q]:=by
 delta qm;rw[Nl];erw[Vn (aB (a:=false) (σ':=[p,q]) (jb (b:=false) (b':=false) ?_ λY=>jb (b:=false) (b':=false) ?_ λY=>rfl)) ?_]; ·simp![u5,e8 (k:=k+4) h.W.fill.fit,ac,kq qf];rfl
 ·rwa[vu (k:=k+2) h.W (lY (k:=k+3) e (λY d=>d) h.few (qg h.ml) h.nd h.kn ∅)]
 rfl
end
section
variable{s o7 o9 o10 o11 o15:Option V}{p:aX}
def O8(o:Ob):V:=.d (.list (o.ends.map λi=>Dat.int (i:Nat)))
theorem Oe(a:o.Fit)(b:1<=o.syms.length):Sk (C (k+6)) ax 15 (qm s w4 o4 o7 ns maps o8 o9 o10 o11 o12 (some (.d o.tup)) (some (.d o.obj)) o15 o16 o17) [p,q]=Sk (C (k+6)) ax 17 (qm s w4 o4 o7 ns maps o8 o9 o10 o11 o12 (some (.d o.tup)) (some (.d o.obj)) (some (O8 o)) o16 o17) [p,q]:=by
 delta qm;have hd:(o.syms.drop 1).length<=1000000:=by rw[WD];rwa[Vw (Y6 ..) a.syms]
 rw[Nn,E1.2.2,E1.2.1];simp![fL,ac];rw[Oa (by rw[Vo];rwa[b]) (by rw[Vo];rwa[a.syms]),<-Yw];simp![fL,ac,uX];rw[((λY=>by rwa[Tw (λp:Nm×Nat=>Dat.str p.1) (λp=>.int (p.2:Nat)) (λp=>.int (p.2:Nat)) (big hd) (by intro p _ w u;rfl)]:∀c:Option V->Ls,bR (C (k+6)) 21 ax.sc EB (z1::(`name,none)::(`slot,none)::aG s (some (.cell 0)) (some (.d (je ns))) w4 o4 (some (.d (.list (maps.map Row.tup)))) (some (.cell 1)) o7 o8 o9 o10 o11 o12 (some (.d o.tup)) (some (.d o.obj)) o15 o16 o17) (.items ((o.syms.drop 1).map bV))=ret ((o.syms.drop 1).map λp=>.int (p.2:Nat)))) λY=>[]];simp![BF,ac,dX,dW];rw[lM (big a.oct)];wtm_at "f";rw[oj (by rw[Vo];show _+1<=_;rwa[a_1 hd])];dsimp![fL,ac];rw[show(o.syms.drop 1).map (λp=>Dat.int (p.2:Nat))++[.int ((o.oct.length/8:Nat):Int)]=o.ends.map λi=>Dat.int (i:Nat)by delta Ob.ends;simp![VE,VQ];rfl];simp![Np,Dz,fM (k:=k+4) a];rw[E1.2.2];simp![fL,ac,dX,dW];rw[show bI `zip [.d (.tuple (o.syms.map bV)),.d (.list (o.ends.map λi=>Dat.int (i:Nat)))]=ret (.pairs (zS (o.syms.map bV) (o.ends.map λi=>Dat.int (i:Nat))))by kernel_rfl,zip_map];dsimp![ac];rw[uU (λp:(Nm×Nat)×Nat=>Dat.tuple [bV p.1,.int (p.2:Nat)]) (λp=>some (pW p)) (λw:Option V×Option V=>z1::(`row,w.1)::(`end,w.2)::aG _ _ _ _ _ _ _ _ _ _ _ _ _ _ _ _ _ _) (none,none) (by rw[Zm];rwa[big (Vw (X5 ..) a.syms)]) ∅ (by erw[λp Y w=>⟨(some (.d (bV p.1)),some (.d (.int (p.2:Nat)))),?_⟩];wtm_at "f";rfl),W7];simp![BF,ac];show de (cmp .NotEq (.d (.list (o.funs.map pW))) (.d (.list (o.funs.map pW)))) _ _ _=_;rw[kq Oc];rfl
theorem Of(a:FD q f ns)(h:xQ f ns maps c):Sk (C (k+6)) ax 17 (qm s w4 o4 o7 ns maps o8 o9 o10 o11 (some (rE f ns maps c)) o13 o14 o15 o16 o17) [p,q]=Sk (C (k+6)) ax 19 (qm s w4 o4 o7 ns maps o8 o9 o10 o11 (some (rE f ns maps c)) o13 o14 o15 (some (.d (je (bZ f ns)))) (some (.d (zK f ns maps c).tup))) [p,q]:=by have b:=h.few.sub h.rsub h.rlen;dsimp![qm,je];rw[Nq,aB (si (k:=k+5) a (λY d=>d) h.few),Nr];dsimp![dX,dW,ac];simp![dX,dW,aw,ac];erw[Vn (aB (km (k:=k+5) a h.rsub b)) (Vn (aB (iK (k:=k+3) a h.rsub b (qg h.ml))) ?_)];rfl
theorem Og{l:List Nm}:oK (.list (l.map .str)) (.list (l.map .str))=some true:=(jC (n:=5) λx b=>x_12 (VI.mp b) λr Y a=>a▸(oC 5)).2
theorem Oh(i:FD q f ns)(h:xQ f ns maps c):Sk (C (k+6)) ax 19 (qm s w4 o4 o7 ns maps o8 o9 o10 o11 o12 o13 (some (.d (zJ f ns maps c).obj)) o15 (some (.d (je (bZ f ns)))) (some (.d (zK f ns maps c).tup))) [p,q]=Sk (C (k+6)) ax 21 (qm s w4 o4 o7 ns maps o8 o9 o10 o11 o12 o13 (some (.d (zJ f ns maps c).obj)) o15 (some (.d (je (bZ f ns)))) (some (.d (zK f ns maps c).tup))) [p,q]:=by
 injections w4 s o7 o9 o10 o11 o15 o4 o8 o12 o13 _ ns maps q k c f p;have d:=xF (k:=k+2) (p:=p) (q:=q) h.W.sm;have e:=xF (k:=k+2) (p:=p) (q:=q) h.L.sm;have g:=vo (k:=k+3) (p:=p) (q:=q) h.W.sm.fit h.W.sm.a;replace d:=(h.st)▸d;rw[h.st2]at e;rw[h.need]at g;delta qm;rw[Nt];erw[Vn (aB (a:=false) (σ':=[p,q]) (jb (b:=false) (b':=false) ?_ λY=>jb (b:=false) (b':=false) ?_ λY=>jb (b:=false) (b':=false) ?_ λY=>rfl)) ?_]; ·delta je;erw[Vn (aB g) ?_];rw[kq Og];rfl
 ·simp![aw,aB d,u5,e8 (k:=k+4) h.L.fill.fit,ac,kq qf];rfl
 ·dsimp![dX,dW];simp![dX,dW,aw];erw[Vn (aB d) ?_];simp![ac];erw[Vn (aB e) ?_];simp![u5,e8 (k:=k+4) h.L.fill.fit,ac,kq qf];rfl
 dsimp![oH];rw[Nu];erw[Vn (aB (a:=false) (σ':=[p,q]) ?_) rfl];dsimp![dX,dW,ac];simp![dX,dW,aw,ac];erw[Vn (aB d) ?_];rw[E1.1];rwa[vu (k:=k+2) h.L (lY (k:=k+3) i h.rsub (h.few.sub h.rsub h.rlen) (Vw (VP ..) (qg h.ml)) h.rnd h.ln ∅)]
theorem La{st:ae}(g:w<=1000000):∃x f a,dk x=false/\x.length<=1000/\a<=w+1/\C (k+2) `_law_pick [.cell 0,.d (.list (["","1a","A","a-b","aaaaaaaaaaaaaaaa","a b"].map λs=>Dat.str (T s)))] (penM m w::st)=.ok (.d (.str x)) (penM f a::st):=by
 erw[ba λi=>bw (pick_run (k:=k) (σ:=st) (m:=m) (w:=w) (xs:=["","1a","A","a-b","aaaaaaaaaaaaaaaa","a b"].map λs=>Dat.str (T s)) g (λh=>k_cn h) (Vu rfl)) λd f a hd c e=>x_12 (VI.mp hd) λs j b=>?_];clear hd;subst b;have:∀s∈["","1a","A","a-b","aaaaaaaaaaaaaaaa","a b"],dk (T s)=false/\(T s).length<=1000:=by decide +kernel
 rwa[i (gO (T s) f a (this s j).1 (this s j).2 c e)]
theorem Oi(y:iP)(z:FD q f ns)(h:xQ f ns maps c)(l:w<=970000):∃r v,Sk (C (k+6)) ax 21 (qm s w4 o4 o7 ns maps o8 o9 o10 o11 o12 o13 o14 o15 o16 (some (.d (zK f ns maps c).tup))) [penM m w,q]=.ok (.d (.bool true)) [penM r v,q]:=by
 erw[ba λp=>x_34 (La (k:=k+4) (m:=m) (w:=w) (st:=[q]) (a_1 l)) λx A j b i d t=>kT (vt (k:=k) (m:=A) (w:=j) (q:=q) h.ok h.oct y h.back (a_2 d l) h.t0 h.tl) λB o n=>p (nv B o ?_)];delta qm;rw[Nv];rw[(by delta je;simp![iZ,ac];rw[Cm Dat.str (λx=>.bool (dk x)) (big (lb h.few.nl)) (by intro x b u;have g:=h.nm x b;simp![Qw,jv (k:=k+5) (lb (by delta dk at g;simp![Vq]at g;rwa[Vu g.1.1.2]))];rfl)];wtm_at "e";erw[(EC)▸((VK.mpr h.nm)▸?_)];rfl:yC (AB (aa (ao [cu (aa (bf (.d (je ns))) (bR (C (k+6)) 18 ax.sc y9 (z1::(`name,none)::aG s (some (.cell 0)) (some (.d (je ns))) w4 o4 (some (.d (.list (maps.map Row.tup)))) (some (.cell 1)) o7 o8 o9 o10 o11 o12 o13 o14 o15 o16 (some (.d (zK f ns maps c).tup)))))]) λe=>bD (bi `all e)))=ret false)];erw[Vn (aB (a:=false) (σ':=[penM A j,q]) ?_) ?_]; ·dsimp![hO,AB,kL];dsimp![ac,dX,dW];simp![ac,dX,dW,aw];erw[(show af .Mult (.d (.str (T "a"))) (.d (.int 16))=ret (.str (T "aaaaaaaaaaaaaaaa"))by kernel_rfl)▸?_];simp![fL,ac,mX,mW];erw[Vn (aB t) ?_];rw[jv (k:=k+5) (lb i),b];rfl
 dsimp![oH];rw[Nw];delta SE;rw[aw];simp![aB n,EE,ac];dsimp![je];erw[Vn (aB (sj (k:=k+1) z (λY b=>b) h.few h.tw)) ?_];rfl
end
section
def Item.Good:Item->Prop|.mp d x=>d.toNat<16/\dk x=true|.cl x=>dk x=true|_=>True
structure World(f:Nm->List Item)(ns:List Nm)(maps:List Row):Prop where
 ne:ns≠[]
 nl:ns.length<=5
 nd:ns.Nodup
 nm:∀x∈ns,dk x=true
 ml:maps.length<=3
 mnd:(maps.map Row.name).Nodup
 row:∀r∈maps,dk r.name=true/\dk r.kind=true/\r.kw<10000/\r.vw<10000/\r.most<10000
 its:∀x∈ns,f x≠[]/\(f x).length<=5/\∀it∈f x,it.Good
def DQ:Prop:=∀f ns maps,World f ns maps->∀c,1<=c->c<=ns.length->xQ f ns maps c
variable{s o7 o8:Option V}{p:aX}
theorem Rf(y:iP)(j:DQ)(b:FD q f ns)(h:World f ns maps)(g:w<=960000):∃t x,Sk (C (k+6)) ax 7 (qm s w4 o4 o7 ns maps none none none none none none none none none none) [penM m w,q]=.ok (.d (.bool true)) [penM t x,q]:=by have c:=h.nl;erw[ba λp=>bw (cS (k:=k+5) (σ:=[q]) (m:=m) (w:=w) (i:=ns.length) (a_1 g) (WF.mpr h.ne) (Wv c #v[])) λd z r hd e u=>?_];have a:=j f ns maps h (1+d) (by simp +arith only) (a_1 hd);erw[kT (Oi (k:=k) (s:=s) (w4:=w4) (o4:=o4) (o7:=o7) (o8:=some (.d (.int ((1+d:Nat):Int)))) (o9:=some (B1 ns (1+d))) (o10:=some (kH f ns (1+d))) (o11:=some (E0 f ns maps (1+d))) (o12:=some (rE f ns maps (1+d))) (o13:=some (.d (zJ f ns maps (1+d)).tup)) (o14:=some (.d (zJ f ns maps (1+d)).obj)) (o15:=some (O8 (zJ f ns maps (1+d)))) (o16:=some (.d (je (bZ f ns)))) (q:=q) (m:=z) (w:=r) y b a (a_2 e g)) λA o n=>p (nv A o (Vn ?_ n))];rw[<-Oh b a,<-Of b a,<-Oe a.W.fill.fit a.s1,<-Od b a,<-N9 b a];delta rE;rw[<-N8 a.ml,<-N7 b a.few a.ml a.fA a.fB,<-Rd b a.few];delta qm;simp![Qn];delta je;rw[zd (lb c)];simp![Ck,c7,GO,GN,aw];erw[Vn (aB u) ?_];dsimp![Dx];rw[Ck,c7];rw[Qo,jA (l:=none) (h:=some (1+d)) rfl (gC (a_2 hd c)) (by rw[Vo];rwa[a_1 c]),jA (l:=some (1+d)) (h:=none) (gC (by omega)) rfl (by rw[Vo];omega),cut_str,cut_str]at⊢;rfl
theorem vx(h:xs.map aj7=(t.take m).map some)(f:t.Nodup):xs.Nodup:=by have d:((t.take m).map some).Nodup:=List.Pairwise.map some (λa b c e=>c (Vp e)) (f.sublist (an9 ..));rw[<-h]at d;rwa[(List.pairwise_map.mp d).imp λc e=>c (VT _ e)]
theorem Rg:(T "abcde").length=5/\(T "abcde").Nodup/\(T "xyz").length=3/\(T "xyz").Nodup/\(∀i<5,signs.contains ((T "abcde").getD i 0)=true)/\∀i<3,signs.contains ((T "xyz").getD i 0)=true:=⋯
theorem Rh{l:List Int}(B:l.length<=1000000):∃(ns ws:List Nm)(m w:Nat),w<=150/\ns≠[]/\ns.length<=5/\ns.Nodup/\(∀x∈ns,dk x=true)/\ws.length<=3/\ws.Nodup/\(∀x∈ws,dk x=true)/\Sk (C (k+6)) ax 0 (aG (some (.d (.list (l.map .int)))) none none none none none none none none none none none none none none none none none) []=Sk (C (k+6)) ax 3 (aG (some (.d (.list (l.map .int)))) (some (.cell 0)) (some (.d (je ns))) (some (.d (je ws))) none none none none none none none none none none none none none none) [penM m w]:=by injections k l;erw[ba λz=>?_];obtain⟨H,y⟩:=NQ (k:=k+5) B;erw[bw (cS (k:=k+5) (σ:=[]) (m:=H) (w:=0) (i:=5) #v[] #v[] #v[]) λd J A hd a F=>x_34 (xI (k:=k+3) (m:=J) (w:=A) (many:=1+d) (tails:=T "abcde") (a_1 a) (by rw[Rg.1];rwa[a_1 hd]) #v[] (Rg.2.2.2.2.1)) λns I o f D n s=>bw (cS (k:=k+5) (σ:=[]) (m:=I) (w:=o) (i:=4) (mM f a (Vt 15 hd)) #v[] #v[]) λq K E b h u=>x_34 (xI (k:=k+3) (m:=K) (w:=E) (many:=q) (tails:=T "xyz") (D4 h f a (Vt 15 hd)) (by rw[Rg.2.2.1];rwa[a_1 b]) #v[] (Rg.2.2.2.2.2)) λws G L r j c t=>?_];have g:=VT sA n;simp![Vo,Vo,WC,Rg.1]at g;have p:=VT sA c;simp![Vo,Vo,WC]at p;erw[z (TP ns ws G L (by lia) λe=>by simp![e,a5]at g;lia (a_2 (m8 g) (XN (1+d) 5)) (vx n Rg.2.1) D (mM (m8 p) (X5 q (T "xyz").length) b) (vx c Rg.2.2.2.1) j ?_)];rw[Qg,aB y,Qh];simp![GO,GN,aw,c7];erw[Vn (aB F) ?_];dsimp![Dx];rw[Ck,c7];erw[Vn (aB s) ?_];rw[Qi];simp![GO,GN,aw,c7];rw[aB (show C (k+6) `_law_draw [.cell 0,.d (.int 4)] [penM I o]=_ from u),aB t];rfl
end
section
variable{s:Option V}
def kinds:List Nm:=["hash","array","queue"].map T
theorem Lb:∀x∈kinds,dk x=true:=⋯
structure Lc(r:Row):Prop where
 kind:dk r.kind=true
 kw:r.kw<10000
 vw:r.vw<10000
 most:r.most<10000
def L3(s:Option V)(ns ws:List Nm)(o5 o6:Option V):Ls:=aG s (some (.cell 0)) (some (.d (je ns))) (some (.d (je ws))) none o5 o6 none none none none none none none none none none none
theorem Ld{u:Option V}(d:w<=990000):∃(r:Row)(A l:Nat),Lc r/\r.name=x/\l<=w+4/\jg (C (k+6)) 22 ax.sc sx (.str x) (z1::(`name,u)::L3 s ns ws none none) [penM m w]=.ok (z1::(`name,some (.d (.str x)))::L3 s ns ws none none,some r.tup) [penM A l]:=by injections u _ ns ws k x s w m;erw[ba λy=>bw (sG (k:=k+4) (σ:=[]) (m:=m) (w:=w) (xs:=kinds) (a_1 d) (λh=>k_cn h) #v[]) λI J z B a E=>bw (cS (k:=k+5) (σ:=[]) (m:=J) (w:=z) (i:=9) (a_2 a d) #v[] #v[]) λG K q j b o=>bw (cS (k:=k+5) (σ:=[]) (m:=K) (w:=q) (i:=99) (mM b a d) #v[] #v[]) λn L F g c t=>bw (cS (k:=k+5) (σ:=[]) (m:=L) (w:=F) (i:=9) (D4 c b a d) #v[] #v[]) λH D M f e p=>y (gO ⟨x,I,G,1+n,1+H⟩ D M ⟨Lb I B,by dsimp only;rwa[a_1 j],by dsimp only;rwa[a_1 g],by dsimp only;rwa[a_1 f]⟩ rfl (D4 e c b a) ?_)];delta L3;simp![Qr,QH];dsimp![dX,dW,zf,mX,mW,ac];simp![dX,dW,zf,mX,mW,aw,ac];erw[Vn (aB E) (Vn (aB o) (Vn (aB t) ?_))];simp![Dx,fL,ac];erw[Vn (aB p) ?_];rfl
theorem Ri(y:w<=150)(p:ws.length<=3):∃(maps:List Row)(d b:Nat),b<=162/\maps.map Row.name=ws/\(∀r∈maps,Lc r)/\Sk (C (k+6)) ax 3 (L3 s ns ws none none) [penM m w]=Sk (C (k+6)) ax 4 (L3 s ns ws (some (.d (.list (maps.map Row.tup)))) none) [penM d b]:=by
 injections k m _ ns ws s w;erw[ba λo=>?_];erw[d6 (O2 (U:=C (k+6)) (n:=22) (sc:=ax.sc) (e:=sx) (ys:=ws) (σ:=[penM m w]) Dat.str (λu:Option V=>z1::(`name,u)::L3 s ns ws none none) (λys E σ=>∃(maps:List Row)(d b:Nat),σ=[penM d b]/\b+4*ys.length<=w+4*ws.length/\E=maps.map Row.tup/\maps.map Row.name++ys=ws/\(∀r∈maps,Lc r)/\maps.length+ys.length<=1000) (w:=none) (RC [] m w rfl (VM _) rfl rfl (λr h=>k_mn h) (by show 0+_<=_;rwa[a_1 p])) (by
  erw[λx ys E u σ j=>x_36 j λmaps d b t a l i q c=>t▸?_];subst l;simp![ar]at a c;erw[ba λo=>x_34 (Ld (k:=k) (m:=d) (w:=b) (x:=x) (u:=u) (s:=s) (ns:=ns) (ws:=ws) (mM a y (Vt 4 p))) λr m2 A B G D e=>o ⟨by rw[Vo];rwa[a_1 c],some (.d (.str x)),r.tup,_,e,maps++[r],m2,A,rfl,a_2 D a,by rw[VE];rfl,?_,?_,?_⟩]; ·simp![VE,VA,<-i,<-G];rfl
  ·intro z g;rcases VJ.mp g with g|g; ·rwa[q z g]
   ·rwa[(Vy.mp g)▸B]
  ·rw[al];show maps.length+1+_<=_;rwa[a_1 c])) λds F v e=>?_];erw[x_36 v λmaps d b f a hd i q Y=>?_];subst f;subst hd;rw[VC]at i;erw[o (gO maps d b (mM a y (Vt 4 p)) i q ?_)];dsimp![L3,je];rw[Qj];delta cu;rw[aw];rwa[(aB e).trans rfl]
theorem xR{x:Nm}{d:Dat}:∀{ks:List Nm}{vs:List Dat},ks.length=vs.length->bS x (putK y d ks vs).1 (putK y d ks vs).2=(match decide (x=y)with|true=>some d|false=>bS x ks vs)/\(putK y d ks vs).1.length=(putK y d ks vs).2.length/\(putK y d ks vs).1.length<=ks.length+1|[],[],_=>m_03 (by rfl) rfl (VM _)|[],_::_,h=>L2 h|_::_,[],h=>Hj h|z::ks,v::vs,h=>by have a:=xR (x:=x) (y:=y) (d:=d) (ks:=ks) (vs:=vs) (ae4 h);dsimp![putK];cases e:decide (y=z)with|true=>have e:=VF e;rw[<-e];erw[m_03 ?_ h (YE _)];dsimp![bS];cases decide (x=y)<;>rfl|false=>erw[m_03 ?_ (VT ah6 a.2.1) (WB a.2.2)];dsimp![bS];cases b:decide (x=z)with|true=>rw[VF b];rw[VO λz=>(WX e) z.symm]|false=>rwa[a.1]
theorem set_dict{f:Unit->M β}(a:ks.length<=1000000):aa (dq (.cell 1) (.d (.str x)) d) f (p::.dict ks vs::h)=f () (p::.dict (putK x d ks vs).1 (putK x d ks vs).2::h):=by erw[aB ?_];show alt (gd (er ks.length SL) (Res.ok () (p::.dict (putK x d ks vs).1 (putK x d ks vs).2::h))) _=_;simp![V0 (show _<=SL from big a)];rfl
theorem Item.Ok.good(h:it.Ok ms ns)(b:∀x∈ms,dk x=true)(a:∀x∈ns,dk x=true):it.Good:=by cases it with|mp d x=>rwa[⟨h.1,b x h.2⟩]|cl x=>rwa[a x h]|_=>trivial
structure rg(ks:List Nm)(vs:List Dat)(f:Nm->List Item)(ns:List Nm)n:Prop where
 len:ks.length=vs.length
 few:ks.length<=n
 look:∀x∈ns,bS x ks vs=some (.list ((f x).map Item.D))
theorem rg.put(h:rg ks vs f ns n):rg (putK x (.list (its.map Item.D)) ks vs).1 (putK x (.list (its.map Item.D)) ks vs).2 (λy=>if y=x then its else f y) (ns++[x]) (n+1):=by
 have l:=λy=>xR (x:=y) (y:=x) (d:=.list (its.map Item.D)) h.len;erw[⟨(l x).2.1,Vw (l x).2.2 (WB h.few),λy a=>Vn (l y).1 ?_⟩];by_cases e:y=x; ·rw[Vz e];rw[WG e]
 ·rw[VO e];rw[WO e];rcases VJ.mp a with a|a; ·rwa[h.look y a]
  ·rwa[absurd (Vy.mp a) e]
def E2(n:Nat)(its:List Item):Prop:=its≠[]/\its.length<=n/\∀it∈its,it.Good
def Rx(s:Option V)(ns ws:List Nm)(maps:List Row)(u:Option V×Option V):Ls:=aG s (some (.cell 0)) (some (.d (je ns))) (some (.d (je ws))) u.1 (some (.d (.list (maps.map Row.tup)))) (some (.cell 1)) u.2 none none none none none none none none none none
theorem Rj(I:w<=162)(M:∀x∈ns,dk x=true)(a:ns.length<=5)(K:∀x∈ws,dk x=true)(D:ws.length<=3):∃(ks:List Nm)(vs:List Dat)(f:Nm->List Item)(u:Option V×Option V)(r d:Nat),d<=212/\rg ks vs f ns 5/\(∀x∈ns,E2 4 (f x))/\Sk (C (k+6)) ax 4 (L3 s ns ws (some (.d (.list (maps.map Row.tup)))) none) [penM m w]=Sk (C (k+6)) ax 6 (Rx s ns ws maps u) [penM r d,.dict ks vs]:=by
 injections ns ws maps k s w m;erw[ba λE=>?_];erw[d6 (xG (U:=C (k+6)) (F:=ax) (n:=23) (s:=pT) (β:=V) (ys:=ns.zipIdx) (σ:=[penM m w,.dict [] []]) (w:=(none,none)) (kn:=λl=>Sk (C (k+6)) ax 6 l) (kr:=λv=>ret v) (λp:Nm×Nat=>Dat.tuple [.int (p.2:Nat),.str p.1]) (Rx s ns ws maps) (λys Y σ=>∃(ks:List Nm)(vs:List Dat)(f:Nm->List Item)(done:List Nm)(r d:Nat),σ=[penM r d,.dict ks vs]/\d+10*ys.length<=w+10*ns.length/\rg ks vs f done done.length/\done++ys.map (·.1)=ns/\(∀x∈done,E2 4 (f x))/\∀p∈ys,p.2<=1000) (TT [] [] (λY=>[]) [] m w rfl (by rw[Xd];rwa[VM _]) ⟨rfl,VM _,λx h=>nomatch h⟩ (by rw[ac2];rfl) (λx h=>nomatch h) λp H=>by have:=(List.mem_zipIdx H).2.1;rwa[a_2 this a]) (by
  intro j _ ys u σ g;obtain⟨x,i⟩:=j;erw[Pf g λks vs f done r d t b hd c B hi=>?_];subst t;simp![ar]at b;erw[ba λE=>Pd (GZ (k:=k+3) (m:=r) (w:=d) (i:=i) (ns:=ns) (ms:=ws) (q:=.dict ks vs) (mM b I (Vt 10 a)) (a_1 a) (a_1 D) (hi _ (Vv ..))) λits m2 L N h2 O J e=>E ⟨(some (.d (.str x)),some (.d (.int i))),_,?_,_,_,_,done++[x],m2,L,rfl,a_2 J b,by rw[al];rwa[hd.put (its:=its)],by rw[VA];rwa[c],λy A=>?_,λp H=>hi p (VB _ H)⟩]; ·delta Rx je;simp![Qq,JR];erw[Vn (aB e) ?_];dsimp![pV,ac];erw[Vn (set_dict (Vw hd.few (lb (by have:=VT sA c;rw[al]at this;rwa[a_2 (m8 this) a]:done.length<=5)))) ?_];rfl
  ·by_cases o:y=x; ·rw[WG o];rwa[m_03 h2 O λit h=>(N it h).good K M]
   ·rw[WO o];rcases VJ.mp A with A|A; ·rwa[B y A]
    ·rwa[absurd (Vy.mp A) o])) λu σ' G e=>?_];erw[Pf G λks vs f done r d z b hd c B Y=>?_];subst z;rw[YS,VC]at c;subst c;erw[E (RF ks vs f u r d (by have:d+10*0<=_:=b;rwa[mM this I (Vt 10 a)]) ⟨hd.len,Vw hd.few a,hd.look⟩ B ?_)];delta L3;rw[Qk,vV rfl,Ql];delta je;simp![show bI `enumerate [.d (.list (done.map Dat.str))]=ret (.pairs (kY 0 (done.map Dat.str)))by kernel_rfl,enum_zip];dsimp![ac];rwa[e]
theorem Rk(o:w<=212)(B:ns≠[])(G:ns.length<=5)(p:rg ks vs f ns 5)(a:∀x∈ns,E2 4 (f x)):∃(f':Nm->List Item)(q:aX)(N J:Nat),J<=220/\FD q f' ns/\(∀x∈ns,E2 5 (f' x))/\Sk (C (k+6)) ax 6 (Rx s ns ws maps u) [penM m w,.dict ks vs]=Sk (C (k+6)) ax 7 (Rx s ns ws maps u) [penM N J,q]:=by
 injections ns ks ws maps k f u s w vs m;erw[ba λM=>bw (cS (k:=k+5) (σ:=[.dict ks vs]) (m:=m) (w:=w) (i:=6) (a_1 o) #v[] #v[]) λd P D hd b O=>bw (sG (k:=k+4) (σ:=[.dict ks vs]) (m:=P) (w:=D) (xs:=[iI,kj]) (a_2 b o) (λh=>k_cn h) (Vu rfl)) λQ m2 L E F K=>?_];obtain⟨it,A,r⟩:∃it:Item,it.Good/\Dat.tuple [.str Q,.int 0,.str (T "lacks")]=it.D:=by
  have I:dk (T "lacks")=true:=by decide +kernel
  rcases VD.mp E with rfl|E; ·rwa[m_12 (.mp 0 (T "lacks")) (w7 #v[] I) rfl]
  ·rwa[(Vy.mp E)▸m_12 (.cl (T "lacks")) I rfl]
 erw[M ?_];delta Rx;rw[Qm];delta de;rw[aw];rw[aB (show C (k+6) `_law_draw [.cell 0,.d (.int 6)] [penM m w,.dict ks vs]=.ok (.d (.int d)) [penM P D,.dict ks vs]from O)];dsimp![EF,ac];cases decide ((d:Int)=0)with
 |false=>rwa[Ff f _ P D (a_2 b o) (m_22 ks vs rfl p.look) (λx t=>m_03 (a x t).1 (YT (a x t).2.1) (a x t).2.2) rfl]
 |true=>
  erw[kT (Wi B) λx xs j=>?_];subst j;have g:=a x (Vv ..);erw[Ff _ _ m2 L (mM F b o) (m_22 _ _ rfl λy n=>(p.put (x:=x) (its:=it::f x)).look y (Xi _ n)) (λy n=>?_) ?_]
  ·by_cases e:y=x
   ·rw[WG e];erw[m_03 (λh=>k_cn h) (WB g.2.1) λz H=>?_];rcases VD.mp H with rfl|H; ·rwa[A]
    ·rwa[g.2.2 z H]
   ·rw[WO e];rwa[m_03 (a y n).1 (YT (a y n).2.1) (a y n).2.2]
  erw[(Tu)▸?_];dsimp![kL,jy];simp![dX,dW,zf,mX,mW,aw,ac];erw[Vn (aB K) ?_];dsimp![ac,mX,mW];rw[(by rwa[J8 (h:=Dat.str) (l:=x::xs) (af1 _) (lb G)]:ay (.d (je (x::xs))) (.d (.int 0))=ret (.str x))];dsimp![fL,ac];delta bD;rw[aw];erw[Vn (Ks (c:=1) (ks:=ks) (vs:=vs) rfl (p.look x (Vv ..))) ?_];dsimp![ac];erw[(r)▸?_];rw[oj (by rw[Vo];show 1+_<=_;have:=g.2.1;rwa[a_1 this])];erw[Vn (set_dict (lb p.few)) ?_];rfl
theorem Le(P:iP)(z:DQ){l:List Int}(H:l.length<=1000000):∃σ',C (k+7) `law [.d (.list (l.map .int))] []=.ok (.d (.bool true)) σ':=by injections k l;erw[ba λG=>T8 (Rh (k:=k) H) λns ws m w J e c p y a v d F=>x_34 (Ri (k:=k) (s:=some (.d (.list (l.map .int)))) (ns:=ns) (ws:=ws) (m:=m) J a) λmaps m3 T x b g E=>RM (Rj (k:=k) (s:=some (.d (.list (l.map .int)))) (ns:=ns) (ws:=ws) (maps:=maps) (m:=m3) x y c d a) λks vs f u B R i o A L=>RK (Rk (k:=k) (s:=some (.d (.list (l.map .int)))) (ws:=ws) (maps:=maps) (u:=u) (m:=B) i e c o A) λf' q M K j Q n D=>kT (Rf (k:=k) (s:=some (.d (.list (l.map .int)))) (w4:=some (.d (je ws))) (o4:=u.1) (o7:=u.2) (m:=M) (w:=K) P z Q ⟨e,c,p,y,by rw[<-Vo Row.name,b];rwa[a],by rw[b];rwa[v],λr h=>Cn (d _ ((b)▸VI.mpr (m_12 r h rfl))) (g r h).kind (g r h).kw (g r h).vw (g r h).most,n⟩ (a_1 j)) λO N I=>G ⟨[],?_⟩];simp![Qf];rwa[K5 (σ:=[]) (t:=[penM O N,q]) (Vn F (E.trans (L.trans (D.trans I))))]
end
open PySem.NumText in theorem oE(h:d0 w=true):num (numOf w)=w/\numOf w<10000000000:=by
 injections w;delta d0 at h;simp![Vq,Vq,Vq,Vx,Vx,Wn]at h;obtain⟨⟨⟨f,g⟩,l⟩,i⟩:=h;have hd:AllDigits w:=λc a=>by have:=VK.mp l c a;simp![zu,Vq,ZE,ZE]at this;rwa[this]
 have j:w6 10 (digitsVal w)=w.map am8:=by erw[toDigits_digitsVal (w.length-1) w (Nat.succ_pred_eq_of_pos f).symm hd ?_];clear l;clear f;cases w with|nil=>rwa[.inl rfl]|cons c r=>cases r with|nil=>rwa[.inl rfl]|cons d r=>erw[.inr (m_22 c _ rfl (Nat.lt_of_le_of_ne hd.head.1 λe=>?_))];subst e;rwa[k_tf i]
 constructor; ·dsimp![num,numOf];rw[j,VQ];rwa[(WR λc a=>((by decide +kernel:∀c<58,(am8 c).toNat=c)) c (an7 (hd c a).2)).trans (af9 w)]
 ·erw[(Nat.length_toDigits_le_iff (b:=10) (k:=10) #v[] #v[]).mp ?_];show(w6 10 (digitsVal w)).length<=10;rw[j,Vo];rwa[g]
theorem jE:numOf (num n)=n:=PySem.W.KIN.val_back n
theorem rh(h:c∈num n):48<=c/\c<=57:=x_12 (VI.mp h) λd b a=>a▸(PyProof.Rows.digit_range (Nat.isDigit_of_mem_toDigits #v[] #v[] b))
theorem oF(h:n<10000000000):d0 (num n)=true:=by
 injections n;have a:0<(num n).length:=by delta num;rw[Vo];rwa[Nat.length_toDigits_pos]
 delta d0;simp![Vz a,Vz (len_num h),(VK.mpr λc b=>by simp![zu,Vq,ZE,ZE];rwa[rh b]:(num n).all vg.contains=true)];suffices k:(num n).getD 0 0=48->num n=[48]by cases e:decide ((num n).getD 0 0=48)with|false=>rfl|true=>rw[Vz (k (VF e))];rfl
 intro e;have t:=PySem.NumText.toDigits_all (num n) λc b=>rh b;rw[show PySem.NumText.digitsVal (num n)=n from jE]at t;cases q:num n with
 |nil=>replace a:=(q)▸a;rwa[Uc a]
 |cons c r=>
  rw[q]at e t;subst e;replace t:=(List.dropWhile_cons)▸t;have l:(num n).length=(w6 10 n).length:=Vo ..;cases f:r.dropWhile (· ==48)with
  |nil=>replace t:=(f)▸t;have t:w6 10 n=['0']:=t;rw[t,q]at l;cases r with|nil=>rfl|cons _ _=>rwa[absurd l (by simp)]
  |cons d g=>replace t:=(f)▸t;rw[show w6 10 n=(d::g).map am8 from t,q,Vo]at l;have:=(List.dropWhile_sublist (l:=r) (· ==48)).length_le;rw[f]at this;rw[ar]at l;lia
theorem ku{x:Nat}{s:Nm}:∃p ps,splitOn c s=p::ps/\splitOn c (x::s)=match mn x c with|true=>[]::p::ps|false=>(x::p)::ps:=by
 erw[ba λa=>kT (Wi (lP (c:=c) (s:=s))) λp ps e=>a (m_22 p ps e ?_)];conv=>lhs;unfold splitOn
 rw[e];try(cases mn x c<;>rfl)
theorem join_split{c:Nat}:∀{s:Nm},aS [c] (splitOn c s)=s|[]=>rfl|x::s=>by have a:=join_split (c:=c) (s:=s);erw[d6 (ku (c:=c) (x:=x) (s:=s)) λp d e b=>?_];replace a:=(e)▸a;erw[(b)▸?_];clear b;clear e;cases q:mn x c with|true=>rwa[(WU q)▸VT (af2 c) a]|false=>erw[Vn ?_ (VT (af2 x) a)];clear a;obtain⟨⟩:=d<;>rfl
theorem xS{c:Nat}:∀{a s:Nm},c∉a->splitOn c (a++c::s)=a::splitOn c s|[],s,_=>by erw[d6 (ku (c:=c) (x:=c) (s:=s)) λp ps e b=>?_];simp![X7];simp![b,e,Nat.beq_refl]|x::a,s,h=>by erw[d6 (ku (c:=c) (x:=x) (s:=a++c::s)) λp ps e b=>?_];replace e:=Vn (am (xS (c:=c) (a:=a) (s:=s) λq=>h (VB _ q))) e;injection e with f d;subst f d;simp![ap7];simp![b,(WT.mpr λq=>h ((WU q)▸Vv .. ):mn x c=false)]
theorem vy{c:Nat}:∀{a:Nm},c∉a->splitOn c a=[a]|[],_=>rfl|x::a,h=>by erw[d6 (ku (c:=c) (x:=x) (s:=a)) λp ps e b=>?_];replace e:=Vn (am (vy (c:=c) (a:=a) λq=>h (VB _ q))) e;injection e with f d;subst f d;simp![b,(WT.mpr λq=>h ((WU q)▸Vv .. ):mn x c=false)]
theorem oG:∀{ws:List Nm},ws≠[]->(∀w∈ws,c∉w)->splitOn c (aS [c] ws)=ws|[],h,_=>absurd rfl h|[w],_,h=>vy (h w (Vy.mpr rfl))|w::v::ws,_,h=>by show splitOn c (w++[c]++aS [c] (v::ws))=_;rw[VA];simp![List.singleton_append,xS (h w (Vv ..)),oG (ws:=v::ws) (Xw _ _) λu a=>h u (VB _ a)]
def fU(w:Nm):Prop:=∀c∈w,33<=c
theorem fU.nm(h:dk x=true):fU x:=λc a=>by delta dk at h;rw[Vq]at h;rwa[((by decide +kernel:∀c∈T "abcdefghijklmnopqrstuvwxyz0123456789_",33<=c)) c (V9.mp (VK.mp h.2 c a))]
theorem fU.num:fU (num n):=λc a=>Vw #v[] (rh a).1
theorem fU.no(h:fU w)(a:c<33):c∉w:=λq=>absurd (h c q) (XR a)
theorem lZ(b:ws≠[])(h:∀w∈ws,fU w):cK (aS (T " ") ws)=ws:=oG b λw a=>(h w a).no #v[]
theorem U4:T "\n"=[10]:=⋯
theorem Oj:∀{ws:List Nm},(∀w∈ws,fU w)->10∉aS [32] ws:=by
 intro d;induction d with
 |nil=>rwa[λY=>λh=>k_mn h]
 |cons w a b=>
  cases a with
  |nil=>rwa[λh=>(h w (Vy.mpr rfl)).no #v[]]
  |cons v ws=>
   intro h;show 10∉w++[32]++aS [32] (v::ws);rw[VJ,VJ,Vy];rintro((q|q)|q); ·rwa[(h w (Vv ..)).no #v[] q]
   ·cases q
   ·rwa[b (λu c=>h u (VB _ c)) q]
theorem Lf(h:ws.length=n):ws=(eg n).map (gw ws):=by subst h;erw[ZZ (by simp![Vo,VN]) λi a b=>?_];simp![Y9,ZG];delta gw;simp![VL,VG a];rfl
theorem qh(h:(cK l).length=n):l=aS (T " ") ((eg n).map (gw (cK l))):=by simp![<-Lf h,T1,join_split]
theorem mF:(∀x∈p0,zj (hv x)=x/\hv x<16)/\∀i<16,hv (zj i)=i/\zj i∈p0:=⋯
theorem Ol(d:h<16)(c:m<16):hex2 (16*h+m).toUInt8=[zj h,zj m]:=by delta hex2;rw[vq (a_2 c (Vt 16 d)),aq4 #v[],Nat.div_eq_of_lt c,Nat.mul_add_mod,ZY c];rfl
theorem B3{d:α}{w:List α}(h:w.length=n):w=(eg n).map λi=>w.getD i d:=by erw[h▸(ZZ (by simp![Vo,VN]) λi a b=>?_)];rw[Y9,ZG,VL,VG a];rfl
theorem G6{w:Nm}(h:w.length=16)(e:w.all p0.contains=true):hexOf (xy w)=w:=by
 have c:∀j<16,w.getD j 0∈p0:=λj a=>by rw[VL,VG ((h)▸a)];rwa[V9.mp (VK.mp e _ (Y7 _))]
 delta hexOf;rwa[((by erw[Vn VQ (WR λj a=>?_)];have a:=Wx.mp a;have b:=mF.1 _ (c (2*j) (a_1 (Vt 2 a)));have f:=mF.1 _ (c (2*j+1) (a_1 (Vt 2 a)));show hex2 _=_;simp![Ol b.2 f.2,b.1,f.1]:(xy w).map hex2=(eg 8).map λj=>[w.getD (2*j) 0,w.getD (2*j+1) 0]))▸(B3 (d:=0) h).symm]
theorem G7(h:b.length=8):xy (hexOf b)=b:=by rw[B3 (d:=0) h];generalize(λi=>b.getD i 0)=g;show(eg 8).map (λj=>(16*hv (zj ((g j).toNat/16))+hv (zj ((g j).toNat %16))).toUInt8)=_;erw[WR λj Y=>?_];have:=(g j).toNat_lt;rw[(mF.2 _ (Tz _)).1,(mF.2 _ (ZD _ #v[])).1,Nat.div_add_mod];rwa[UInt8.toNat_inj.mp (vq this)]
theorem E3:(hexOf b).all p0.contains=true:=by
 erw[VK.mpr λx a=>x_12 (List.mem_flatten.mp a) λl e a=>x_12 (VI.mp e) λc Y d=>?_];clear e;subst d;have:=c.toNat_lt;erw[V9.mpr ?_];rcases VD.mp a with rfl|a; ·rwa[(mF.2 _ (Tz _)).2]
 ·rwa[(Vy.mp a)▸(mF.2 _ (ZD _ #v[])).2]
theorem fU.hex:fU (hexOf b):=λc a=>((by decide +kernel:∀c∈p0,33<=c)) c (V9.mp (VK.mp E3 c a))
theorem zL:∀{y:List (List UInt8)},(∀a∈y,a.length=8)->y.flatten.length=8*y.length/\∀m:Ob,m.oct=y.flatten->m.slots=y
|[],_=>⟨rfl,λm h=>by dsimp![Ob.slots,Ob.count];rw[h];rfl⟩
|a::y,h=>by
 have d:=h a (Vv ..);have e:=zL (y:=y) λb j=>h b (VB _ j);have g:(a::y).flatten.length=8*(a::y).length:=by simp![Xj];simp![al,e.1,d,ar];simp +arith only
 erw[⟨g,λm f=>?_⟩];have c:=e.2 ⟨[],y.flatten,[],[]⟩ rfl;dsimp![Ob.slots,Ob.count]at c⊢;rw[f,g,YG _ #v[],ar,Xo,V3,VQ];rw[e.1,YG _ #v[]]at c;congr 1; ·delta Ob.slotB;simp![f,Xj,X6 (d)];rwa[Vn aa7 rfl]
 ·erw[Vn (WR λi Y=>?_) c];show m.slotB (i+1)=_;delta Ob.slotB;simp![f,Xj];rw[show 8*(i+1)=a.length+8*i by rwa[Zi (a_1 (so d)) (a_1 (m8 d))],WV,ap3,ap6,Wa (by simp +arith only),Xk,Xk,YU (by simp +arith only)];rfl
open PySem.NumText in noncomputable def DS(r:Row):Prop:=dk r.name=true/\dk r.kind=true/\r.kw<10000000000/\r.vw<10000000000/\r.most<10000000000
theorem Lg(f:hd l=T "map")(h:wO m l=some p):l=oq p/\DS p:=by injections m p _ l;erw[ba λg=>?_];obtain⟨e,h⟩:=aZ.mp h;have e:=VF e;obtain⟨j,h⟩:=aZ.mp h;obtain⟨-,h⟩:=aZ.mp h;obtain⟨d,h⟩:=aZ.mp h;obtain⟨i,h⟩:=aZ.mp h;erw[g ?_];injection h with k;erw[k▸?_];rw[Lf e]at d;have d:(d0 (gw (cK l) 3)&&(d0 (gw (cK l) 4)&&(d0 (gw (cK l) 5)&&true)))=true:=d;rw[Vq,Vq,W0]at d;have a:=oE d.1;have b:=oE d.2.1;have c:=oE d.2.2;erw[Fd ((qh e).trans ?_) j i a.2 b.2 c.2];show aS (T " ") [hd l,gw (cK l) 1,gw (cK l) 2,gw (cK l) 3,gw (cK l) 4,gw (cK l) 5]=aS (T " ") [T "map",gw (cK l) 1,gw (cK l) 2,num (numOf (gw (cK l) 3)),num (numOf (gw (cK l) 4)),num (numOf (gw (cK l) 5))];simp![f,a.1,b.1,c.1]
theorem B4:aS (T " ") [T "slot",hexOf b]=ja b:=by rfl
theorem G8(c:hd l=T "slot")(h:lQ l=some b):l=ja b/\b.length=8:=by injections b l;have e:=Ki h;obtain⟨d,h⟩:=aZ.mp h;obtain⟨a,h⟩:=aZ.mp h;injection h with f;clear h;clear h;subst f;rw[Vq,Vx]at a;erw[⟨?_,e⟩];rw[<-B4,G6 a.1 a.2];erw[(qh (VF d)).trans ?_];show aS (T " ") [hd l,gw (cK l) 1]=_;rw[c]
def DT(p:Nm×Nat):Prop:=dk p.1=true/\p.2<10000000000
theorem Lh(b:hd l=T "symbol")(h:wR m c l=some p):l=ot p/\DT p:=by injections c l m p;erw[ba λe=>?_];obtain⟨f,h⟩:=aZ.mp h;obtain⟨i,h⟩:=aZ.mp h;obtain⟨d,h⟩:=aZ.mp h;obtain⟨-,h⟩:=aZ.mp h;obtain⟨-,h⟩:=aZ.mp h;erw[e ?_];injection h with g;erw[g▸?_];have a:=oE d;erw[m_03 ((qh (VF f)).trans ?_) i a.2];show aS (T " ") [hd l,gw (cK l) 1,gw (cK l) 2]=aS (T " ") [T "symbol",gw (cK l) 1,num (numOf (gw (cK l) 2))];rw[b,a.1]
def DU(p:Nat×Nm×Nm):Prop:=p.1<10000000000/\p.2.1∈[T "map",T "call"]/\dk p.2.2=true
theorem Li(d:hd l=T "relocation")(h:wU acc c l=some p):l=mY p/\DU p:=by injections acc c l p;erw[ba λf=>?_];obtain⟨g,h⟩:=aZ.mp h;obtain⟨e,h⟩:=aZ.mp h;obtain⟨j,h⟩:=aZ.mp h;obtain⟨b,h⟩:=aZ.mp h;obtain⟨-,h⟩:=aZ.mp h;erw[f ?_];injection h with i;erw[i▸?_];have a:=oE e;erw[kS ?_ a.2 (VF b) j];rw[<-qc];erw[(qh (VF g)).trans ?_];show aS (T " ") [hd l,gw (cK l) 1,gw (cK l) 2,gw (cK l) 3]=aS (T " ") [T "relocation",num (numOf (gw (cK l) 1)),gw (cK l) 2,gw (cK l) 3];rw[d,a.1]
theorem Lj(h:pEnd m p w y=some z):w=[gE m p,[]]/\y=some z:=by cases w with|nil=>rwa[k_nn h]|cons l w=>have h:grd (decide ((cK l).length=3)) (grd (decide (gw (cK l) 0=T "end")) (grd (d0 (gw (cK l) 1)) (grd (decide (numOf (gw (cK l) 1)=m)) (grd (d0 (gw (cK l) 2)) (grd (decide (numOf (gw (cK l) 2)=p)) (grd (decide (w=[[]])) y))))))=some z:=h;erw[ba λd=>?_];obtain⟨e,h⟩:=aZ.mp h;obtain⟨b,h⟩:=aZ.mp h;obtain⟨c,h⟩:=aZ.mp h;obtain⟨i,h⟩:=aZ.mp h;obtain⟨j,h⟩:=aZ.mp h;obtain⟨f,h⟩:=aZ.mp h;obtain⟨g,h⟩:=aZ.mp h;erw[d ?_];rw[VF g];simp![<-EZ,<-VF i,<-VF f,(oE c).1,(oE j).1,<-VF b];rwa[⟨VT (· ::[[]]) (qh (VF e)),h⟩]
theorem ky{p:List A->Nm->Option A}{j:A->Nm}{B:A->Prop}(h:∀acc l a,hd l=key->p acc l=some a->l=j a/\B a):∀{ls:List Nm}{acc b:List A}{r:List Nm},gather key p ls acc=some (b,r)->∃as,b=acc++as/\ls=as.map j++r/\∀a∈as,B a:=by intro i;induction i with|nil=>intro _ _ _ e;rwa[k_nn e]|cons l ls d=>intro acc b r e;dsimp![gather]at e;cases q:decide (hd l=key)with|false=>simp![q]at e;cases e;rwa[ia [] (VC _).symm rfl λY h=>k_mn h]|true=>rw[q]at e;cases c:p acc l with|none=>replace e:=(c)▸e;rwa[k_nn e]|some a=>simp![c]at e;erw[gJ (d e) λas f k g=>?_];have:=h acc l a (VF q) c;rwa[ia (a::as) (by simp![f,VA];rfl) (by simp![k,this.1];rfl) (XF.mpr ⟨this.2,g⟩)]
theorem xT:∀{a b:List Nm},(∀l∈a,4<=l.length)->5*a.length<=(aS [10] (a++b)).length+1|[],_,_=>WK _|l::a,b,h=>by have d:=h l (Vv ..);have c:=xT (a:=a) (b:=b) λx f=>h x (VB _ f);simp![ap7,ar];cases e:a++b with|nil=>rw[(Xr.mp e).1];show 5*1<=l.length+1;rwa[a_1 d]|cons x g=>replace c:=(e)▸c;simp![N2];simp![al,al];show _<=l.length+1+_+1;rwa[a_2 c d]
theorem E4:o.text=aS [10] (o.lines++[gE o.lines.length (sumOf o.oct),[]]):=by erw[Vn (am mC) ?_];rw[U4]
theorem Tc(h:x∈[T "map",T "call"]):x.length<=10:=by
 have:∀x∈[T "map",T "call"],x.length<=10:=by decide +kernel
 rwa[this x h]
theorem B5(h:dk x=true):x.length<=15:=by delta dk at h;simp![Vq,Vq,Vq]at h;rwa[Vu h.1.1.2]
theorem four{a:Nm}{n:Nat}(h:er 4 a.length=true):4<=(a++m).length:=by simp![al];rwa[Vw (Vu h) (VW ..)]
theorem vz:(er 4 (T "map ").length=true/\er 4 (T "slot ").length=true)/\(er 4 (T "symbol ").length=true/\er 4 (T "relocation ").length=true)/\4<=(T "ringgate object 1").length:=⋯
theorem Rl{o:Ob}:∀l∈o.lines,4<=l.length:=by
 intro l a;delta Ob.lines at a;rw[VJ,VJ,VJ,VJ]at a;rcases a with(((a|a)|a)|a)|a; ·rw[Vy.mp a];rwa[vz.2.2]
 ·rwa[x_12 (VI.mp a) λr Y d=>d▸(four (n:=0) vz.1.1)]
 ·rwa[x_12 (VI.mp a) λr Y c=>c▸(four (n:=0) vz.1.2)]
 ·rwa[x_12 (VI.mp a) λr Y b=>b▸(four (n:=0) vz.2.1.1)]
 ·erw[x_12 (VI.mp a) λr Y e=>?_];rw[<-e];rwa[four (n:=0) vz.2.1.2]
theorem DV:iP:=by
 intro t o j h;delta parse at h;have g:aS [10] (splitOn 10 t)=t:=join_split;cases e:splitOn 10 t with
 |nil=>rwa[absurd e lP]
 |cons i ls=>
  rw[e]at h g;erw[ba λD=>?_];obtain⟨h3,h⟩:=aZ.mp h;obtain⟨S,h⟩:=aZ.mp h;erw[x_12 (XT.mp h) λn J h=>?_];obtain⟨x,I⟩:=n;erw[x_12 (XT.mp h) λm W h=>?_];obtain⟨y,r2⟩:=m;erw[x_12 (XT.mp h) λl U h=>?_];obtain⟨z,Z⟩:=l;erw[x_12 (XT.mp h) λk L h=>?_];obtain⟨u,r4⟩:=k;obtain⟨a,E⟩:=Lj h;erw[gJ (ky (λY Y Y=>Lg) J) λx' V A K=>gJ (ky (λY Y Y=>G8) W) λy' N F w=>gJ (ky (λY Y Y=>Lh) U) λX P B M=>gJ (ky (λY Y Y=>Li) L) λu' O C H=>D ?_];dsimp only at a E A F B C;clear h;clear h;clear h;clear h;clear D;clear h;clear h;clear h;subst V N P O;obtain rfl:=Vp E;have hs:=(zL w).2 ⟨x,y.flatten,z,u⟩ rfl;have d:(Ob.mk x y.flatten z u).lines.length=1+x.length+y.length+z.length+u.length:=by erw[Vn mu ?_];have:=VT sA hs;unfold Ob.slots at this;rw[Vo,VN]at this;rw[this]
  replace g:=(show i::ls=(Ob.mk x y.flatten z u).lines++[gE (Ob.mk x y.flatten z u).lines.length (sumOf y.flatten),[]]from by rw[d,<-a,(by have G:=join_split (c:=32) (s:=i);rw[(VF S:splitOn 32 i=rB)]at G;rwa[(G)▸join_split]:i=T "ringgate object 1")];simp![show ls=x.map oq++I from A,F,B,C];dsimp![Ob.lines];rw[hs];simp![VA];rfl)▸g;have f:=xT (b:=[gE (Ob.mk x y.flatten z u).lines.length (sumOf y.flatten),[]]) (Rl (o:=⟨x,y.flatten,z,u⟩));rw[g,d]at f;have R:=(zL w).1;erw[⟨⟨?_,?_,?_,?_,λr Q=>?_,λp q=>?_,λp q=>?_⟩,E4.trans g⟩]; ·rwa[XC (a_2 f j:5*x.length<=5*20000) #v[]]
  ·rwa[XC (mM (Vt 5 (m8 R)) (Vt 8 f) (Vt 8 j):5*y.flatten.length<=5*160000) #v[]]
  ·rwa[XC (a_2 f j:5*z.length<=5*20000) #v[]]
  ·rwa[XC (a_2 f j:5*u.length<=5*20000) #v[]]
  ·have:=K r Q;rwa[m_03 (B5 this.1) (B5 this.2.1) this.2.2]
  ·have:=M p q;rwa[⟨B5 this.1,this.2⟩]
  ·have:=H p q;rwa[m_03 this.1 (Tc this.2.1) (B5 this.2.2)]
open PySem.NumText in theorem sH(h:m=true)(e:p=some w):grd m p=some w:=aZ.mpr ⟨h,e⟩
theorem dt{p:Prop} [Decidable p](h:p):decide p=true:=Vz h
theorem kz:∀w∈[T "map",T "slot",T "symbol",T "relocation",T "end",T "call"],fU w:=by
 have:∀w∈[T "map",T "slot",T "symbol",T "relocation",T "end",T "call"],∀c∈w,33<=c:=by decide +kernel
 rwa[this]
theorem G9(h:x∈[T "map",T "call"]):fU x:=by
 rcases VD.mp h with rfl|h; ·rwa[kz _ (Vv ..)]
 ·rwa[(Vy.mp h)▸kz _ ⋯]
theorem dz(h:fU x)(a:∀w∈ws,fU w):∀w∈x::ws,fU w:=XF.mpr ⟨h,a⟩
theorem qi:∀w∈([]:List Nm),fU w:=λY h=>k_mn h
theorem Lk{r:Row}(h:DS r):∀w∈T "map"::r.words,fU w:=dz (kz _ ⋯) (dz (.nm h.1) (dz (.nm h.2.1) (dz .num (dz .num (dz .num qi)))))
theorem E5:∀w∈[T "slot",hexOf b],fU w:=dz (kz _ ⋯) (dz .hex qi)
theorem Ll(h:DT p):∀w∈[T "symbol",p.1,num p.2],fU w:=dz (kz _ ⋯) (dz (.nm h.1) (dz .num qi))
theorem Lm(h:DU p):∀w∈[T "relocation",num p.1,p.2.1,p.2.2],fU w:=dz (kz _ ⋯) (dz .num (dz (G9 h.2.1) (dz (.nm h.2.2) qi)))
theorem Lo:∀w∈[T "end",num n,num m],fU w:=dz (kz _ ⋯) (dz .num (dz .num qi))
theorem O9{r:Row}(h:DS r):cK (oq r)=T "map"::r.words:=lZ (Xw _ _) (Lk h)
theorem DW:cK (ja b)=[T "slot",hexOf b]:=lZ (Xw _ _) E5
theorem Lp(h:DT p):cK (ot p)=[T "symbol",p.1,num p.2]:=lZ (Xw _ _) (Ll h)
theorem Lq(h:DU p):cK (mY p)=[T "relocation",num p.1,p.2.1,p.2.2]:=(qc)▸lZ (Xw _ _) (Lm h)
theorem Td:cK (gE n m)=[T "end",num n,num m]:=lZ (Xw _ _) Lo
theorem vA(h:cK l=w::ws):hd l=w:=by delta hd;erw[(h)▸?_];rfl
theorem Om{r:Row}(h:DS r)(a:r.name∉m):hd (oq r)=T "map"/\wO m (oq r)=some r:=by
 erw[⟨vA (O9 h),?_⟩];delta wO;erw[(O9 h)▸(sH rfl (sH h.1 (sH (by simp![Wn];rwa[VO a]) (sH ?_ (sH h.2.1 ?_)))))]; ·show(d0 (num r.kw)&&(d0 (num r.vw)&&(d0 (num r.most)&&true)))=true;simp![oF h.2.2.1,oF h.2.2.2.1,oF h.2.2.2.2];rfl
 ·show some (Row.mk r.name r.kind (numOf (num r.kw)) (numOf (num r.vw)) (numOf (num r.most)))=_;simp![jE,jE,jE]
theorem Lr(h:b.length=8):hd (ja b)=T "slot"/\lQ (ja b)=some b:=by
 erw[⟨vA DW,?_⟩];delta lQ;erw[(DW)▸(sH rfl (sH ?_ ?_))]; ·show(decide ((hexOf b).length=16)&&(hexOf b).all p0.contains)=true;simp![sD,h,E3];rfl
 ·show some (xy (hexOf b))=_;rw[G7 h]
theorem On{d:List (Nm×Nat)}(h:DT p)(a:p.1∉d.map (·.1))(b:lR d c p.2=false):hd (ot p)=T "symbol"/\wR d c (ot p)=some p:=by
 erw[⟨vA (Lp h),?_⟩];delta wR;erw[(Lp h)▸(sH rfl (sH h.1 (sH (oF h.2) (sH (by simp![Wn];rwa[VO a]) (sH ?_ ?_)))))]; ·show(!lR d c (numOf (num p.2)))=true;rw[jE,b];rfl
 ·show some (p.1,numOf (num p.2))=_;rw[jE]
theorem Oo(h:DU p)(a:lS acc c p.1=false):hd (mY p)=T "relocation"/\wU acc c (mY p)=some p:=by
 erw[⟨vA (Lq h),?_⟩];delta wU;erw[(Lq h)▸(sH rfl (sH (oF h.1) (sH h.2.2 (sH (dt h.2.1) (sH ?_ ?_)))))]; ·show(!lS acc c (numOf (num p.1)))=true;rw[jE,a];rfl
 ·show some (numOf (num p.1),p.2.1,p.2.2)=_;rw[jE]
def Lu(ks:List Nm)(r:List Nm):Prop:=∃l r',r=l::r'/\hd l∈ks
theorem Lu.app{Ln:A->Nm}(c:Lu ks m):∀{as:List A},(∀a∈as,hd (Ln a)=key)->Lu (key::ks) (as.map Ln++m):=by intro f;induction f with|nil=>rwa[λY=>let⟨l,b,e,h⟩:=c;m_22 l b e (VB _ h)]|cons a as d=>rwa[λh=>m_22 (Ln a) (as.map Ln++m) rfl ((h a (Vv ..))▸Vv .. )]
theorem mH{p:List A->Nm->Option A}{n:A->Nm}(f:Lu ks m)(g:decide (key∈ks)=false):∀{as acc:List A},(∀pre a k,as=pre++a::k->hd (n a)=key/\p (acc++pre) (n a)=some a)->gather key p (as.map n++m) acc=some (acc++as,m):=by intro o;induction o with|nil=>intro acc _;erw[d6 f λl d c h=>?_];rw[c];show gather key p (l::d) acc=_;dsimp![gather];rw[VO (λe=>WX g (e▸h):hd l≠key),VC]|cons a as i=>intro acc h;obtain⟨j,q⟩:=h [] a as rfl;rw[VC]at q;show gather key p (n a::(as.map n++m)) acc=_;dsimp![gather];rw[j,Vz rfl];rw[q];erw[Vn (i λpre b k e=>by rw[VA];rwa[h (a::pre) b k (by simp![e];rfl)]) ?_];rw[VA];rfl
structure Ob.Canon(o:Ob):Prop where
 row:∀pre r post,o.maps=pre++r::post->DS r/\r.name∉pre.map Row.name
 oct:∀a∈o.slots,a.length=8
 all:o.slots.flatten=o.oct
 sym:∀pre p post,o.syms=pre++p::post->DT p/\p.1∉pre.map (·.1)/\lR pre o.count p.2=false
 rel:∀pre p post,o.rels=pre++p::post->DU p/\lS pre o.count p.1=false
 few:o.lines.length<10000000000
theorem zM{a:A}{l:List A}(h:a∈l):∃pre b,l=pre++a::b:=List.append_of_mem h
theorem Lv:cK (T "ringgate object 1")=rB/\rB.length=3/\10∉T "ringgate object 1":=⋯
theorem DY(h:o.Canon):parse o.text=some o:=by
 injections o;have v:∀p∈o.syms,DT p:=λr d=>let⟨a,b,e⟩:=zM d;(h.sym a r b e).1;have d:∀p∈o.rels,DU p:=λr d=>let⟨a,b,e⟩:=zM d;(h.rel a r b e).1;have i:Lu [T "end"] [gE o.lines.length (sumOf o.oct),[]]:=m_22 _ _ rfl (Vv .. );have m:=i.app (Ln:=mY) (key:=T "relocation") (as:=o.rels) λp f=>vA (Lq (d p f));have g:=m.app (Ln:=ot) (key:=T "symbol") (as:=o.syms) λp f=>vA (Lp (v p f));have j:o.slots.flatten.length/8=o.count:=by rw[h.all];rfl
 delta parse;erw[(show splitOn 10 o.text=T "ringgate object 1"::(o.maps.map oq++(o.slots.map ja++(o.syms.map ot++(o.rels.map mY++[gE o.lines.length (sumOf o.oct),[]]))))from by
  simp![E4,oG (by simp![ne_eq];rw[Xr];rwa[λq=>nomatch q.2]) (show∀l∈o.lines++[gE o.lines.length (sumOf o.oct),[]],10∉l from by
   intro l c;unfold Ob.lines at c;rw[VJ,VJ,VJ,VJ,VJ]at c;have k:∀{x:List Nm}{l:Nm},aS (T " ") x=l->(∀w∈x,fU w)->10∉l:=λe n=>e▸T1▸Oj n;rcases c with((((c|c)|c)|c)|c)|c; ·rw[Vy.mp c];rwa[Lv.2.2]
   ·obtain⟨r,q,rfl⟩:=VI.mp c;rwa[k N3 (Lk ((show∀r∈o.maps,DS r fromλr d=>let⟨a,b,e⟩:=zM d;(h.row a r b e).1) r q))]
   ·obtain⟨r,_,rfl⟩:=VI.mp c;rwa[k B4 E5]
   ·obtain⟨r,q,rfl⟩:=VI.mp c;rwa[k N4 (Ll (v r q))]
   ·obtain⟨r,q,rfl⟩:=VI.mp c;rwa[k qc (Lm (d r q))]
   ·rcases VD.mp c with rfl|c; ·rwa[k EZ Lo]
    ·rw[Vy.mp c];rwa[λq=>nomatch q])];unfold Ob.lines;simp![VA];rfl)▸?_];show grd (decide ((cK (T "ringgate object 1")).length=3)) (grd (decide (cK (T "ringgate object 1")=rB)) _)=_;rw[Lv.1,Lv.2.1,Vz (rfl:rB=rB)];show(gather (T "map") (λu l=>wO (u.map Row.name) l) (o.maps.map oq++_) []).bind _=_;rw[mH (g.app (Ln:=ja) (key:=T "slot") (as:=o.slots) λp Y=>vA (DW (b:=p))) ⋯ λt r s e=>Om (h.row t r s e).1 (h.row t r s e).2];show(gather (T "slot") (λY l=>lQ l) (o.slots.map ja++_) []).bind _=_;rw[mH g ⋯ λt r s e=>Lr (h.oct r (by rw[e];rwa[Wj _ (Vv ..)]))];show(gather (T "symbol") (λu l=>wR u (o.slots.flatten.length/8) l) (o.syms.map ot++_) []).bind _=_;rw[j,mH m ⋯ λt r s e=>On (h.sym t r s e).1 (h.sym t r s e).2.1 (h.sym t r s e).2.2]at⊢;show(gather (T "relocation") (λu l=>wU u (o.slots.flatten.length/8) l) (o.rels.map mY++_) []).bind _=_;rw[j,mH i ⋯ λt r s e=>Oo (h.rel t r s e).1 (h.rel t r s e).2]at⊢;show pEnd (1+o.maps.length+o.slots.length+o.syms.length+o.rels.length) (sumOf o.slots.flatten) [gE o.lines.length (sumOf o.oct),[]] (some ⟨o.maps,o.slots.flatten,o.syms,o.rels⟩)=_;rw[h.all]at⊢;have c:o.lines.length=1+o.maps.length+o.slots.length+o.syms.length+o.rels.length:=by rw[mu]at⊢;unfold Ob.slots;rw[Vo,VN]at⊢
 rw[<-c]at⊢;unfold pEnd;show grd (decide ((cK (gE o.lines.length (sumOf o.oct))).length=3)) _=_;rw[Td]at⊢;erw[sH rfl (sH (dt rfl) (sH (oF h.few) (sH (dt jE) (sH (oF jN) (sH (dt jE) (sH rfl rfl))))))]
def lay(f:Nm->List Item)(xs:List Nm)(J:List Row):Ob:=⟨J,(xs.flatMap f).flatMap (Item.oct none),a0 f 0 xs,(place 0 (xs.flatMap f)).filterMap gn⟩
theorem Lw:lX f ns maps used=lay f ns (maps.filter λr=>decide (r.name∈used)):=rfl
noncomputable def UO(s:Nat)(p:Nat×Item):Nat×Item:=(s+p.1,p.2)
noncomputable def U5(s:Nat)(r:Nat×Nm×Nm):Nat×Nm×Nm:=(s+r.1,r.2.1,r.2.2)
noncomputable def TA(s:Nat)(p:Nm×Nat):Nm×Nat:=(p.1,s+p.2)
theorem Lx:∀{a:List Item}{t:Nat},place (s+t) a=(place t a).map (UO s):=by intro d;induction d with|nil=>rwa[rfl]|cons c a b=>intro t;show(s+t,c)::place (s+t+c.w) a=(s+t,c)::(place (t+c.w) a).map (UO s);simp![WV,b]
theorem Oq:gn (UO s p)=(gn p).map (U5 s):=by obtain⟨t,a⟩:=p;obtain⟨⟩:=a<;>rfl
def cT(s:Nat)(a:List Item):List (Nat×Nm×Nm):=(place s a).filterMap gn
theorem zN:cT (s+h) a=(cT h a).map (U5 s):=by delta cT;rw[Lx];simp![List.filterMap_map,ad2];congr 1;funext p;rwa[Oq]
theorem qj:cT s (a++h)=cT s a++cT (s+aH a) h:=by delta cT;simp![xN,YZ]
theorem Os:∀{xs:List Nm}{t:Nat},a0 f (s+t) xs=(a0 f t xs).map (TA s):=by intro b;induction b with|nil=>rwa[rfl]|cons x xs a=>intro t;show(x,s+t)::a0 f (s+t+aH (f x)) xs=(x,s+t)::(a0 f (t+aH (f x)) xs).map (TA s);simp![WV,a]
theorem B6:∀{xs ys:List Nm}{s:Nat},a0 f s (xs++ys)=a0 f s xs++a0 f (s+aH (xs.flatMap f)) ys:=by intro b;induction b with|nil=>rwa[rfl]|cons x xs a=>intro ys s;show(x,s)::a0 f (s+aH (f x)) (xs++ys)=(x,s)::(a0 f (s+aH (f x)) xs++_);simp![a,VY,gZ,WV]
theorem jf:∀{a:List Item}{w:Option Int},(a.flatMap (Item.oct w)).length=8*aH a:=by intro c;induction c with|nil=>rwa[rfl]|cons d a b=>intro w;rw[VY];simp![al,qb,b];rwa[(Nat.mul_add ..).symm]
theorem zO:(lay f xs J).oct.length=8*aH (xs.flatMap f):=jf
theorem iM:(lay f xs J).count=aH (xs.flatMap f):=by show(lay f xs J).oct.length/8=_;rw[zO,YG _ #v[]]
theorem l5:∀{a:List Item}{s:Nat}{p:Nat×Item},p∈place s a->s<=p.1/\p.1+p.2.w<=s+aH a:=by
 intro c;induction c with
 |nil=>intro _ _ h;rwa[k_mn h]
 |cons d a b=>
  intro s p h;rcases VD.mp h with rfl|h; ·rwa[⟨VM _,Xm (VW ..) _⟩]
  ·have:=b h;simp![WV]at this;rwa[⟨Vw (VW ..) this.1,this.2⟩]
theorem place_lt(h:p∈place s a):p.1<s+aH a:=XY (YH (BX (it:=p.2)).1) (l5 h).2
theorem vB(h:gn p=some r):r.1=p.1:=by obtain⟨t,a⟩:=p;obtain⟨⟩:=a<;>cases h<;>rfl
theorem sI(h:r∈cT s a):s<=r.1/\r.1<s+aH a:=x_12 (Wh.mp h) λp b e=>(vB e)▸⟨(l5 b).1,place_lt b⟩
noncomputable def l6(f:Nm->List Item):Nat->List Nm->List ((Nm×Nat)×Nat)|_,[]=>[]|s,x::xs=>((x,s),s+aH (f x))::l6 f (s+aH (f x)) xs
theorem B7:∀{xs:List Nm}{s e:Nat},s+aH (xs.flatMap f)=e->(a0 f s xs).zip (((a0 f s xs).drop 1).map (λp=>p.2)++[e])=l6 f s xs|[],_,_,_=>rfl|[x],s,e,h=>by rw[VY,Xv,VC]at h;show [((x,s),e)]=[((x,s),s+aH (f x))];rw[h]|x::y::xs,s,e,h=>by rw[VY,gZ,<-WV]at h;show((x,s),s+aH (f x))::(a0 f (s+aH (f x)) (y::xs)).zip (((a0 f (s+aH (f x)) (y::xs)).drop 1).map (λp=>p.2)++[e])=_;simp![B7 (xs:=y::xs) h];rfl
theorem B8:(lay f xs J).funs=l6 f 0 xs:=by delta Ob.funs Ob.ends;rwa[(iM)▸B7 (Wg _)]
structure Ot(f:Nm->List Item)(xs:List Nm)(g:(Nm×Nat)×Nat):Prop where
 ex:∃a b,xs=a++g.1.1::b/\g.1.2=aH (a.flatMap f)/\g.2=g.1.2+aH (f g.1.1)
theorem B9:∀{xs pre:List Nm},∀g∈l6 f (aH (pre.flatMap f)) xs,Ot f (pre++xs) g
|[],_,_,h=>k_mn h
|x::xs,pre,g,h=>by
 rcases VD.mp h with rfl|h; ·rwa[⟨pre,xs,rfl,rfl,rfl⟩]
 ·have a:=B9 (xs:=xs) (pre:=pre++[x]) g (by simp![Wp,VY,Xv,VC,gZ];rwa[h]);rw[VA]at a;rwa[a]
theorem xU(h:s+aH a<=m\/p<=s):(cT s a).filter (LM m p)=[]:=by erw[YR.mpr λr c q=>?_];have:=sI c;unfold LM at q;simp![Vq]at q;simp![Vx,Vx]at q;lia
theorem Ot.rels(h:Ot f xs m):(lay f xs J).rels.filter (LM m.1.2 m.2)=cT m.1.2 (f m.1.1):=by erw[fw h.ex λa b c d g=>?_];rw[c];show(cT 0 ((a++m.1.1::b).flatMap f)).filter _=_;rw[Wp,VY,qj,qj,Wg,<-d,<-g,ZH,ZH,xU (.inl (a_1 (so d))),xU (.inr (VM _)),X7,VC];erw[XM.mpr λr e=>?_];have:=sI e;delta LM;rw[g];simp![Vz this.1,Vz this.2];rfl
theorem Ot.oct(h:Ot f xs m):((lay f xs J).oct.take (8*m.2)).drop (8*m.1.2)=(f m.1.1).flatMap (Item.oct none):=by erw[fw h.ex λa b d c e=>?_];rw[d];show((((a++m.1.1::b).flatMap f).flatMap (Item.oct none)).take _).drop _=_;rw[Wp,Wp,VY,Wp,ap3,ap6,jf,<-c,YU (by simp![WC,jf,<-c];rwa[XN .. ]),WC,jf,<-c,Yk (a_1 (Vt 8 (so e))),Ym,aa7,X7,X6 (by erw[Vn jf ?_];rw[e,Nat.mul_add,Xk])]
theorem Te:decide (iI=iI)=true/\decide (kj=kj)=true/\decide (iI=kj)=false/\decide (kj=iI)=false:=⋯
theorem vC:∀{a:List Item}{s:Nat},rD (cT s a)=a.filterMap Item.use/\((cT s a).filter λr=>decide (r.2.1=kj)).map (·.2.2)=a.filterMap Item.call|[],_=>⟨rfl,rfl⟩|it::a,s=>by have b:=vC (a:=a) (s:=s+it.w);cases it with|mp d x=>rwa[⟨VT (x:: ·) b.1,b.2⟩]|cl x=>rwa[⟨b.1,VT (x:: ·) b.2⟩]|_=>rwa[b]
theorem Ou:rD (lay f xs J).rels=dY f xs:=vC.1
theorem Ot.calls(h:Ot f xs m):mx (lay f xs J) m.1.2 m.2=(f m.1.1).filterMap Item.call:=by delta mx;rw[show(λr:Nat×Nm×Nm=>decide (r.2.1=kj)&&(decide (m.1.2<=r.1)&&decide (r.1<m.2)))=λr=>decide (r.2.1=kj)&&LM m.1.2 m.2 r from rfl,<-X3,h.rels];rwa[vC.2]
theorem vD:∀{xs:List Nm}{s:Nat},(l6 f s xs).map (λg=>g.1.1)=xs:=by intro b;induction b with|nil=>rwa[rfl]|cons x xs a=>rwa[VT (af2 x) a]
theorem Ly:∀g∈l6 f 0 xs,Ot f xs g:=λg h=>B9 (pre:=[]) g h
theorem mI:y∈rC (lay f xs J) m↔m∈xs/\y∈(f m).filterMap Item.call:=by
 delta rC;rw[B8,Xc];constructor; ·erw[λc=>x_12 c λg b h=>?_];unfold jc at h;cases q:decide (g.1.1=m)with|false=>replace h:=(q)▸h;rwa[k_mn h]|true=>have e:=VF q;rw[q,(Ly g b).calls,e]at h;erw[⟨?_,h⟩];rw[<-vD (f:=f) (xs:=xs) (s:=0),<-e];rwa[VI.mpr (m_12 g b rfl)]
 ·rintro⟨d,h⟩;rw[<-vD (f:=f) (xs:=xs) (s:=0)]at d;erw[x_12 (VI.mp d) λg b a=>?_];clear d;subst a;erw[m_12 g b ?_];delta jc;rw[Vz rfl,(Ly g b).calls];rwa[h]
theorem sJ:(symAt (lay f xs J).syms y).isSome=true↔y∈xs:=by
 delta symAt;rw[an5,ao2];have e:=cL (f:=f) (ns:=xs) (s:=0);constructor; ·rwa[λa=>x_12 a λp b q=>(e)▸VI.mpr (m_12 p b (VF q))]
 ·intro h;rw[<-e]at h;rwa[x_12 (VI.mp h) λp b q=>m_12 p b (Vz q)]
theorem lay_head:(lay f xs J).syms.head?=some p↔xs.head?=some p.1/\p.2=0:=by
 cases xs with
 |nil=>rwa[⟨λh=>k_nn h,λh=>k_nn h.1⟩]
 |cons x l=>
  show some (x,0)=some p↔some x=some p.1/\p.2=0;constructor; ·intro h;obtain rfl:=Vp h;rwa[⟨rfl,rfl⟩]
  ·rintro⟨a,b⟩;obtain rfl:=Vp a;rw[<-b]
noncomputable def itr(f:Nm->List Item)(ns:List Nm):Nat->List Nm->List Nm|0,a=>a|n+1,a=>itr f ns n (dm f ns a)
theorem Ca:∀{l a:List Nm},l.foldl (λa Y=>dm f ns a) a=itr f ns l.length a|[],_=>rfl|_::l,a=>Ca (l:=l) (a:=dm f ns a)
theorem mJ:y∈ko f m↔∃x∈m,y∈(f x).filterMap Item.call:=by
 delta ko;rw[Wh];constructor; ·rwa[λb=>x_12 b λa h e=>x_12 (Xc.mp h) λx c h=>m_12 x c (Wh.mpr (m_12 a h e))]
 ·rwa[λd=>x_12 d λx c h=>x_12 (Wh.mp h) λa h e=>m_12 a (Xc.mpr (m_12 x c h)) e]
theorem ij:x∈dm f ns h↔x∈ns/\(x∈h\/x∈ko f h):=by delta dm;rw[V8];simp![Wz,Vx,Vx]
def Still(f:Nm->List Item)(ns a:List Nm):Prop:=∀x∈dm f ns a,x∈a
theorem Still.step(h:Still f ns m):Still f ns (dm f ns m):=λx d=>by
 obtain⟨c,a⟩:=ij.mp d;rcases a with a|a; ·rwa[a]
 ·rwa[x_12 (mJ.mp a) λy b e=>ij.mpr ⟨c,.inr (mJ.mpr (m_12 y (h y b) e))⟩]
theorem Still.itr:∀{n:Nat}{a:List Nm},Still f ns a->Still f ns (itr f ns n a)|0,_,h=>h|n+1,_,h=>Still.itr (n:=n) h.step
noncomputable def E6(ns a:List Nm):Nat:=(ns.filter λx=>decide (x∈a)).length
theorem Rm{a b:List Nm}(h:∀x∈a,x∈b)(e:x∈b)(d:x∈ns)(f:x∉a):E6 ns a<E6 ns b:=by
 delta E6;rwa[((by
  simp![X3];erw[Yd λy Y=>?_];by_cases c:y∈a; ·rw[Vz c,Vz (h y c)];rfl
  ·rw[VO c];rfl:ns.filter (λx=>decide (x∈a))=(ns.filter λx=>decide (x∈b)).filter λx=>decide (x∈a)))▸Ye.mpr ⟨x,V8.mpr ⟨d,Vz e⟩,by rw[VO f];decide⟩]
theorem xV:∀{n:Nat}{a:List Nm},(∀x∈a,x∈ns)->ns.length<n+E6 ns a->Still f ns (itr f ns n a)
|0,a,_,h=>absurd h (by rw[Wg];rwa[ZO (VP ..)])
|n+1,a,hs,h=>by
 by_cases c:Still f ns a; ·rwa[c.itr (n:=n+1)]
 ·have:∃x,x∈dm f ns a/\x∉a:=XB λq=>c λx e=>XB λg=>q (m_12 x e g);erw[x_12 this λx e g=>?_];have k:=Rm (ns:=ns) (a:=a) (b:=dm f ns a) (λy d=>ij.mpr ⟨hs y d,.inl d⟩) e (ij.mp e).1 g;rwa[xV (n:=n) (λy d=>(ij.mp d).1) (a_2 h k)]
theorem E7(c:o=lay f ns J):∀{n:Nat}{a:List Nm},(∀x∈a,x∈ns/\Reach o x)->(∀x∈itr f ns n a,x∈ns/\Reach o x)/\∀x∈a,x∈itr f ns n a
|0,_,h=>⟨h,λY h=>h⟩
|n+1,a,h=>by
 have e:=E7 c (n:=n) (a:=dm f ns a) λx b=>by
  obtain⟨g,h2⟩:=ij.mp b;erw[⟨g,?_⟩];rcases h2 with h2|h2; ·rwa[(h x h2).2]
  ·erw[x_12 (mJ.mp h2) λy d i=>?_];subst c;rwa[(h y d).2.step (mI.mpr ⟨(h y d).1,i⟩) (sJ.mpr g)]
 rwa[⟨e.1,λx b=>e.2 x (ij.mpr ⟨(h x b).1,.inl b⟩)⟩]
theorem Cb:∀{n:Nat}{a:List Nm},∃q:Nm->Bool,itr f ns (n+1) a=ns.filter q|0,a=>⟨_,rfl⟩|n+1,a=>Cb (n:=n) (a:=dm f ns a)
theorem Cc{q:Nm->Bool}(h:m=ns.filter q):m=ns.filter λx=>decide (x∈m):=by subst h;erw[Yd λx a=>?_];rw[WW,Vx,V8];rwa[⟨λh=>⟨a,h⟩,λh=>h.2⟩]
theorem head_take:x∈xs.take 1↔xs.head?=some x:=by cases xs with|nil=>rwa[⟨λh=>k_mn h,λh=>k_nn h⟩]|cons y l=>show x∈[y]↔some y=some x;rw[Vy];rwa[⟨λh=>by rw[h],λh=>(Vp h).symm⟩]
theorem DZ(d:ns≠[]):bZ f ns=ns.filter (rc (lay f ns J)):=by have e:bZ f ns=itr f ns ns.length (ns.take 1):=Ca;erw[kT (Wi d) λr l g=>?_];clear d;subst g;obtain⟨q,o⟩:=Cb (f:=f) (ns:=r::l) (n:=l.length) (a:=(r::l).take 1);have i:∀x∈(r::l).take 1,x∈r::l/\Reach (lay f (r::l) J) x:=λx c=>⟨Wu c,λQ h Y=>h (x,0) (lay_head.mpr ⟨head_take.mp c,rfl⟩)⟩;have b:=E7 (f:=f) (J:=J) rfl (n:=(r::l).length) i;have st:Still f (r::l) (itr f (r::l) (r::l).length ((r::l).take 1)):=xV (λx c=>(i x c).1) (YH (List.length_pos_of_mem (V8.mpr ⟨Vv ..,Vz (Vv ..)⟩)));rw[<-e]at b st;erw[(Cc (e.trans o)).trans (Yd λx c=>?_)];rw[WW,Vx,kl];rwa[⟨λh=>(b.1 x h).2,λh=>h _ (λp k=>b.2 _ (head_take.mpr (lay_head.mp k).1)) λy z j m s=>st z (ij.mpr ⟨sJ.mp s,.inr (mJ.mpr (m_12 y j (mI.mp m).2))⟩)⟩]
theorem Ha(d:R=ns.filter (rc (lay f ns J)))(k:x∈R):Reach (lay f R J') x:=by
 have b:∀{x},x∈R↔x∈ns/\Reach (lay f ns J) x:=λ{x}=>by rw[d,V8,kl]
 erw[((b.mp k).2 (λx=>x∈R/\Reach (lay f R J') x) (λp g=>?_) λy z c i o=>?_).2]
 ·have e:=(lay_head.mp g).1;have n:p.1∈ns:=List.mem_of_mem_head? e;have j:R.head?=some p.1:=by rw[d];clear d;cases ns with|nil=>rwa[k_nn e]|cons a l=>injection e with m;subst m;rw[Xa,WG (kl.mpr λQ h Y=>h p g)];rfl
  rwa[⟨b.mpr ⟨n,λQ h Y=>h p g⟩,λQ h Y=>h (p.1,0) (lay_head.mpr ⟨j,rfl⟩)⟩]
 ·have n:z∈R:=b.mpr ⟨sJ.mp o,(b.mp c.1).2.step i o⟩;rwa[⟨n,c.2.step (mI.mpr ⟨c.1,(mI.mp i).2⟩) (sJ.mpr n)⟩]
theorem filter_all(h:∀x∈R,Reach (lay f R J') x):R.filter (rc (lay f R J'))=R:=XM.mpr λx a=>kl.mpr (h x a)
theorem Lz:lay f (R++[x]) []=⟨[],(lay f R []).oct++(f x).flatMap (Item.oct none),(lay f R []).syms++[(x,(lay f R []).oct.length/8)],(lay f R []).rels++cT ((lay f R []).oct.length/8) (f x)⟩:=by rw[show(lay f R []).oct.length/8=aH (R.flatMap f)from iM];show Ob.mk [] (((R++[x]).flatMap f).flatMap (Item.oct none)) (a0 f 0 (R++[x])) (cT 0 ((R++[x]).flatMap f))=_;simp![(by simp![Wp];simp![VY,Xv,VC]:(R++[x]).flatMap f=R.flatMap f++f x),Wp,B6,qj,Wg];rfl
theorem Ov:((cT h a).map λr=>(m+r.1-h,r.2.1,r.2.2))=cT m a:=by rw[<-YV h,zN,<-YV m,zN,VQ];erw[WR λr Y=>?_];show(m+0+(h+r.1)-(h+0),r.2.1,r.2.2)=(m+r.1,r.2.1,r.2.2);congr 1;show m+(h+r.1)-h=_;rw[Nat.add_left_comm,Xk]
theorem vE(a:o=lay f ns J):∀{xs pre:List Nm},ns=pre++xs->(l6 f (aH (pre.flatMap f)) xs).foldl (jd o) (lay f (pre.filter (rc o)) [])=lay f (ns.filter (rc o)) []|[],pre,h=>by simp![h,VC];rfl|x::xs,pre,h=>by have c:Ot f ns ((x,aH (pre.flatMap f)),aH (pre.flatMap f)+aH (f x)):=⟨pre,xs,h,rfl,rfl⟩;have b:=vE a (xs:=xs) (pre:=pre++[x]) (by simp![h,VA];rfl);rw[(by simp![Wp,VY,Xv,VC,gZ]:aH ((pre++[x]).flatMap f)=aH (pre.flatMap f)+aH (f x))]at b;simp![<-b];show(l6 f (aH (pre.flatMap f)+aH (f x)) xs).foldl (jd o) (jd o (lay f (pre.filter (rc o)) []) ((x,aH (pre.flatMap f)),aH (pre.flatMap f)+aH (f x)))=_;congr 1;simp![ZH];show(match rc o x with|true=>_|false=>_)=_;cases q:rc o x with|false=>rw[Xa,q];show _=lay f (pre.filter (rc o)++[]) [];rw[VC]|true=>rw[Xa,WG q,aq8,Lz];dsimp only;rw[a,c.rels,c.oct,<-a,Ov]
theorem xW:my (lay f ns J)=lay f (ns.filter (rc (lay f ns J))) (J.filter λr=>decide (r.name∈dY f (ns.filter (rc (lay f ns J))))):=by delta my;rw[(by delta ci;rwa[(B8)▸vE rfl (pre:=[]) rfl]:ci (lay f ns J)=lay f (ns.filter (rc (lay f ns J))) []),Ou];rfl
def Item.s0(w:Option Int):Item->List UInt8|.mv d n=>[183,d,0,0]++dh n 4|.wd d n=>[24,d,0,0]++dh n 4|.mp d _=>[24,match w with|none=>d|some _=>d+16,0,0]++dh (w.getD 0) 4|.cl _=>[133,16,0,0]++dh (w.getD (-1)) 4|.ex=>[149]++LN 7
def Item.s1:Item->List (List UInt8)|.wd _ n=>[LN 4++dh ((n/4294967296:Nat):Int) 4]|.mp _ _=>[LN 8]|_=>[]
def Item.sl(w:Option Int)(it:Item):List (List UInt8):=it.s0 w::it.s1
theorem Ow:(it.sl w).length=it.w:=by obtain⟨⟩:=it<;>rfl
theorem UP:∀b∈it.sl w,b.length=8:=by erw[XF.mpr ⟨by cases it with|ex=>rfl|_=>rfl,?_⟩];cases it with|wd d n=>intro b h;simp![Vy.mp h,al,len_little];rfl|mp d x=>intro b h;rw[Vy.mp h];rfl|_=>rwa[λY h=>k_mn h]
theorem LB:(it.sl w).flatten=it.oct w:=by cases it with|wd d n=>rfl|mp d x=>rfl|_=>rwa[VC _]
theorem E8:∀{a:List Item},(a.flatMap (Item.sl none)).flatten=a.flatMap (Item.oct none):=by intro c;induction c with|nil=>rwa[rfl]|cons d a b=>rw[VY];simp![Yv,LB,b];rfl
theorem Pa:∀b∈a.flatMap (Item.sl none),b.length=8:=λb h=>x_12 (Xc.mp h) λc Y h=>UP b h
theorem mK:(lay f xs J).slots=(xs.flatMap f).flatMap (Item.sl none):=(zL Pa).2 _ E8.symm
theorem D0:∀{a:List Item}{pre:List (List UInt8)}{p:Nat×Item},p∈place pre.length a->∀j<p.2.w,(pre++a.flatMap (Item.sl none))[p.1+j]?=(p.2.sl none)[j]?:=by
 intro d;induction d with
 |nil=>intro _ _ h _ _;rwa[k_mn h]
 |cons e a c=>
  intro pre p h j b;erw[(VY)▸?_];rcases VD.mp h with rfl|h; ·rw[VU (VW ..),Xk,VS (by rw[Ow];rwa[b])]
  ·rw[<-VA];rwa[c (pre:=pre++e.sl none) (by rw[al,Ow];rwa[h]) j b]
theorem E9(h:p∈place 0 (xs.flatMap f))(a:j<p.2.w):(p.2.sl none)[j]?=some ((lay f xs J).slotB (p.1+j)):=by have b:=D0 (pre:=[]) h j a;rw[X7,<-mK (J:=J)]at b;erw[Vn (am b) (Vn ao1 ?_)];rw[ac1 (by rw[iM];have:=(l5 h).2;rwa[a_2 this a])];rfl
theorem Ox(h:gn p=some r)(hd:∀d x,p.2=.mp d x->(o.slotB p.1).getD 1 0=d):iJ o r=(ft o.syms o.maps p).map λw=>p.2.s0 (some w):=by obtain⟨s,b⟩:=p;cases b with|mp d x=>injection h with a;subst a;delta iJ ft;rw[Te.1,hd d x rfl];dsimp only;cases mapNo o.maps x<;>rfl|cl x=>injection h with a;subst a;dsimp![iJ,ft];cases symAt o.syms x<;>rfl|_=>rwa[k_nn h]
theorem D1(h:gn p=none):ft sy maps p=none:=by obtain⟨s,a⟩:=p;obtain⟨⟩:=a<;>first|rfl|rwa[k_sn h]
theorem Cd{o:Ob}:∀{a:List Item}{done:List (List UInt8)},(∀p∈place done.length a,∀d x,p.2=.mp d x->(o.slotB p.1).getD 1 0=d)->(run (gG o) (done++a.flatMap (Item.sl none)) (cT done.length a)).map ah1=run (fX o.syms o.maps) done.flatten (place done.length a)
|[],done,_=>by show(some (done++[])).map ah1=some done.flatten;rw[VC];rfl
|it::a,done,hd=>by
 have b:=λw=>Cd (o:=o) (a:=a) (done:=done++it.sl w) (by rw[al,Ow];rwa[λp c=>hd p (VB _ c)]);simp![al,Ow,Yv,LB,VA]at b;simp![(by show ai8 gn ((done.length,it)::_)=_;dsimp![eO];cases gn (done.length,it)<;>rfl:cT done.length (it::a)=(gn (done.length,it)).toList++cT (done.length+it.w) a),VY];simp![(by
  show run (fX o.syms o.maps) done.flatten ((done.length,it)::place (done.length+it.w) a)=_;conv=>lhs;unfold run
  cases fX o.syms o.maps done.flatten (done.length,it)<;>rfl:run (fX o.syms o.maps) done.flatten (place done.length (it::a))=(fX o.syms o.maps done.flatten (done.length,it)).bind λw=>run (fX o.syms o.maps) w (place (done.length+it.w) a))];conv=>rhs;unfold fX
 cases q:gn (done.length,it)with
 |none=>rw[D1 q];rwa[b none]
 |some r=>
  rw[show(some r).toList++cT (done.length+it.w) a=r::cT (done.length+it.w) a from rfl];conv=>lhs;unfold run
  dsimp![gG];erw[(Ox (o:=o) q (hd _ (Vv ..)))▸?_];cases ft o.syms o.maps (done.length,it)with|none=>rfl|some w=>show(run (gG o) ((done++it.s0 none::(it.s1++_)).set r.1 (it.s0 (some w))) _).map ah1=_;rw[vB q,List.set_append_right _ _ (VM _),Ym];rwa[b (some w)]
theorem LC:∀{l:List (Nat×Item)}{acc b:List UInt8},run (fX sy maps) acc l=some b->acc.length+8*l.length<=b.length/\b.length<=acc.length+16*l.length:=by intro e;induction e with|nil=>intro _ _ h;injection h with c;subst c;rwa[⟨VM _,VM _⟩]|cons p l a=>intro acc b h;dsimp![run,fX]at h;cases q:(gn p).isSome&&(ft sy maps p).isNone with|true=>replace h:=(q)▸h;rwa[k_nn h]|false=>replace h:=(q)▸h;have a:=a h;have d:=qb (it:=p.2) (w:=ft sy maps p);have f:=BX (it:=p.2);simp![ar];grind
structure Lay(f:Nm->List Item)(xs:List Nm)(J:List Row):Prop where
 ne:xs≠[]
 nl:xs.length<=5
 its:∀x∈xs,f x≠[]/\(f x).length<=5/\∀it∈f x,it.Good
 jl:J.length<=6
theorem Lay.few(h:Lay f xs J):rd f xs:=⟨lb h.nl,λx a=>lb (h.its x a).2.1,λx a b c d y e=>by have:=(h.its x a).2.2 b c;rw[e]at this;rwa[this.1]⟩
theorem ri:∀{xs:List Nm},(∀x∈xs,(f x).length<=5)->(xs.flatMap f).length<=5*xs.length:=by intro c;induction c with|nil=>rwa[λY=>WK _]|cons x xs a=>intro h;have a:=a λy b=>h y (VB _ b);have:=h x (Vv ..);rw[VY];simp![al,ar];rwa[a_2 this a]
theorem Lay.len(h:Lay f xs J):(xs.flatMap f).length<=25:=by have:=ri λx a=>(h.its x a).2.1;have:=h.nl;lia
theorem g0:∀{a:List Item},a.length<=aH a/\aH a<=2*a.length|[]=>⟨VM _,VM _⟩|it::a=>by have h:=g0 (a:=a);have i:=BX (it:=it);show a.length+1<=it.w+aH a/\it.w+aH a<=2*(a.length+1);rwa[⟨a_2 i.1 h.1,a_2 i.2 h.2⟩]
theorem Lay.pos(h:Lay f xs J):0<(xs.flatMap f).length:=by erw[kT (Wi h.ne) λx l a=>?_];subst a;erw[kT (Wi (h.its x (Vv ..)).1) λb r e=>?_];rw[VY,e];rwa[af1 _]
theorem Ce:(a0 f s xs).length=xs.length:=by have:=VT sA (cL (f:=f) (ns:=xs) (s:=s));rw[Vo]at this;rwa[this]
structure l7(o:Ob):Prop where
 maps:o.maps.length<=6
 oct:o.oct.length<=400
 syms:o.syms.length<=5
 rels:o.rels.length<=25
theorem l7.fit(h:l7 o):o.Fit:=⟨lb h.maps,lb h.oct,lb h.syms,lb h.rels⟩
theorem l7.size(h:l7 o):o.size<=436:=VZ (VZ (VZ h.maps h.oct) h.syms) h.rels
theorem rj(b:(xs.flatMap f).length<=25)(d:xs.length<=5)(e:J.length<=6):l7 (lay f xs J):=by have c:=(g0 (a:=xs.flatMap f)).2;erw[⟨e,by rw[zO];rwa[a_2 (Vt 8 c) (Vt 16 b)],Vw (XW Ce) d,?_⟩];have:=Xf gn (place 0 (xs.flatMap f));simp![place_len]at this;rwa[Vw this b]
theorem Lay.small(h:Lay f xs J):l7 (lay f xs J):=rj h.len h.nl h.jl
theorem Tf(h:l7 o)(b:∀p∈o.syms,p.2<=100000):o.Sm:=by have c:=h.syms;have a:=h.rels;rwa[⟨h.fit,lb (ab6 (WB c) (WB (ab6 (by delta Ob.funs;rw[Zm];rwa[Vw (X5 ..) c]) a))),lb (ab6 (WB c) (WB (VZ h.oct a))),b⟩]
theorem zP:∀{xs:List Nm}{s:Nat},∀p∈a0 f s xs,s<=p.2/\p.2<=s+aH (xs.flatMap f)/\(f p.1≠[]->p.2<s+aH (xs.flatMap f)):=by
 intro d;induction d with
 |nil=>intro _ _ h;rwa[k_mn h]
 |cons x xs b=>
  intro s p h;erw[(gZ)▸?_];rcases VD.mp h with rfl|h; ·erw[m_03 (VM _) (VW ..) λq=>?_];have c:=WF.mpr q;have e:=(g0 (a:=f x)).1;rwa[a_2 c e]
  ·have:=b p h;rw[WV]at this;rwa[⟨Vw (VW ..) this.1,this.2⟩]
theorem Lay.at'(h:Lay f xs J):∀p∈(lay f xs J).syms,p.2<=50:=λp c=>by have b:=(zP p c).2.1;have e:=(g0 (a:=xs.flatMap f)).2;have d:=h.len;rwa[mM b e (Vt 2 d)]
theorem Lay.fill(h:Lay f xs J):zC (lay f xs J):=by erw[⟨h.small.fit,by rw[iM];have:=(g0 (a:=xs.flatMap f)).2;have:=h.len;lia,λr l=>?_⟩];erw[x_12 (Wh.mp l) λb g e=>?_];obtain⟨s,it⟩:=b;have n:=(l5 g).2;have i:=(BX (it:=it)).1;simp![iM,vB e];erw[⟨a_2 n i,?_⟩];have sl:=λj k=>E9 (J:=J) g (j:=j) k;clear n;clear i;cases it with|mp d x=>injection e with c;rwa[c▸(.inl ⟨rfl,d,(Vp (sl 0 (Vu rfl))).symm,(Vp (sl 1 (Vu rfl))).symm,x_12 (Xc.mp (mz g)) λy m hi=>((h.its y m).2.2 _ hi).1⟩)]|cl x=>injection e with c;rwa[c▸(.inr ⟨λq=>absurd Te.2.2.2 (by rw[Vz q];decide),(Vp (sl 0 (Vu rfl))).symm⟩)]|_=>rwa[k_nn e]
theorem Lay.due(h:Lay f xs J):Due f (lay f xs J) xs J:=by
 erw[⟨h.fill,(mK)▸(Cd (o:=lay f xs J) (a:=xs.flatMap f) (done:=[]) λp g d x e=>by obtain⟨s,k⟩:=p;subst e;rwa[(VT (λb:List UInt8=>b.getD 1 0) (Vp (E9 (J:=J) g (j:=0) (Vu rfl)))).symm]),λe=>?_,λb e=>?_,Tf h.small λp g=>lb (h.at' p g)⟩]; ·have c:=(LC e).1;have i:=h.pos;replace c:=(place_len)▸c;rwa[Ue i c]
 ·have c:=(LC e).2;have i:=h.len;replace c:=(place_len)▸c;have c:b.length<=0+16*(xs.flatMap f).length:=c;rwa[a_2 c (Vt 16 i)]
section
variable{A B:List Row}
theorem fc{A:Type}{a:τ->A->Option τ}{y:A}{l:List A}:run a w (y::l)=(a w y).bind λw=>run a w l:=by
 conv=>lhs;unfold run
 cases a w y<;>rfl
theorem LD{b:Nat}:∀{l sy:List (Nm×Nat)},(sy.map (λp=>p.1)++l.map λp=>p.1).Nodup->run (jR b) sy l=some (sy++l.map (TA b))|[],sy,_=>by simp![YS,VC];rfl|p::l,sy,h=>by have a:=LD (b:=b) (l:=l) (sy:=sy++[TA b p]) (by rw[VE,VA];rwa[h]);simp![VA]at a;erw[Vn fc ?_];dsimp![jR];rwa[(VO λq=>(XG.mp h).2.2 _ q _ (Vv ..) rfl)▸a]
theorem D2(h:(xs++ys).Nodup):sh (lay f xs []) (lay f ys B)=some (lay f (xs++ys) []):=by delta sh;rw[show(lay f xs []).oct.length/8=aH (xs.flatMap f)from iM];show(match run (jR (aH (xs.flatMap f))) (a0 f 0 xs) (a0 f 0 ys)with|some a=>some (Ob.mk [] _ a _)|none=>none)=_;rw[LD (by simp![cL,cL];rwa[h])];rw[<-Os,YV];rw[(by show Ob.mk [] (((xs++ys).flatMap f).flatMap (Item.oct none)) (a0 f 0 (xs++ys)) (cT 0 ((xs++ys).flatMap f))=_;simp![Wp,Wp,B6,qj,Wg];rfl:lay f (xs++ys) []=⟨[],(lay f xs []).oct++(lay f ys B).oct,a0 f 0 xs++a0 f (aH (xs.flatMap f)) ys,cT 0 (xs.flatMap f)++cT (aH (xs.flatMap f)) (ys.flatMap f)⟩),<-YV (aH (xs.flatMap f)),zN];rfl
theorem vF:∀{l found:List Row},(l.map Row.name).Nodup->(∀r∈l,∀s∈found,s.name=r.name->s=r)->run jmStep found l=some (found++l.filter λr=>!decide (r.name∈found.map Row.name))
|[],found,_,_=>by simp![aq8,VC];rfl
|r::l,found,c,h=>by
 rw[V3,X4]at c;erw[Vn fc ?_];by_cases q:r.name∈found.map Row.name; ·erw[x_12 (VI.mp q) λs hs e=>?_];have d:=h r (Vv ..) s hs e;subst d;rw[Xa,WO (by rw[Vz q];decide)];rwa[((by delta jmStep;cases f:found.find? λt=>decide (t.name=s.name)with|none=>rwa[absurd (Vz rfl) (ad3.mp f s hs)]|some t=>have a:=h s (Vv ..) t (Yo f) (VF (Z5 (p:=λt:Row=>decide (t.name=s.name)) f));rw[a];dsimp only;rw[xC.mpr rfl]:jmStep found s=some found))▸vF (l:=l) (found:=found) c.2 λt a=>h t (VB _ a)]
 ·simp![(by delta jmStep;rw[ad3.mpr λt a e=>q (VI.mpr (m_12 t a (VF e)))]:jmStep found r=some (found++[r])),Wl,Xa];rw[WG (by rw[VO q];rfl)];have b:∀t∈l,t.name≠r.name:=λt a e=>c.1 (VI.mpr (m_12 t a e));erw[Vn (vF (l:=l) (found:=found++[r]) c.2 λt a s hs e=>by
   rcases VJ.mp hs with hs|hs; ·rwa[h t (VB _ a) s hs e]
   ·rw[Vy.mp hs]at e;rwa[absurd e.symm (b t a)]) ?_];simp![VA];congr 2;show r::_=r::_;congr 1;erw[Yd λt a=>?_];congr 1;rw[V1,VE,VJ];rwa[⟨λq=>q.resolve_right λq=>b t a (Vy.mp q),.inl⟩]
theorem Cf(a:(xs++ys).Nodup)(c:(A.map Row.name).Nodup)(b:(B.map Row.name).Nodup)(h:∀r∈B,∀s∈A,s.name=r.name->s=r):gH [lay f xs A,lay f ys B]=.ok (lay f (xs++ys) (A++B.filter λr=>!decide (r.name∈A.map Row.name))):=by delta gH;rw[show run sh ⟨[],[],[],[]⟩ [lay f xs A,lay f ys B]=some (lay f (xs++ys) [])from by simp![fc,show sh ⟨[],[],[],[]⟩ (lay f xs A)=some (lay f xs [])from D2 (f:=f) (xs:=[]) (B:=A) (XG.mp a).1,Wl,fc];rw[D2 a];rfl,show run ou [] [lay f xs A,lay f ys B]=some (A++B.filter λr=>!decide (r.name∈A.map Row.name))from by simp![fc,(by erw[Vn (vF (found:=[]) c λY Y Y h=>k_mn h) ?_];show some (A.filter _)=_;rw[XM.mpr];rwa[λY Y=>rfl]:ou [] (lay f xs A)=some A),Wl,fc,show ou A (lay f ys B)=_ from vF b h];rfl];rfl
theorem Hc:gH [lay f [x] A,lay f [x] A]=.error gF:=by delta gH;rw[fc,show sh ⟨[],[],[],[]⟩ (lay f [x] A)=some (lay f [x] [])from D2 (f:=f) (xs:=[]) (B:=A) (X4.mpr ⟨λh=>k_mn h,ab1⟩),Wl,fc,show sh (lay f [x] []) (lay f [x] A)=none from by delta sh;rw[(λb=>by show run (jR b) [(x,0)] [(x,0)]=none;erw[Vn fc ?_];dsimp![jR];rw[Vz (Vv .. :x∈[(x,0)].map _)];rfl:∀b,run (jR b) (lay f [x] []).syms (lay f [x] A).syms=none)]];rfl
theorem Oy(a:(maps.map Row.name).Nodup)(c:∀r∈maps,∀s∈maps,s.name=r.name->s=r):gH [cj maps,cj maps]=.ok (cj maps):=by have h:=Cf (f:=λY=>[]) (xs:=[]) (ys:=[]) ab1 a a c;rw[YR.mpr λr b d=>by rw[Vz (VI.mpr (m_12 r b rfl))]at d;rwa[gm d],VC maps]at h;rwa[h]
theorem Hd(d:(maps.map Row.name).Nodup)(a:maps≠[]):gH [cj maps,cj (maps.map Row.up)]=.error zA:=by
 have c:run jmStep [] maps=some maps:=by erw[Vn (vF (found:=[]) d λY Y Y h=>k_mn h) ?_];show some (maps.filter _)=_;rw[XM.mpr];rwa[λY Y=>rfl]
 erw[kT (Wi a) λr l b=>?_];subst b;delta gH;erw[(show run ou [] [cj (r::l),cj ((r::l).map Row.up)]=none from by simp![fc,show ou [] (cj (r::l))=some (r::l)from c,Wl,fc,show ou (r::l) (cj ((r::l).map Row.up))=none from(by simp![V3,fc];dsimp![jmStep];dsimp![fo];rw[(Vz rfl:decide (r.name=r.up.name)=true)];dsimp only;rw[WT.mpr λe=>ZU _ (VT Row.most (xC.mp e)).symm];rfl:run jmStep (r::l) ((r::l).map Row.up)=none)];rfl)▸?_];rfl
theorem Oz:∀{xs:List Nm}{s:Nat},(∀x∈xs,f x≠[])->(a0 f s xs).Pairwise λa b=>a.2<b.2:=by intro j;induction j with|nil=>intro _ _;rwa[.nil]|cons x xs d=>intro s h;erw[ad4.mpr ⟨λp g=>?_,d λy c=>h y (VB _ c)⟩];have e:=(zP p g).1;have k:=WF.mpr (h x (Vv ..));have i:=(g0 (a:=f x)).1;show s<p.2;rwa[mM e k i]
theorem LF:∀{a:List Item}{s:Nat},(place s a).Pairwise λa b=>a.1<b.1:=by intro e;induction e with|nil=>rwa[.nil]|cons it a c=>rwa[ad4.mpr ⟨λp d=>XY (YH (BX (it:=it)).1) (l5 d).1,c⟩]
theorem OA:(cT s a).Pairwise λa b=>a.1<b.1:=List.Pairwise.filterMap gn (λp q h r d t c=>by simp![vB d,vB c];rwa[h]) LF
theorem Fb{A:Type}{g:A->Nat}{e c:List A}{p:A}(h:(e++p::c).Pairwise λa b=>g a<g b)(d:e≠[]):(e.getLast?.map g).getD 0<g p:=(List.getLast?_eq_some_getLast d)▸(List.pairwise_append.mp h).2.2 _ (List.getLast_mem d) _ (Vv ..)
theorem Fc{A:Type}{l:List A}(h:l≠[]->m=false):(!l.isEmpty&&m)=false:=by cases l with|nil=>rfl|cons a l=>erw[Vn (h (Xw _ _)) ?_];rfl
end
section
theorem World.lay(h:World f ns maps)(a:J.length<=6):Lay f ns J:=⟨h.ne,h.nl,h.its,a⟩
theorem xX{r s:Row}:∀{maps:List Row},(maps.map Row.name).Nodup->r∈maps->s∈maps->s.name=r.name->s=r:=by
 intro f;induction f with
 |nil=>rwa[λY h Y Y=>k_mn h]
 |cons t l b=>
  intro h c g e;have h:=X4.mp h;rcases VD.mp c with a|a<;>rcases VD.mp g with d|d; ·simp![a,d]
  ·rwa[absurd (VI.mpr ⟨s,d,by rw[e,a]⟩) h.1]
  ·rwa[absurd (VI.mpr ⟨r,a,by rw[<-e,d]⟩) h.1]
  ·rwa[b h.2 a d e]
theorem gI{p:Row->Bool}(h:(maps.map Row.name).Nodup):((maps.filter p).map Row.name).Nodup:=h.sublist (List.filter_sublist.map _)
theorem Cg{r:Row}(h:r∈dw f ns maps c):r∈maps/\r.name∈jD f ns c++oD f ns c:=by
 delta dw at h;rw[VJ]at h;simp![V8,V8,Vq,Vx,Vx]at h;rcases h with h|h; ·rwa[⟨h.1,Xi _ h.2⟩]
 ·rwa[⟨h.1,Wj _ h.2.1⟩]
theorem vG(h:(maps.map Row.name).Nodup):((dw f ns maps c).map Row.name).Nodup:=by injections ns maps c f;delta dw;rw[VE];erw[XG.mpr ⟨gI h,gI h,λa j b i e=>x_12 (VI.mp j) λr k g=>?_⟩];clear j;subst g;erw[x_12 (VI.mp i) λs m d=>?_];clear i;subst d;have l:=(V8.mp m).2;rw[<-e,Vq,Wn,decide_eq_false_iff_not]at l;rwa[l.2 (VF (V8.mp k).2)]
theorem D3:zJ f ns maps c=lay f ns (dw f ns maps c):=by delta zJ;dsimp![Lw];rw[XM.mpr λr a=>Vz (Cg a).2]
theorem Rn:zK f ns maps c=lay f (bZ f ns) ((dw f ns maps c).filter λr=>decide (r.name∈dY f (bZ f ns))):=rfl
theorem OB(h:(maps.map Row.name).Nodup)(b:ns.Nodup):gH [Rb f ns maps c,Rc f ns maps c]=.ok (lay f ns (dw f ns maps c)):=by
 injections ns maps c f;have e:=Cf (f:=f) (xs:=ns.take c) (ys:=ns.drop c) (A:=maps.filter λr=>decide (r.name∈jD f ns c)) (B:=maps.filter λr=>decide (r.name∈oD f ns c)) (by rw[aa5];rwa[b]) (gI h) (gI h) λr a s d q=>xX h (V8.mp a).1 (V8.mp d).1 q;simp![aa5,X3]at e;erw[e.trans ?_];congr 3;erw[Yd λr a=>?_];rw[Bool.and_comm];congr 2;rw[V1];constructor; ·rwa[λq=>x_12 (VI.mp q) λs d q=>(q)▸VF (V8.mp d).2]
 ·rwa[λq=>VI.mpr (m_12 r (V8.mpr ⟨a,Vz q⟩) rfl)]
theorem LG{c:List (Nm×Nat)}(h:∀x∈xs,f x≠[])(e:(lay f xs J).syms=c++p::w):lR c (lay f xs J).count p.2=false:=by
 injections w c _ xs J f p;have g:p∈a0 f 0 xs:=by show p∈(lay f xs J).syms;rwa[(e)▸Wj _ (Vv ..)]
 have i:p.1∈xs:=(cL (f:=f) (ns:=xs) (s:=0))▸VI.mpr (m_12 p g rfl)
 have d:=(zP p g).2.2 (h _ i);simp![Wg]at d;delta lR EP;simp![iM,VO (XR d),Fc λq=>VO (XR (Fb (e▸Oz h:(c++p::w).Pairwise λa b=>a.2<b.2) q))];clear d;clear h;clear g;cases c with|cons a l=>rfl|nil=>cases xs with|nil=>rwa[k_mn i]|cons x l=>injection e with j;erw[j▸?_];rfl
theorem LH{p:Nat×Nm×Nm}(e:(lay f xs J).rels=pre++p::post):lS pre (lay f xs J).count p.1=false:=by have c:=(sI ((e)▸Wj _ (Vv ..))).2;rw[Wg]at c;have d:(pre++p::post).Pairwise λa b=>a.1<b.1:=e▸OA (a:=xs.flatMap f) (s:=0);delta lS ER;simp![iM,VO (XR c),Fc λq=>VO (XR (Fb d q))];rfl
structure Good(f:Nm->List Item)(xs:List Nm)(J:List Row):Prop where
 lay:Lay f xs J
 nm:∀x∈xs,dk x=true
 nd:xs.Nodup
 jn:(J.map Row.name).Nodup
 row:∀r∈J,DS r
theorem Good.rel(h:Good f xs J):∀p∈(RG.Internal.lay f xs J).rels,DU p:=λp i=>by have j:=(sI (s:=0) (a:=xs.flatMap f) i).2;have o:=(g0 (a:=xs.flatMap f)).2;have l:=h.lay.len;erw[x_12 (Wh.mp i) λc m e=>?_];obtain⟨s,n⟩:=c;erw[x_12 (Xc.mp (mz m)) λx k m=>?_];have g:=(h.lay.its x k).2.2 n m;erw[⟨mM j o (Vt 2 l),?_⟩];clear m;clear m;cases n with|mp d x=>injection e with b;rwa[(b)▸⟨Vv ..,g.2⟩]|cl x=>injection e with b;rwa[(b)▸⟨VB _ (Vv ..),g⟩]|_=>rwa[k_nn e]
theorem Good.sym(h:Good f xs J):∀p∈(RG.Internal.lay f xs J).syms,DT p:=λp a=>⟨h.nm _ ((cL (f:=f) (ns:=xs) (s:=0))▸VI.mpr (m_12 p a rfl)),Wv (h.lay.at' p a) #v[]⟩
theorem Good.ok(h:Good f xs J):(RG.Internal.lay f xs J).Ok:=by have s:=h.lay.small;rwa[⟨lb s.maps,lb s.oct,lb s.syms,lb s.rels,λr b=>m_03 (B5 (h.row r b).1) (B5 (h.row r b).2.1) (h.row r b).2.2,λp a=>⟨B5 (h.sym p a).1,(h.sym p a).2⟩,λp a=>m_03 (h.rel p a).1 (Tc (h.rel p a).2.1) (B5 (h.rel p a).2.2)⟩]
theorem Good.lines(h:Good f xs J):(RG.Internal.lay f xs J).lines.length<=87:=by have s:=h.lay.small;have a:=s.maps;have e:=s.syms;have c:=s.rels;have b:=s.oct;have d:(RG.Internal.lay f xs J).count<=50:=ab4 b;rw[mu];rwa[D4 a e c d]
theorem Good.canon(h:Good f xs J):(RG.Internal.lay f xs J).Canon:=by
 erw[⟨λd r c e=>?_,(mK)▸Pa,(mK)▸E8,λd p c e=>?_,λd p c e=>?_,Wv h.lines #v[]⟩]; ·have e:J=d++r::c:=e;have a:=h.jn;rw[e,VE]at a;rwa[⟨h.row r ((e)▸Wj _ (Vv ..)),λq=>(XG.mp a).2.2 _ q _ (Vv ..) rfl⟩]
 ·have a:=h.nd;rw[<-cL (f:=f) (ns:=xs) (s:=0),show a0 f 0 xs=d++p::c from e,VE]at a;rwa[m_03 (h.sym p ((e)▸Wj _ (Vv ..))) (λq=>(XG.mp a).2.2 _ q _ (Vv ..) rfl) (LG (λx b=>(h.lay.its x b).1) e)]
 ·rwa[⟨h.rel p ((e)▸Wj _ (Vv ..)),LH e⟩]
theorem Good.text(h:Good f xs J):(RG.Internal.lay f xs J).text.length<=80000:=by
 have b:=h.ok;have c:=h.lines;delta Ob.text;rw[al,U4];erw[lb (ab2 (vc (B:=100) (n:=8888) (λs d=>?_) ?_) 1)]
 ·rcases VJ.mp d with a|a; ·rwa[BJ b s a]
  ·rw[Vy.mp a];rwa[zp (SN (jO b)) jN]
 ·rw[al];show((RG.Internal.lay f xs J).lines.length+1)*101<=_;rwa[a_1 (Vt 101 c)]
theorem LI(h:World f ns maps):zI f ns maps:=by erw[kT (Wi h.ne) λx l a=>?_];subst a;have s:l7 (lX f [x] maps (dY f [x])):=rj (Vw (ri (f:=f) (xs:=[x]) λy b=>(Vy.mp b)▸(h.its x (Vv ..)).2.1) (show 5*1<=25 by decide)) (show 1<=5 by decide) (Vw (VP ..) (lb h.ml));rwa[⟨lb h.ml,s.fit,lb s.size,Hc,Oy h.mnd λr c s d e=>xX h.mnd c d e,Hd h.mnd⟩]
theorem Ro:DQ:=λf C B h c z o=>by
 have k:(dw f C B c).length<=6:=by delta dw;rw[al];have s:=VP (λr:Row=>decide (r.name∈jD f C c)) B;have D:=VP (λr:Row=>decide (r.name∈oD f C c)&&!decide (r.name∈jD f C c)) B;have y:=h.ml;rwa[D4 D y s y]
 have i:=DZ (f:=f) (J:=dw f C B c) h.ne;have j:∀{x},x∈bZ f C↔x∈C/\Reach (lay f C (dw f C B c)) x:=λ{x}=>by simp![i,V8,kl]
 have t:Lay f C (dw f C B c):=h.lay k;have a:∀x∈bZ f C,x∈C:=λx b=>(j.mp b).1;have d:(bZ f C).length<=C.length:=(i)▸VP .. 
 have g:Good f (bZ f C) ((dw f C B c).filter λr=>decide (r.name∈dY f (bZ f C))):=⟨⟨by erw[kT (Wi h.ne) λx l m=>?_];clear o;subst m;rwa[List.ne_nil_of_mem (j.mpr ⟨Vv ..,λQ q Y=>q (x,0) (lay_head.mpr ⟨rfl,rfl⟩)⟩)],Vw d h.nl,λx b=>h.its x (a x b),Vw (VP ..) k⟩,λx b=>h.nm x (a x b),by rw[i];rwa[h.nd.sublist List.filter_sublist],gI (vG h.mnd),λr A=>by have:=h.row r (Cg (V8.mp A).1).1;rwa[Cn this.1 this.2.1 (Xq this.2.2.1 #v[]) (Xq this.2.2.2.1 #v[]) (Xq this.2.2.2.2 #v[])]⟩;have e:∀{E:List Nm}{p:Row->Bool},E.Sublist C->l7 (lay f E (B.filter p)):=λn=>rj (Vw (ri λx b=>(h.its x (n.subset b)).2.1) (by have:=n.length_le;have:=h.nl;lia)) (Vw n.length_le h.nl) (Vw (VP ..) (lb h.ml));have u:l7 (Rb f C B c):=e (an9 ..);have w:l7 (Rc f C B c):=e (List.drop_sublist ..);erw[⟨t.few,h.nd,lb h.ml,h.mnd,u.fit,w.fit,?_,(D3)▸OB h.mnd h.nd,(D3)▸t.due,g.lay.due,?_,vG h.mnd,?_,a,d,g.nd,g.jn,?_,(by rw[xW,filter_all λx b=>Ha i b,X3];simp![Bool.and_self]:my (lay f (bZ f C) ((dw f C B c).filter λr=>decide (r.name∈dY f (bZ f C))))=lay f (bZ f C) ((dw f C B c).filter λr=>decide (r.name∈dY f (bZ f C)))),h.nm,g.ok,?_,DY g.canon,?_,g.text,LI h⟩]; ·have s:=u.size;have D:=w.size;show _+(_+0)<=_;rwa[a_2 D s]
 ·simp![i];congr 1;rwa[cL]
 ·rwa[(Ce)▸WF.mpr h.ne]
 ·rw[D3,xW,<-i];rfl
 ·simp![Rn,zO,iM]
 ·rwa[λq=>absurd (Xr.mp q).2 (λq=>k_cn q)]
theorem OC{l:List Int}(a:l.length<=1000000):∃σ',C (k+7) `law [.d (.list (l.map .int))] []=.ok (.d (.bool true)) σ':=Le DV Ro a
end
theorem law_is:UV:=λb h=>by
 obtain⟨a,e⟩:=OC (k:=0) (l:=b) (Vw h #v[]);erw[⟨7,ax,a,by decide,?_,?_⟩]; ·kernel_rfl
 ·rw[<-e];rwa[(Wd (Wd (Ux (k:=7) (x:=`law) ∅ ∅) _) _).symm]
end
end RG.Internal
end
theorem PySem.Challenge.cw_np0319_01_holds : PySem.Challenge.rw_np0319_01.Holds :=
 RG.Internal.holds RG.Internal.law_is
