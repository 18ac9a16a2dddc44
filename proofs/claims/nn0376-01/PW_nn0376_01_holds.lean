import PyProof.Rows.All
import Wide.All
import OpenK.AllK
import Wide.FinOn
import KE.KSliceW
import KE.KSortTup
import ObjForm.Fk.InstStore
import KE.KLam
import Lean
import PySem.Challenge.RW_nn0376_01
open Bool renaming true->Y,false->Ab,not_eq_true'->EJ,false_ne_true->H3,and_false->Pk,eq_false_iff->QA,and_eq_true->Rm,not_eq_false'->WI,false_eq_true->X0,not_true->ZY,and_true->jO,not_eq_true->km,or_eq_true->kD,and_eq_true_iff->sx,false_and->tj,or_true->tq,or_eq_true_iff->Aiy,eq_iff_iff->AiA,not_false->Aje
open Option renaming some->U,none->Ai,map->Lo,isNone_iff_eq_none->Wi,none->Wl,bind_some->WG,isSome_iff_exists->Vc,isSome_map->j2,bind_map->sM,getD->tm,elim->tB,map_eq_some_iff->Aiz,bind_eq_some_iff->AiC,map_eq_none_iff->AiO,isSome->Ajs,isSome_none->AjZ,isSome_some->AjY
open List renaming length->J,length_map->Bq,length_append->BD,mem_append_right->BH,range->Cg,range'->Cn,append_nil->Ct,mem_append_left->CL,not_mem_nil->CR,replicate->CV,getD_eq_getElem?_getD->CO,append_assoc->Dr,getElem?_eq_getElem->Dv,map_append->Ee,map_id->EW,length_zipIdx->Fb,map_map->Fy,map_congr_left->FI,length_cons->Gb,getElem?_map->Gw,length_range->Gy,mem_of_getElem?->GK,map->Hs,map_cons->HI,nodup_nil->HL,length_range'->H6,mem_singleton->Io,size_toArray->LX,filter_append->LZ,mem_append->Mj,length_set->Mk,length_replicate->MJ,length_singleton->Pl,getElem_of_mem->Pn,mem_map_of_mem->Po,countP->Pp,filter_eq_nil_iff->Pq,getElem?_append_right->Qz,getElem?_append_left->Ri,all_eq_true->Rl,filter_cons_of_pos->Rn,length_filter_le->Ro,foldl_cons->Rp,mem_filter->SD,getElem?_set_ne->SN,lookup_cons_self->SQ,getElem?_of_mem->SS,getElem_mem->SW,filter_cons_of_neg->SY,filter->SU,foldl_append->SV,filter_congr->SO,mem_filterMap->Wh,getElem?_toArray->Wm,getElem?_eq_none->Ws,cons_ne_nil->Wy,length_take->WA,drop_eq_getElem_cons->WB,getElem_map->WC,countP_cons->WD,mem_range'_1->XK,map_set->XO,length_reverse->X1,take_of_length_le->X3,length_drop->X4,range_eq_range'->X7,mem_cons->ZR,mem_map->ZS,pairwise_singleton->ZT,nil_sublist->ZO,nodup_range->Z0,ext_getElem->Z2,getElem_range->Z3,mem_cons_self->Z4,contains_cons->Z6,filter_eq_self->Z8,count_append->Yb,mem_flatMap->Yc,snd_lt_of_mem_zipIdx->Yd,contains_iff_mem->Ye,append_ne_nil_of_right_ne_nil->Yg,mem_replicate->Vo,drop_of_length_le->Vt,pairwise_cons->Vy,take_add_one->Vz,take_length->VA,range_succ->VB,flatMap_cons->VD,count_nil->VF,forall_mem_cons->jU,mem_range->jV,sublist_append_right->jJ,find?_cons_of_neg->j1,getElem?_set_self->ke,getElem?_replicate->ki,reverse_cons->kn,drop_zero->kr,range'_succ->ks,take_append_drop->ky,getElem?_zipIdx->kz,fst_mem_of_mem_zipIdx->kA,countP_cons_of_pos->kF,getD->kG,perm_ext_iff_of_nodup->kH,nil_append->kL,prefix_refl->kM,find?_cons_of_pos->sL,zip_cons_cons->s6,forIn_cons->s7,drop_length->tg,toArray->th,getElem_inj->tl,flatMap_append->tE,getElem?_range->tF,count_le_length->tG,replicate_zero->tH,countP_le_length->tM,nodup_range'->tN,zipIdx_map_fst->tP,drop_append->tR,mem_of_mem_take->tS,map_id'->tT,isEmpty_iff->tK,nodup_append->Aix,nodup_cons->AiB,mk_mem_zipIdx_iff_getElem?->AiD,sublist_append_left->AiH,sublist_nil->AiI,set_eq_of_length_le->AiQ,append_eq_nil_iff->AiR,getElem?_range'->AiS,lookup_cons->AiW,of_mem_zip->AiX,getElem?_inj->AiK,push_toArray->AiY,any_eq_true->Ai3,map_reverse->Ai5,getElem_toArray->Ai8,replicate_succ->Ajc,flatten_cons->Ajd,mapM_toArray->Ajm,instDecidableMemOfLawfulBEq->Ajr,idxOf_cons->Ajx,length_eq_zero_iff->Ajy,length_nil->AjA,count_singleton->AjF,zipIdx_cons->AjG,getElem?_set->AjH,countP_eq_zero->AjI,count_cons_self->AjL,take_append_of_le_length->AjM,map_const'->AjN,countP_cons_of_neg->AjS,sum_append->AjW,length_pos_of_mem->AjK,map_eq_nil_iff->AjV,cons_append->AjO,mem_of_mem_drop->Aj1,singleton_append->Aj2,range'_append->Aj3,take_left->Aj4,filter_map->Aj5,getElem?_take->Aj7,range'_append_1->Aj8,idxOf_append->Aj9,idxOf_lt_length_of_mem->Aka,range'_eq_map_range->Akb
open PySem renaming Addr->As,Value->Aw,wpAny_bind->AL,Shared->AM,Expr->A2,wpAny->Ba,wpAny_pure->Bn,Heap->BX,model->BK,wpAny_mono->CW,Stmt->C8,Scope->Dz,execs->DJ,eval->D4,mainGlobals->Ed,Around->EI,World->FH,Program->Gu,exec->Gx,codeAny->G9,sizeLine->H5,builtinsNs->Ip,call->Iq,rawInt->It,cLine->IJ,compareOp->I0,wpAny_holding->Lp,DictEntry->LS,binaryOp->LW,sysModules->MZ,wpAny_call_entry->MY,wpAny_newObj_type->Ny,wpAny_execs_cons->Nz,pyIter->Pg,wpAny_of_eq->Ph,wpAny_field->Pj,Model->Qq,starEach->Qr,sizeLine_eq->Qt,Result->Qv,PyData->Rc,NameKind->Rh,wpAny_standAt->Rj,wpAny_truthy_bool->SE,excClassObj->SF,backTo->SG,bootBuiltins->SI,wpAny_rule->SP,wpAny_Name->Wj,wpAny_callSpecial?_slot->Wo,wpAny_call->Ww,ClassData->WE,FuncData->XZ,standAt->XY,wpAny_dictEntries->XU,wpAny_setField->XJ,wpAny_loadPart_at->X6,firstArgMember->ZK,wpAny_execs_nil->ZZ,recursionLimit->U8,wpAny_Constant_none->Va,wpAny_dictEpoch->Ve,wpAny_attempt->Vf,wpAny_isInstance->Vg,storeName->Vh,wpAny_Assign_Name->Vi,wpAny_Return_some->Vj,typeLookup_type->Vk,builtinLookup_eq_fast->Vl,isSubtype_type->Vm,leaving->Vn,Comprehension->Vp,setItem->Vq,Keyword->Vr,wpAny_Constant_str->j0,wpAny_getItem_list->j4,wpAny_typeNameOfWhole_keyiter->j9,wpAny_typeNameOf_keyiter->ka,wpAny_raiseNew_none->kc,checkBuiltinCall->kg,codeAny_mono->ko,wpAny_typeOf->kq,wpAny_isSubtype_exc->kv,importedModules->sy,wpAny_eqBool_int->sD,wpAny_loadName_local->sE,wpAny_BinOp->sF,behindInMarks->sG,wpAny_Compare1->sH,slot_list_getitem->sN,wpAny_notOrdered_dict->sP,letOwnedTupleGo->sS,wpAny_pyIter_tuple->sT,codeAny_of_tree->sW,plainId_quiet->sX,codeAny_builtin->sZ,wpAny_specialOf->sY,wpAny_seqItems->sJ,wpAny_loadPart'->sO,Call_method1->s9,wpAny_loadPart->tb,swapsWithSole->td,keywordEach->te,constantsAlone->tD,wpAny_isTrue_Compare1->AiL,wpAny_isOneOf_keyiter->AiP,wpAny_list_append_plain->AiZ,wpAny_newFunctionEnv->AiU,wpAny_comprehension_free->AiV,wpAny_Assign_Subscript->Ai1,plainObj_wpAny_Assign_Attribute->Ai4,wpAny_richCompare_same_room->Ajf,codeAny_call_builtin->Ajp
open Option.some renaming inj->BQ
open Nat renaming le_of_lt->BY,lt_of_lt_of_le->Cw,le_add_right->CD,le_refl->CE,zero_le->C9,le_of_eq->Di,add_le_add_left->Du,lt_of_le_of_lt->DG,lt_trans->DQ,add_assoc->El,le_succ->Ex,add_le_add->EL,lt_succ_self->EM,ne_of_lt->EX,zero_add->EV,add_comm->FO,succ_pos->F0,succ_le_succ->GX,add_le_add_right->G8,ne_of_gt->Ha,add_right_comm->Hb,mul_le_mul_left->Hd,lt_irrefl->Hq,lt_succ_of_le->Iu,le_add_left->Iv,lt_succ_of_lt->I1,not_lt_zero->I2,add_lt_add_left->Lq,mul_le_mul_right->Lr,le_succ_of_le->Ml,le_of_lt_succ->Mm,le_of_not_lt->Mn,lt_of_succ_lt_succ->MU,add_sub_cancel'->MV,lt_of_not_le->NA,lt_add_of_pos_right->Pm,beq->Qs,le_antisymm->Qy,sub_le->QC,sub_lt_sub_left->Rg,lt_of_le_of_ne->SX,le_of_succ_le->SK,add_sub_cancel_left->SJ,succ_ne_self->Wu,mul_succ->Wv,succ_lt_succ->Wx,min_eq_left->Wz,sub_self->WH,succ_mul->WL,not_le->X5,zero_testBit->X8,le_trans->Ka,add_lt_add_right->Z1,le_of_succ_le_succ->Z7,pow_le_pow_right->Z9,min_le_right->Vb,div_eq_of_lt->Vs,lt_of_lt_of_eq->Vu,two_pow_pos->VC,add_zero->VE,add_right_cancel->VG,one_mul->kf,sub_lt_left_of_lt_add->kj,add_sub_cancel->kk,succ_ne_zero->kl,le_total->kp,lt_one_iff->kx,lt_succ_iff_lt_or_eq->kB,sub_pos_of_lt->kC,or_lt_two_pow->kE,min_le_left->sI,sub_add_cancel->s8,lt_of_succ_lt->ta,min_eq_right->tf,mul_le_mul->ti,succ_add->tn,le_max_left->tv,le_max_right->tw,shiftRight_eq_div_pow->tC,add_eq_zero_iff->tI,le_mul_of_pos_left->tQ,sub_zero->tW,add_sub_of_le->tX,sub_one_sub_lt_of_lt->AiT,pos_of_ne_zero->AiJ,le_mul_of_pos_right->Ai9,sub_eq_zero_of_le->Aja,sub_le_sub_left->Ajb,lt_or_eq_of_le->Ajg,succ_sub_succ->Ajj,lt_of_not_ge->Ajk,succ_lt_succ_iff->Ajl,lt_or_gt_of_ne->Ajn,add_left_cancel->Ajz,mod_two_eq_zero_or_one->AjD,testBit_lt_two_pow->AjE,le_of_sub_eq_zero->AjP,testBit_two_pow->AjQ,one_shiftLeft->AjR,succ_le_of_lt->AjT,add_add_add_comm->AjX,mod_eq_of_lt->AjU,le_sub_of_add_le->Aj0,not_succ_le_zero->Aj6
open Eq renaming trans->D8
open PySem.Heap renaming get?_push_of_some->D9,get?_push_size->Fn,lt_size->Gv,get?_update_self->SM,size_push->X2,get?_none_of_le->ZU,get?_update_ne->Vx,get?_push_ne->ku,size_update->tp,get?_push_at->Ajo
open PySem.W renaming Frag->Gd,findIn->H4,keepIn->Pe,tabObj->Qp,kms_lo->QB,hideAll->QD,SharedT->Wf,dictOf->Wn,callWith_K->ZV,looks_clsIn->tc,hideAll_none->tr,hideAll_get->ts
open List.cons renaming inj->Ge
open Int renaming ofNat->Hc,natCast_nonneg->Hr,ofNat_lt->Nx,ofNat_le->Qw,not_lt->Rf,toNat_natCast->Wq,lt_of_le_of_lt->ZX,ofNat_inj->Vv,le_trans->j5,toNat->kh,ofNat_sub->sU,sub_sub->sV,toNat_of_nonneg->AiN,eq_ofNat_of_zero_le->Ai0,fdiv_eq_ediv_of_nonneg->Ajt,natCast_pow->Aju,natCast_ediv->Ajv,natCast_mul->Ajw,natCast_ne_zero->AjB
open PyProof.Rows renaming IsTup->HH,seqObj->H7,spliced_more->Rd,tail_any->SH,spliced_none->Wk,subscriptTail->Vd,keyKind'->Vw,Subscript_->j3,assignInOrder_cons->sQ,assign_Tuple_tuple->sR
open PySem.Value renaming ref->Ir,none->Pf,isStrOf_shape->sA,int->sC,isInt_shape->AiG
open Prod renaming ext->LK,snd->Qu,fst->SR,ext_iff->tx
open PySem.Str renaming ofString->Qo
open Nat.succ renaming inj->Qx
open And renaming right->Rk,intro->ZJ,left->Z5
open Iff renaming rfl->Wg,trans->tA
open Array renaming getElem?_eq_getElem->Wr,length_toList->Wt,getElem?_eq_none->kb,getElem?_toList->kd,toList_inj->sz,replicate->tu,toList_append->AiE,empty_append->AiF,mem_toList_iff->AiM,any_toList->Ai2,not_mem_empty->Ai6,getD_eq_getD_getElem?->Ajh,perm_iff_toList_perm->Aji,size_replicate->Ajq
open Classical renaming byCases->X9,ofNonempty->U9,propDecidable->kI,byContradiction->sv,epsilon->Aiv,epsilon_spec->Aiw,axiomOfChoice->AjJ
open PySem.Calls renaming Name_function_global->ZW,callWith_builtin->j6,evalArgs_plain->j7,loadGlobal_global->j8
open PySem.Value.ref renaming inj->Ai7
open Decidable renaming em->AjC
set_option Elab.async false
set_option linter.all false
set_option genSizeOf false
set_option genInjectivity false
set_option compiler.extract_closed false
set_option compiler.reuse false
set_option bootstrap.genMatcherCode false
namespace Mine.Internal
section
open Lean
def a?:String→Syntax:=.atom .none
def n?(k:Name)(x:List Syntax):Syntax:=.node .none k ⟨x⟩
def l?:=n? `null
def t?(s:String):=n? (.str `Lean.Parser.Tactic s)
def e?(s:String):=n? (.str `Lean.Parser.Term s)
def q?(x:List Syntax):=t? "tacticSeq" [t? "tacticSeq1Indented" [l? (x.intersperse (a? ";"))]]
def b?(x:Syntax):=e? "byTactic" [a? "by",q? [x]]
def i?(f:Syntax)(x:List Syntax):=e? "app" [f,l? x]
def c?(f:Name):=i? (mkIdent f)
def h?:=e? "hole" [a? "_"]
def g?:=e? "syntheticHole" [a? "?",a? "_"]
def r?(x:Syntax):=t? "refine" [a? "refine",x]
def p?(x:List Syntax):=t? "paren" [a? "(",q? x,a? ")"]
def f?(x:List Syntax):=t? "first" [a? "first",l? (x.map fun y=>n? `group [a? "|",q? [y]])]
def v?(x:List Syntax):=t? "revert" [a? "revert",l? x]
def z?(p x:Syntax):=t? "generalize" [a? "generalize",l? [t? "generalizeArg" [l? [],p,a? "=",x]],l? []]
def y?(p:Syntax)(x:List Syntax):=
 let r:=x.dropLast.foldl (fun r y=>(c? ``Prod.snd [r.1],r.2++[z? (c? ``Prod.fst [r.1]) y])) (p,[])
 r.2++[z? r.1 (x.getLastD p)]
def x?(x:List Syntax):=
 let s:=x.foldl (fun s x=>
  if x.isIdent then (s.1++[x],s.2) else
  let k:=toString s.1.length
  ([],v? s.1::s.2.1,s.2.2++r? (e? "noImplicitLambda" [a? "no_implicit_lambda%",c? (.str `Mine.Internal ("gn"++k)) [g?]])::y? (c? (.str `Mine.Internal ("Epn"++k)) [h?,h?]) s.1)) ([],[],[])
 if s.1.isEmpty then s.2.1++s.2.2 else v? s.1::s.2.1++s.2.2++[t? "intro" [a? "intro",l? s.1]]
def w?(s:Syntax):=
 let m:=c? (if s[0].getNumArgs==0 then `Mine.Internal.rwr else `Mine.Internal.rwl)
 f? [r? (m [s[1],g?]),r? (m [i? s[1] [h?],g?]),r? (m [i? s[1] [h?,h?],g?]),t? "rewriteSeq" [a? "rewrite",t? "optConfig" [l? []],t? "rwRuleSeq" [a? "[",l? [s],a? "]"],l? []]]
def u?:MacroM Syntax:=Macro.throwUnsupported
def j?(s:Syntax):MacroM Syntax:=
 if s.getPos?.isNone then u? else
 let s:=s.rewriteBottomUp (·.setInfo .none)
 let d:=s[1]
 let k:=d.isOfKind ``Parser.Command.definition
 if !k&& !d.isOfKind ``Parser.Command.abbrev||s[0].getArgs.any (·.getNumArgs != 0) then return s else
 if k&&d[1][0].getId.getString!.front.isLower then return s.setArg 1 (n? ``Parser.Command.theorem [a? "theorem",d[1],n? ``Parser.Command.declSig [d[2][0],d[2][1][0]],d[3]]) else
 return s.modifyArg 0 (·.setArg 4 (l? [n? ``Parser.Command.noncomputable [a? "noncomputable"]]))
def mAr:=q? [t? "tacticRfl" [a? "rfl"]]
def k?(s:Syntax):=if s[3].getNumArgs==0 then return p? (s[2][1].getSepArgs.toList.map w?++[t? "tacticTry_" [a? "try",q? [t? "withReducible" [a? "with_reducible",mAr]]]]) else u?
def d?:=t? "decide" [a? "decide",t? "optConfig" [l? []]]
def mAd:=q? [d?]
def o?(n:Name):=t? "exact" [a? "exact",c? n [c? `Eq.refl [mkIdent `true]]]
end
local macro_rules (kind:=Lean.Parser.Tactic.show)|s=>return r? (e? "typeAscription" [e? "hygienicLParen" [a? "(",n? `hygieneInfo [Lean.mkIdent .anonymous]],g?,a? ":",l? [s[1]],a? ")"])
local macro_rules (kind:=Lean.Parser.Tactic.rwSeq)|s=>k? s
local macro_rules (kind:=Lean.Parser.Tactic.clear)|s=>if s[1].getArgs.all (·.isIdent) then u? else return p? (x? s[1].getArgs.toList)
local macro_rules (kind:=Lean.Parser.Tactic.delta)|s=>return t? "tactic_<;>_" [t? "injection" [a? "injection",s[1][0],l? []],a? "<;>",t? "substVars" [a? "subst_vars"]]
local macro_rules (kind:=Lean.Parser.Tactic.cases)|s=>if s[3].getNumArgs != 0&&s[1][0][1].isIdent then return t? "induction" [a? "induction",s[1],s[2],l? [],s[3]] else u?
local macro_rules (kind:=Lean.calcTactic)|s=>return r? s[1][0][0]
local macro_rules (kind:=Lean.Parser.Term.sort)|s=>if s[1].getNumArgs==0 then return b? (n? `tacticKernel_rfl [a? "kernel_rfl"]) else u?
local macro_rules (kind:=Lean.Parser.Term.arrow)|s=>return e? "forall" [a? "∀",l? [Lean.mkIdent `Z],l? [e? "typeSpec" [a? ":",s[0]]],a? ",",s[2]]
local macro_rules (kind:=coeNotation)|s=>return c? `List [s[1]]
local macro_rules (kind:=«term-_»)|s=>return c? `List [s[1]]
local macro_rules (kind:=coeFunNotation)|s=>return c? `Mine.Internal.tL [s[1]]
local macro_rules (kind:=coeSortNotation)|s=>return c? `Option [s[1]]
local macro_rules (kind:=«term{_}»)|s=>return e? "anonymousCtor" [a? "⟨",s[1],a? "⟩"]
local macro_rules (kind:=«term∅»)|s=>return let _:=s;b? (f? [o? ``Nat.le_of_ble_eq_true,o? ``of_decide_eq_true,d?])
local macro_rules (kind:=«term_^_»)|s=>if s[0].isNatLit?.isSome then u? else return c? ``Eq.trans [s[0],s[2]]
local macro_rules (kind:=«term_\_»)|s=>return c? ``Nat.le_trans [s[0],s[2]]
local macro_rules (kind:=«term_∣_»)|s=>return c? `Mine.Internal.rwl [s[0],s[2]]
local macro_rules (kind:=«term_⊂_»)|s=>return c? `Mine.Internal.rwr [s[0],s[2]]
local macro_rules (kind:=Bool.«term_^^_»)|s=>return c? `Mine.Internal.Bk.at [s[0],c? `Mine.Internal.AS [s[2]]]
local macro_rules (kind:=Lean.Parser.Command.declaration)|s=>j? s
universe u v w
section
variable{α:Sort u}{b:α->Sort v}{A B C D:α->Prop}{G:Prop}
def ak(h:∃a,A a)(k:∀a,A a->G):G:=Exists.elim h k
def ae(h:∃a,A a/\B a)(k:∀a,A a->B a->G):G:=Exists.elim h λa x=>k a x.1 x.2
def aE(h:∃a,A a/\B a/\C a)(k:∀a,A a->B a->C a->G):G:=Exists.elim h λa x=>k a x.1 x.2.1 x.2.2
def a6(h:∃a,A a/\B a/\C a/\D a)(k:∀a,A a->B a->C a->D a->G):G:=Exists.elim h λa x=>k a x.1 x.2.1 x.2.2.1 x.2.2.2
end
section
variable{α:Sort u}{c:Sort v}{A B C D:α->c->Prop}{G:Prop}
def a4(h:∃a b,A a b)(k:∀a b,A a b->G):G:=Exists.elim h λa h=>Exists.elim h (k a)
def bP(h:∃a b,A a b/\B a b)(k:∀a b,A a b->B a b->G):G:=a4 h λa b x=>k a b x.1 x.2
def a8(h:∃a b,A a b/\B a b/\C a b)(k:∀a b,A a b->B a b->C a b->G):G:=a4 h λa b x=>k a b x.1 x.2.1 x.2.2
def dg(h:∃a b,A a b/\B a b/\C a b/\D a b)(k:∀a b,A a b->B a b->C a b->D a b->G):G:=a4 h λa b x=>k a b x.1 x.2.1 x.2.2.1 x.2.2.2
end
section
variable{α:Sort u}{d:Sort v}{Af:Sort w}{A B C:α->d->Af->Prop}{G:Prop}
def bI(h:∃a b c,A a b c)(k:∀a b c,A a b c->G):G:=a4 h λa b h=>Exists.elim h (k a b)
def cB(h:∃a b c,A a b c/\B a b c)(k:∀a b c,A a b c->B a b c->G):G:=bI h λa b c x=>k a b c x.1 x.2
def dV(h:∃a b c,A a b c/\B a b c/\C a b c)(k:∀a b c,A a b c->B a b c->C a b c->G):G:=bI h λa b c x=>k a b c x.1 x.2.1 x.2.2
end
section
variable{A B C D G:Prop}
def aC(h:A/\B)(k:A->B->G):G:=k h.1 h.2
def cT(h:A/\B/\C)(k:A->B->C->G):G:=k h.1 h.2.1 h.2.2
def eH(h:A/\B/\C/\D)(k:A->B->C->D->G):G:=k h.1 h.2.1 h.2.2.1 h.2.2.2
end
section
variable{α:Sort u}{a b:α}{motive:α->Prop}
@[elab_as_elim] theorem rwr(h:a=b)(e:motive b):motive a:=h▸e
@[elab_as_elim] theorem rwl(h:b=a)(e:motive b):motive a:=h▸e
end
section
universe Ls NB tZ VH VI tY tU u8 tV tJ
variable{A:Type Ls}{B:Type NB}{C:Type tZ}{D:Type VH}{E:Type VI}{F:Type tY}{G:Type tU}{H:Type u8}{I:Type tV}{AV:Type tJ}
def Epn1(i:Nonempty A)(P:A->Prop):A:=@Aiv _ i λa=>¬P a
def gn1[i:Nonempty A]{P:A->Prop}(h:P (Epn1 i P))(a:A):P a:=sv λn=>absurd h (@Aiw _ (λa=>¬P a) ⟨a,n⟩)
def Epn2(i:Nonempty (A×B))(P:A->B->Prop):A×B:=Epn1 i λx=>P x.1 x.2
def gn2[i:Nonempty (A×B)]{P:A->B->Prop}(h:P (Epn2 i P).1 (Epn2 i P).2) a b:P a b:=gn1 (P:=λ(x:A×B)=>P x.1 x.2) h (a,b)
def Epn3(i:Nonempty (A×B×C))(P:A->B->C->Prop):A×B×C:=Epn2 i λa x=>P a x.1 x.2
def gn3[i:Nonempty (A×B×C)]{P:A->B->C->Prop}(h:P (Epn3 i P).1 (Epn3 i P).2.1 (Epn3 i P).2.2) a b c:P a b c:=gn2 (P:=λa (x:B×C)=>P a x.1 x.2) h a (b,c)
def Epn4(i:Nonempty (A×B×C×D))(P:A->B->C->D->Prop):A×B×C×D:=Epn3 i λa b x=>P a b x.1 x.2
def gn4[i:Nonempty (A×B×C×D)]{P:A->B->C->D->Prop}(h:P (Epn4 i P).1 (Epn4 i P).2.1 (Epn4 i P).2.2.1 (Epn4 i P).2.2.2) a b c d:P a b c d:=gn3 (P:=λa b (x:C×D)=>P a b x.1 x.2) h a b (c,d)
def Epn5(i:Nonempty (A×B×C×D×E))(P:A->B->C->D->E->Prop):A×B×C×D×E:=Epn4 i λa b c x=>P a b c x.1 x.2
def gn5[i:Nonempty (A×B×C×D×E)]{P:A->B->C->D->E->Prop}(h:P (Epn5 i P).1 (Epn5 i P).2.1 (Epn5 i P).2.2.1 (Epn5 i P).2.2.2.1 (Epn5 i P).2.2.2.2) a b c d e:P a b c d e:=gn4 (P:=λa b c (x:D×E)=>P a b c x.1 x.2) h a b c (d,e)
def Epn6(i:Nonempty (A×B×C×D×E×F))(P:A->B->C->D->E->F->Prop):A×B×C×D×E×F:=Epn5 i λa b c d x=>P a b c d x.1 x.2
def gn6[i:Nonempty (A×B×C×D×E×F)]{P:A->B->C->D->E->F->Prop}(h:P (Epn6 i P).1 (Epn6 i P).2.1 (Epn6 i P).2.2.1 (Epn6 i P).2.2.2.1 (Epn6 i P).2.2.2.2.1 (Epn6 i P).2.2.2.2.2) a b c d e f:P a b c d e f:=gn5 (P:=λa b c d (x:E×F)=>P a b c d x.1 x.2) h a b c d (e,f)
def Epn7(i:Nonempty (A×B×C×D×E×F×G))(P:A->B->C->D->E->F->G->Prop):A×B×C×D×E×F×G:=Epn6 i λa b c d e x=>P a b c d e x.1 x.2
def gn7[i:Nonempty (A×B×C×D×E×F×G)]{P:A->B->C->D->E->F->G->Prop}(h:P (Epn7 i P).1 (Epn7 i P).2.1 (Epn7 i P).2.2.1 (Epn7 i P).2.2.2.1 (Epn7 i P).2.2.2.2.1 (Epn7 i P).2.2.2.2.2.1 (Epn7 i P).2.2.2.2.2.2) a b c d e f g:P a b c d e f g:=gn6 (P:=λa b c d e (x:F×G)=>P a b c d e x.1 x.2) h a b c d e (f,g)
def Epn8(i:Nonempty (A×B×C×D×E×F×G×H))(P:A->B->C->D->E->F->G->H->Prop):A×B×C×D×E×F×G×H:=Epn7 i λa b c d e f x=>P a b c d e f x.1 x.2
def gn8[i:Nonempty (A×B×C×D×E×F×G×H)]{P:A->B->C->D->E->F->G->H->Prop}(h:P (Epn8 i P).1 (Epn8 i P).2.1 (Epn8 i P).2.2.1 (Epn8 i P).2.2.2.1 (Epn8 i P).2.2.2.2.1 (Epn8 i P).2.2.2.2.2.1 (Epn8 i P).2.2.2.2.2.2.1 (Epn8 i P).2.2.2.2.2.2.2) a b c d e f g k:P a b c d e f g k:=gn7 (P:=λa b c d e f (x:G×H)=>P a b c d e f x.1 x.2) h a b c d e f (g,k)
def Epn9(i:Nonempty (A×B×C×D×E×F×G×H×I))(P:A->B->C->D->E->F->G->H->I->Prop):A×B×C×D×E×F×G×H×I:=Epn8 i λa b c d e f g x=>P a b c d e f g x.1 x.2
def gn9[i:Nonempty (A×B×C×D×E×F×G×H×I)]{P:A->B->C->D->E->F->G->H->I->Prop}(h:P (Epn9 i P).1 (Epn9 i P).2.1 (Epn9 i P).2.2.1 (Epn9 i P).2.2.2.1 (Epn9 i P).2.2.2.2.1 (Epn9 i P).2.2.2.2.2.1 (Epn9 i P).2.2.2.2.2.2.1 (Epn9 i P).2.2.2.2.2.2.2.1 (Epn9 i P).2.2.2.2.2.2.2.2) a b c d e f g k m:P a b c d e f g k m:=gn8 (P:=λa b c d e f g (x:H×I)=>P a b c d e f g x.1 x.2) h a b c d e f g (k,m)
def Epn10(i:Nonempty (A×B×C×D×E×F×G×H×I×AV))(P:A->B->C->D->E->F->G->H->I->AV->Prop):A×B×C×D×E×F×G×H×I×AV:=Epn9 i λa b c d e f g k x=>P a b c d e f g k x.1 x.2
def gn10[i:Nonempty (A×B×C×D×E×F×G×H×I×AV)]{P:A->B->C->D->E->F->G->H->I->AV->Prop}(h:P (Epn10 i P).1 (Epn10 i P).2.1 (Epn10 i P).2.2.1 (Epn10 i P).2.2.2.1 (Epn10 i P).2.2.2.2.1 (Epn10 i P).2.2.2.2.2.1 (Epn10 i P).2.2.2.2.2.2.1 (Epn10 i P).2.2.2.2.2.2.2.1 (Epn10 i P).2.2.2.2.2.2.2.2.1 (Epn10 i P).2.2.2.2.2.2.2.2.2) a b c d e f g k m n:P a b c d e f g k m n:=gn9 (P:=λa b c d e f g k (x:I×AV)=>P a b c d e f g k x.1 x.2) h a b c d e f g k (m,n)
end
section
universe kN
variable{α:Type kN}{a:α}{P:Prop}{R:α->Prop}
def aS(h:a∈([]:List α)):P:=absurd h CR
def az:∀a∈([]:List α),R a:=λZ h=>aS h
def c3:a∈([]:List α)->P:=aS
def br(h:Ab=Y):P:=Bool.noConfusion h
def gj(h:Y=Ab):P:=Bool.noConfusion h
def dJ(h:Ai=U a):P:=by injection h
end
section
universe Ls NB
def ah{α:Sort Ls}{β:Sort NB}{a b:α}(f:α->β)(h:a=b):f a=f b:=congrArg f h
def ar{a:Prop}{P:Prop}(h:a)(n:¬a):P:=absurd h n
section
variable{c:Prop}{h:Decidable c}
def ai{α:Sort Ls}{t e:α}(n:¬c):(ite c t e)=e:=if_neg n
def ao{α:Sort Ls}{t e:α}(n:c):(ite c t e)=t:=if_pos n
end
section
variable{p:Prop}[i:Decidable p]
def aL:decide p=Y->p:=of_decide_eq_true
def aJ:p->decide p=Y:=decide_eq_true
def b2:decide p=Ab->¬p:=of_decide_eq_false
def bB:decide p=Y↔p:=decide_eq_true_iff
end
end
section
universe Ls NB
variable{α:Sort Ls}{c:Sort NB}{P Q:α->c->Prop}
def bu:∀a b,P a b->P a b:=λZ Z z=>z
def bL:∀a b,False->P a b:=λZ Z z=>z.elim
end
section
variable{α:Type u}{d:Type v}{a b:α}{s t:List α}{c:d}{f:α->d}{p:α->Bool}{m n k:Nat}{x y:Bool}{P Q:Prop}{o:Option α}{R:α->Prop}
def aF(h:a∈[b]):a=b:=Io.mp h
def aN(h:a∈s++t):a∈s\/a∈t:=Mj.mp h
def aK(h:a∈b::s):a=b\/a∈s:=ZR.mp h
def cH(h:(s++t).Nodup):s.Nodup/\t.Nodup/\∀a∈s,∀b∈t,a≠b:=Aix.mp h
def dH(h:(s++t).Nodup):s.Nodup:=(cH h).1
def gk(h:(s++t).Nodup):t.Nodup:=(cH h).2.1
def dI(h:(s++t).Nodup):∀a∈s,∀b∈t,a≠b:=(cH h).2.2
def cv(h:s.Nodup/\t.Nodup/\∀a∈s,∀b∈t,a≠b):(s++t).Nodup:=Aix.mpr h
def bz(h:n<=m):¬m<n:=Nat.not_lt.mpr h
def bM(h:¬m<n):n<=m:=Nat.not_lt.mp h
def bQ(h:(x&&y)=Y):x=Y/\y=Y:=sx.mp h
def gm(h:(x&&y)=Y):x=Y:=(bQ h).1
def fe(h:(x&&y)=Y):y=Y:=(bQ h).2
def bc(h:x=Y/\y=Y):(x&&y)=Y:=sx.mpr h
def cW(h:(x||y)=Y):x=Y\/y=Y:=Aiy.mp h
def ej(h:x=Y\/y=Y):(x||y)=Y:=Aiy.mpr h
def bD(h:o.map f=U c):∃a,o=U a/\f a=c:=Aiz.mp h
def hN(h:s[n]?=U a):∃h,s[n]=a:=List.getElem?_eq_some_iff.mp h
def bK(h:s[n]?=U a):n<s.length:=(hN h).1
def b0(h:c∈s.map f):∃a,a∈s/\f a=c:=ZS.mp h
def dM(h:∃a,a∈s/\f a=c):c∈s.map f:=ZS.mpr h
def b9(h:R a/\∀x,x∈s->R x):∀x,x∈a::s->R x:=jU.mpr h
def cn(h:x=Y↔y=Y):x=y:=AiA.mpr h
def dO(h:a∈s.filter p):a∈s/\p a=Y:=SD.mp h
def dt(h:a∈s.filter p):a∈s:=(dO h).1
def kP(h:a∈s.filter p):p a=Y:=(dO h).2
def c4(h:a∈s/\p a=Y):a∈s.filter p:=SD.mpr h
def du(h:(a::s).Nodup):¬a∈s/\s.Nodup:=AiB.mp h
def tO(h:(a::s).Nodup):¬a∈s:=(du h).1
def hP(h:(a::s).Nodup):s.Nodup:=(du h).2
def cw(h:¬a∈s/\s.Nodup):(a::s).Nodup:=AiB.mpr h
def cX{i:Decidable P}{j:Decidable Q}(h:P↔Q):decide P=decide Q:=decide_eq_decide.mpr h
def cU(h:m∈Cg n):m<n:=jV.mp h
def cV(h:m<n):m∈Cg n:=jV.mpr h
def cJ(h:m∈Cn k n):k<=m/\m<k+n:=XK.mp h
def dh{f:α->Option d}(h:o.bind f=U c):∃a,o=U a/\f a=U c:=AiC.mp h
def d0(h:(a,n)∈s.zipIdx):s[n]?=U a:=AiD.mp h
def di(h:s[n]?=U a):(a,n)∈s.zipIdx:=AiD.mpr h
end
inductive Kb(a:Prop):Prop|mk:a->Kb a
inductive Em(a b:Prop):Prop|mk:a->b->Em a b
inductive Dy(a b c:Prop):Prop|mk:a->b->c->Dy a b c
inductive He(a b c d:Prop):Prop|mk:a->b->c->d->He a b c d
inductive Mo(a b c d e:Prop):Prop|mk:a->b->c->d->e->Mo a b c d e
inductive MO(a b c d e f:Prop):Prop|mk:a->b->c->d->e->f->MO a b c d e f
inductive Pr(a b c d e f g:Prop):Prop|mk:a->b->c->d->e->f->g->Pr a b c d e f g
inductive S0(a b c d e f g h:Prop):Prop|mk:a->b->c->d->e->f->g->h->S0 a b c d e f g h
inductive VL(a b c d e f g h i:Prop):Prop|mk:a->b->c->d->e->f->g->h->i->VL a b c d e f g h i
inductive VM(a b c d e f g h i j:Prop):Prop|mk:a->b->c->d->e->f->g->h->i->j->VM a b c d e f g h i j
inductive kQ(a b c d e f g h i j k l:Prop):Prop|mk:a->b->c->d->e->f->g->h->i->j->k->l->kQ a b c d e f g h i j k l
inductive kR(a b c d e f g h i j k l m:Prop):Prop|mk:a->b->c->d->e->f->g->h->i->j->k->l->m->kR a b c d e f g h i j k l m
inductive kS(a b c d e f g h i j k l m n:Prop):Prop|mk:a->b->c->d->e->f->g->h->i->j->k->l->m->n->kS a b c d e f g h i j k l m n
inductive kT(a b c d e f g h i j k l m n o:Prop):Prop|mk:a->b->c->d->e->f->g->h->i->j->k->l->m->n->o->kT a b c d e f g h i j k l m n o
open PySem PySem.W PyProof.Rows PySem.Calls
set_option maxRecDepth 100000
abbrev kW:OpenLaw:=PySem.Challenge.rw_nn0376_01
abbrev Mp:Gu:=kW.row.prog
def t2:(sreFenced Mp.main&&((moduleNames Mp.main.body).isEmpty||lookedIntoSs (moduleNames Mp.main.body) Mp.main.body)&&namesResolve Mp&&Mp.boundNames.all (λn=>!worldNames.contains n))=Y:=Sort
def t4:(["vars","dir","locals"]:-Str).filter (readsOut Mp Mp.main.body)=[]:=Sort
def t5:noRoadLSs {strict:=!(sy Mp.main.body).all cThrough.contains,foot:=Ai,bare:=[]} Mp.main.body=Y:=Sort
def t6:(namesMeet Mp Mp.main.body λZ n=>attrL n)=Y:=Sort
def t7:looksOpen Mp=Y:=by unfold looksOpen;rw[t2,t4,t5,t6] at⊢;rfl
def t8:kW.row.partSaid=Y:=bc {bc {bc {bc {bc {bc {bc {bc {bc {bc {bc {bc {bc {t7,Sort},Sort},Sort},Sort},Sort},Sort},Sort},Sort},Sort},Sort},Sort},Sort},Sort}
def hQ:PySem.Challenge.rw_nn0376_01.wellSaid=Y:=bc {bc {bc {bc {bc {bc {bc {bc {bc {bc {bc {bc {bc {bc {bc {bc {bc {bc {bc {bc {t8,Sort},Sort},Sort},Sort},Sort},Sort},Sort},Sort},Sort},Sort},Sort},Sort},Sort},Sort},Sort},Sort},Sort},Sort},Sort},Sort}
section
variable{c:String->↥Builtin}{p:Gu}{w:FH}{s d:AM}{t t':BT}{i:Life}{x y:Wf}{r:Thread}{m:Nat}{j:↥Aw}{α:Type}
def VN:-Obj->Nat->BT->↥BT
 |[],_,t=>U t|o::l,n,t=>bif ((t.ins n o).get n).isSome then VN l (n+1) (t.ins n o) else Ai
def hR{b:Bool}{o:↥α}{a:α}(h:(bif b then o else Ai)=U a):b=Y/\o=U a:=by
 cases b with
 |false=>cases h|true=>calc {rfl,h}
def kX:∀(l:-Obj) {n:Nat} {t:BT},VN l n t=U t'->absHeap t' (n+l.length) i={(absHeap t n i).objs++l.toArray,i}
 |[],n,t=>λh=>BQ h▸ah (Heap.mk · i) Array.append_empty.symm|o::l,n,t=>λh=>by have q:=kX l (hR h).2;rw[absHeap_ins (hR h).1] at q;rw[Gb,FO l.length,<-El,q];calc ah (Heap.mk · i)<|sz.mp ?_;rw[AiE,AiE];calc ah (·++l) (Array.toList_push ..)|>.trans (Dr ..)
def AaT(s:AM):↥Wf:=(VN s.heap.objs.toList 0 .nil).map λt=>{t,s.heap.objs.toList.length,s.heap.life,s.gens,s.drawn,s.toks,s.os}
def t9(h:AaT s=U x):x.abs=s:=ak (bD h) λt e=>by have a:=kX (i:=s.heap.life) _ e.1;rw[EV] at a;rw[<-e.2];calc(ah (Shared.mk · s.gens s.drawn s.toks s.os) a).trans<|ah (λo=>Shared.mk (Heap.mk o s.heap.life) s.gens s.drawn s.toks s.os) AiF
def Kc(c:String->↥Builtin)(p:Gu)(w:FH)(m:Nat)(j:↥Aw):Nat->Wf->Thread->↥Wf
 |0,_,_=>Ai|n+1,s,t=>bif through t then U s else bif stepOk m j t then(stepT (denote c) p w s t).bind λr=>Kc c p w m j n r.1 r.2 else Ai
def ua{n:Nat}{x:Wf}{r:Thread}:Kc c p w m j (n+1) x r=bif through r then U x else bif stepOk m j r then(stepT (denote c) p w x r).bind λq=>Kc c p w m j n q.1 q.2 else Ai:=rfl
def kK:∀{n:Nat} {x:Wf} {r:Thread},Kc c p w m j n x r=U y->topRun c p w m j n x.abs r=U y.abs
 |0,_,_=>λh=>by cases h|n+1,x,r=>λh=>by
  rw[ua] at h;unfold topRun;revert h;cases through r with
  |true=>calcλh=>ah (U<|SharedT.abs ·)<|BQ h|false=>
   intro h;have q:=hR h;rw[q.1];calc ak (dh q.2) λz e=>?_;show(match step (denote c) p w x.abs r with|.go s' t'=>topRun c p w m j n s' t'|.halt _ _=>Ai)=_;rw[stepT_spec e.1];calc kK e.2
def VP(d:AM):Bool:=d.heap.isNs Ed&&d.gens.size==0
def VQ(p:Gu)(d a:AM):Bool:=staticsOk (sy p.main.body) d.heap a.heap&&namesBound p a.heap&&gensDone a&&laidKept d.heap a.heap
def Yh(c:String->↥Builtin)(p:Gu)(w:FH)(N:Nat):↥(AM×Wf):=
 (fencedOpening c p w N).bind λd=>(AaT d).bind λx=>(Kc c p w d.heap.objs.size (d.heap.nsMap Ed "__annotations__") N x<|topStub p).map λy=>(d,y)
def ub{f:AM->α}{g:AM->β}{a:α}{b:β}(h:(Yh c p w N).map (λq=>(VP q.1,VQ p q.1 q.2.abs,f q.2.abs))=U (Y,Y,a))(o:(Yh c p w N).map (λq=>g q.2.abs)=U b):(openEnds c p w N).map (λs=>(f s,g s))=U (a,b):=ak (bD h) λq e=>by
 have u:g q.2.abs=b:=BQ<|(ah (Lo λq:AM×Wf=>g q.2.abs) e.1).symm.trans o;have AW:=Prod.mk.inj e.2;have A3:=Prod.mk.inj AW.2;calc ak (dh e.1) λd h=>ak (dh h.2) λx k=>ak (bD k.2) λy m=>?_;have z:=m.2;subst z;have l:=kK m.1;rw[t9 k.1] at l;have q:topFrom c p w N d=U y.abs:=by
  unfold topFrom;show(match VP d with|true=>_|false=>Ai)=_;rw[AW.1,l];show(match VQ p d y.abs with|true=>_|false=>Ai)=_;rw[A3.1]
 unfold openEnds;rw[h.1];calc(ah (Lo λs=>(f s,g s)) q).trans<|ah U<|congr (ah Prod.mk A3.2) u
end
set_option genInjectivity true in
inductive Fo where
 |s (x:Str)
 |i (n:Int)
 deriving DecidableEq
set_option genInjectivity true in
inductive BE where
 |s (x:Str)
 |t (xs:-Fo)
 deriving DecidableEq
inductive DR where
 |aT|Bo|Dh (ag:-BE)|DM (c:Nat) (as:-Nat)
set_option genInjectivity true in
inductive T where
 |none
 |b3 (b:Bool)
 |au (i:Int)
 |aZ (s:Str)
 |QE
 |ab (k:DR) (o:Bool) (xs:-T)
abbrev T.aT(xs:-T):T:=.ab .aT Ab xs
abbrev T.Bo(o:Bool)(xs:-T):T:=.ab .Bo o xs
abbrev T.DM(o:Bool)(c:Nat)(DB:-(Nat×T)):T:=.ab (.DM c (DB.map (·.1))) o (DB.map (·.2))
def DR.S1:DR->Bool
 |.aT=>Y|_=>Ab
def T.eI{P:T->Prop}(h:∀k o xs,(∀x∈xs,P x)->P (.ab k o xs))(a:∀t,(∀k o xs,t≠.ab k o xs)->P t):∀t,P t:=
 λt=>T.rec (motive_1:=P) (motive_2:=λa=>∀x∈a,P x) (a _ λZ Z Z e=>by injection e) (λZ=>a _ λZ Z Z e=>by injection e) (λZ=>a _ λZ Z Z e=>by injection e) (λZ=>a _ λZ Z Z e=>by injection e) (a _ λZ Z Z e=>by injection e) (λk o a b=>h k o a b) az (λZ Z a c y d=>by cases d;calc a;calc c y ‹_›) t
mutual
noncomputable def T.D5:T->T
 |.ab k _ xs=>.ab k Ab<|Fp xs|t=>t
noncomputable def Fp:-T->↑T
 |[]=>[]
 |t::Av=>t.D5::Fp Av
end
mutual
noncomputable def T.EO:T->Bool
 |.ab _ o xs=>!o&&GZ xs|_=>Y
noncomputable def GZ:-T->Bool
 |[]=>Y|t::Av=>t.EO&&GZ Av
end
mutual
noncomputable def T.Fc:T->Bool
 |.ab k o xs=>(k.S1||o)&&NC xs|_=>Y
noncomputable def NC:-T->Bool
 |[]=>Y|t::Av=>t.Fc&&NC Av
end
def AdS:-Str:=["number","left","right","level_of","action","line","before","names","terminal_count","rules","levels","expect","start","by_left","offsets","owners","item_count"]
def En(k:Nat):Str:=AdS.getD k<|Qo "?"
def ND(c:Nat):↥As:=U<|if c%2=0 then 87 else 169
structure C0 where
 w:FH
 De:Gu
 P:As
 Cx:BX
 W:As->Prop
 K:Gd
 G:↑(Str×Aw)
 GT:-(Str×T)
noncomputable def Fo.is:Fo->Aw->Bool
 |.s x,v=>Value.isStrOf x v|.i n,v=>Value.isInt n v
def ek{k:Fo}(h:k.is v=Y):(∃x t,k=.s x/\v=.str x t)\/∃n t,k=.i n/\v=.int n t:=by
 cases k with
 |s x=>obtain⟨t,rfl⟩:=sA h;calc .inl {x,t,rfl,rfl}
 |i n=>obtain⟨t,rfl⟩:=AiG h;calc .inr {n,t,rfl,rfl}
section
variable{u:Tok}
def uc(q:Q Ab s):Ba (BK prog w) A (PySem.eqBool (.str x t)<|.int n u) Q E s:=by calc Lp ?_;rw[ai<|show¬(Value.str x t==.int n u)=Y from H3];calc AL<|EqMixed.eq_str_int<|SE q
def ud(q:Q Ab s):Ba (BK prog w) A (PySem.eqBool (.int n u)<|.str x t) Q E s:=by calc Lp ?_;rw[ai<|show¬(sC n u==.str x t)=Y from H3];calc AL<|EqMixed.eq_int_str<|SE q
end
def Kd(prog:Gu)(w:FH):KeyKind prog w Fo where
 is:=Fo.is
 hash k:=match k with
  |.s x=>hashStr w x|.i n=>hashInt n
 inj v a b c Lu:=by
  rcases ek c with⟨x,t,rfl,rfl⟩|⟨n,t,rfl,rfl⟩<;>rcases ek Lu with⟨y,t',rfl,e⟩|⟨m,t',rfl,e⟩<;>delta e<;>rfl
 byValue k v h:=by rcases ek h with⟨x,t,rfl,rfl⟩|⟨n,t,rfl,rfl⟩<;>rfl
 pyHash A8 h:=by
  rcases ek A8 with⟨x,t,rfl,rfl⟩|⟨n,t,rfl,rfl⟩
  ·exact wpAny_pyHash_str h
  ·exact wpAny_pyHash_int h
 eqBool d A8 h:=by
  rcases ek d with⟨x,t,rfl,rfl⟩|⟨n,t,rfl,rfl⟩<;>rcases ek A8 with⟨y,t',rfl,rfl⟩|⟨m,t',rfl,rfl⟩
  ·exact wpAny_eqBool_str<|by simpa using h
  ·exact uc<|by simpa using h
  ·exact ud<|by simpa using h
  ·calc sD ?_;have:(n==m)=decide (Fo.i n=Fo.i m):=cn (by rw[beq_iff_eq,bB];calc {λe=>e∣rfl,λe=>Fo.i.inj e});rw[this];exact h
 «strs» k x t v h:=by
  rcases ek h with⟨y,t',rfl,e⟩|⟨n,t',rfl,e⟩
  ·delta e;induction v<;>rfl
  ·delta e
def S2:Fo->Bool
 |.s x=>PyData.strOk x|.i _=>Y
def Iw(o:Obj):Prop:=o.cls=.type "tuple"/\∃Ae n,o.data=.seq Ae n
abbrev M0(Aa:C0):=tupleKind<|Kd Aa.De Aa.w
def Yi(Aa:C0)(h:BX)(ag:-BE)(a:As)(Ae:-Aw)(b:-(Str×Aw)):Prop:=He
 (h.DictOf (PySem.strKind Aa.De Aa.w) a b)
 (ag=b.map λp=>BE.s p.1)
 (Ae=b.map (·.2))
 (∀p∈b,PyData.strOk p.1=Y)
def S3(Aa:C0)(h:BX)(ag:-BE)(a:As)(Ae:-Aw)(xs:-(-Fo×As×Aw)):Prop:=He
 (h.DictOfH (M0 Aa) a xs)
 (ag=xs.map λp=>BE.t p.1)
 (Ae=xs.map (·.2.2))
 (∀p∈xs,p.1.all S2=Y)
def Eo(Aa:C0)(h:BX)(ag:-BE)(a:As)(Ae:-Aw):Prop:=(∃b,Yi Aa h ag a Ae b)\/∃xs,S3 Aa h ag a Ae xs
def QF:-Nat->↑LS->Prop
 |[],AE=>AE=[]|k::ag,AE=>∃e:LS×↑LS,AE=e.1::e.2/\(∃tk,e.1.key=.str (En k) tk)/\k<17/\QF ag e.2
structure Iy where
 a:As
 d:As
 Ae:↑Aw
 f:-As
structure VR where
 v:Aw
 Ae:↑Aw
 f:↑As
 g:-As
def AdT(Aa:C0)(h:BX)(n:Iy)(c:Nat)(as:-Nat)(C:As)(b:Array LS)(m:Nat):Prop:=Pr
 (ND c=U C)
 (h.get? n.a=U (instObj C n.d))
 (h.get? n.d=U {cls:=.type "dict",data:=.dict b m})
 (n.Ae=b.toList.map (·.val))
 (QF as b.toList)
 (as.Nodup)
 (2<=c->n.a+1=c/2)
noncomputable def DR.at(Aa:C0)(h:BX)(n:Iy):DR->Prop
 |.aT=>HH h n.a n.Ae.toArray|.Bo=>h.PlainList n.a n.Ae.toArray|.Dh ag=>(n.a==MZ)=Ab/\Eo Aa h ag n.a n.Ae|.DM c as=>∃C b m,AdT Aa h n c as C b m
def DR.Gf(n:Iy):DR->↑As
 |.aT=>[]
 |.DM ..=>[n.a,n.d]
 |_=>[n.a]
def NF(M:As->Prop)(k:DR)(n:Iy)(AO:-As):Bool->Prop
 |true=>AO=k.Gf n++n.f|false=>AO=n.f/\(∀a∈k.Gf n,¬M a)/\(k.S1=Ab->n.f=[])
def T.AaW(Aa:C0):T->Aw->Prop
 |.none,v=>v=.none|.b3 b,v=>v=.bool b|.au i,v=>∃t,v=.int i t|.aZ x,v=>(∃t,v=.str x t)/\PyData.strOk x=Y|.QE,v=>v=.ref Aa.P/\Aa.W Aa.P|.ab ..,_=>False
mutual
noncomputable def A9(Aa:C0)(M:As->Prop)(h:BX):T->Aw->↑As->Prop
 |.ab k o xs,v,AO=>∃n:Iy,v=.ref n.a/\k.at Aa h n/\Bl Aa M h xs n.Ae n.f/\NF M k n AO o|t,v,AO=>t.AaW Aa v/\AO=[]
noncomputable def Bl(Aa:C0)(M:As->Prop)(h:BX):-T->↑Aw->↑As->Prop
 |[],Ae,AO=>Ae=[]/\AO=[]|t::Av,Ae,AO=>∃c:VR,(Ae=c.v::c.Ae/\AO=c.f++c.g)/\A9 Aa M h t c.v c.f/\Bl Aa M h Av c.Ae c.g
end
section
def HM(c k:Nat):Bool:=(c%2==0&&decide (k<7))||(c%2==1&&decide (7<=k)&&decide (k<17))
def Pt:-Str:=["len","int","abs","list","tuple","dict","sorted","range","enumerate","reversed"]
def Ke:-String:=["bits","Rule","Rule","Grammar","symbol_count","is_terminal","number","rules_of","last_terminal","plain_grammar","restricted","spread","nullable","productive","first_of","first_masks","follow_masks","reached_by","reachable","useful_rules","useless","reduced","is_reduced","transitive","on_rings","cyclic","left_recursive","joined_words","least_words","least_sentence","predict","choices_of","ll_clashes","is_ll_one","led_by","leftmost","rows_joined","all_words","words_up_to","_law_pen","_law_draw","_law_pick","_law_pairs","_law_groups","_law_row_can","_law_part_can","_law_all_empty","_law_begins","_law_row_begins","_law_behind","_law_each","_law_signs","_law_sets_right","_law_comes_back","_law_rings_right","_law_needed","_law_rules_of","_law_useless_right","_law_ends","_law_spans","_law_least_right","_law_led_right"]
def AaX(b:-C8)(p:-Nat):C8:=match p with
 |[i]=>b.getD i<|.Pass default|[i,j]=>if h:(b.getD i<|.Pass default).ctorIdx=2 then Stmt.ClassDef.elim _ h λZ Z Z l Z Z Z Z Z Z Z=>l.getD j (.Pass default) else .Pass default|_=>.Pass default
def VS(s:C8):DefRec:=(DefRec.ofStmt? s).getD {"",{[],[],Ai,[],[],Ai,[]},[],{.function,[],Ab,Ab,[]},default}
def AdW(s:C8):-C8×Dz:=((VS s).body,(VS s).scope)
def M1(p:-Nat):-C8×Dz:=AdW<|AaX PySem.Challenge.pw_nn0376_01.main.body p
def CS(p:-Nat)(a l:-Str)(d:-T):-Nat×↑Str×↑Str×↑T:=(p,a,l,d)
def AaK:-(-Nat×↑Str×↑Str×↑T):=[
 CS [4] ["mask"] ["found","at","left"] [],
 CS [9,0] ["self","number","left","right","level_of","action","line","before"] [] [T.none,T.au 0,T.au 0],
 CS [9,0] ["self","number","left","right","level_of","action","line","before"] [] [],
 CS [10,0] ["self","names","terminal_count","rules","levels","expect","start"] ["rule"] [],
 CS [10,1] ["self"] [] [],
 CS [10,2] ["self","symbol"] [] [],
 CS [10,4] ["self","name"] [] [],
 CS [10,5] ["self","symbol"] [] [],
 CS [11] ["right","terminal_count"] ["found","symbol"] [],
 CS [12] ["pairs","start"] ["lefts","left","parts","begin","names","name","count","rules","right"] [T.none],
 CS [13] ["grammar","symbols","rules"] ["places","names","symbol","kept","rule","right","left"] [],
 CS [15] ["grammar","known"] ["found","lacking","users","queue","rule","missing","symbol","at","number","left"] [],
 CS [16] ["grammar"] [] [],
 CS [17] ["grammar"] [] [],
 CS [18] ["symbols","nullables","firsts"] ["mask","symbol"] [],
 CS [19] ["grammar"] ["nullables","firsts","symbol","is_grown","rule","mask"] [],
 CS [20] ["grammar"] ["nullables","firsts","follows","is_grown","rule","behind","symbol"] [],
 CS [21] ["grammar","usable"] ["found","accept","left","number","symbol"] [],
 CS [22] ["grammar"] [] [],
 CS [23] ["grammar"] ["having","found","rule"] [],
 CS [24] ["grammar"] ["having","usable","needed","wordless","unreached","symbol","rules"] [],
 CS [25] ["grammar"] ["usable","needed"] [],
 CS [26] ["grammar"] [] [],
 CS [27] ["rows"] ["found","middle","one"] [],
 CS [28] ["grammar","rows"] ["closed"] [],
 CS [29] ["grammar"] ["nullables","rows","rule","solid","symbol","others"] [],
 CS [30] ["grammar"] ["nullables","rows","rule","symbol"] [],
 CS [31] ["symbols","words"] ["found","symbol"] [],
 CS [32] ["grammar"] ["words","symbol","is_changed","rule","word"] [],
 CS [33] ["grammar","symbols"] [] [],
 CS [34] ["grammar"] ["nullables","firsts","follows","table","rule","mask","is_empty","terminal"] [],
 CS [35] ["table"] [] [],
 CS [36] ["grammar"] [] [],
 CS [37] ["grammar"] [] [],
 CS [38] ["grammar","table","word"] ["row","pile","used","at","symbol","rules","part"] [],
 CS [39] ["grammar","word"] ["table"] [],
 CS [40] ["parts","length"] ["found","part","longer","begin","word"] [],
 CS [41] ["grammar","length"] ["words","symbol","is_word","is_grown","rule","word"] [],
 CS [42] ["grammar","length"] [] [],
 CS [44] ["script"] ["number","cell"] [],
 CS [45] ["pen","many"] ["digit"] [],
 CS [46] ["pen","some"] [] [],
 CS [47] ["pen"] ["names","pairs","name","turn","many"] [],
 CS [48] ["pairs"] ["found","number","pair"] [],
 CS [49] ["groups","parts","signs_let","path"] ["one"] [],
 CS [50] ["groups","part","signs_let","path"] ["number","parts"] [],
 CS [51] ["empties","parts"] [] [],
 CS [52] ["groups","empties","parts","path"] ["found","part","number","inner"] [],
 CS [53] ["heads","empties","parts"] ["found","part"] [],
 CS [54] ["pairs","heads","empties","name"] ["line","found","at","left","parts","spot"] [],
 CS [55] ["some"] [] [],
 CS [56] ["grammar","mask"] [] [],
 CS [57] ["grammar","pairs","groups","empties"] ["nullables","firsts","follows","heads","behinds","table","name","symbol","due","number","pair","signs","sign","key","choices"] [],
 CS [58] ["steps","name"] ["line","at"] [],
 CS [59] ["grammar","groups","empties"] ["alone","lefts","name","number","parts","at","part","dues","steps"] [],
 CS [60] ["groups","having"] ["line","at","number","parts"] [],
 CS [61] ["grammar"] ["found","one"] [],
 CS [63] ["grammar","pairs","groups","having","small"] ["needed","wordless","idle_names","rules","number","pair","has_words","met","signs","shown","kept"] [],
 CS [64] ["groups","known","word","opening","parts"] ["ends","part","later","end","goal","is_fit"] [],
 CS [65] ["groups","word"] ["known","is_new","name","number","parts","opening","end"] [],
 CS [66] ["grammar","groups","having","words","spans"] ["briefest","name","word","known","parts","due"] [],
 CS [67] ["grammar","words","word"] ["is_fit","found","form","at","number","one"] [],
 CS [68] ["script"] ["pen","drawn","pairs","grammar","groups","empties","having","small","words","asked","spans","word"] []]
def Kf:-Nat:=[68,87,87,169,110,117,131,138,180,186,191,196,203,208,215,222,229,236,243,248,253,258,265,272,277,282,289,296,303,310,317,322,329,336,343,350,357,362,369,376,383,390,395,402,409,416,421,428,435,442,447,452,457,462,467,472,477,489,496,503,508,513,518]
def I3(f:Nat):As:=Kf.getD f 0
def E0:As:=515
def Yj(h:BX):Gd:=([3,1,59,4,29,35,45,46,58,67,69,77,181]++(Kf++[484,103,84,36]).flatMap λa=>[a,a-1]).filterMap λa=>if a=E0 then Ai else(h.get? a).map λo=>(a,o)
def AaZ(K:Gd)(a:As):↥XZ:=(K.lookup a).bind λo=>match o.data with
 |.func AF=>U AF|_=>Ai
abbrev NG:=FuncBody×Dz×As×As×↑(Str×As)×Arguments×Aw×Bool
def Rq(K:Gd)(a:As):↥NG:=(AaZ K a).map λa=>(a.body,a.scope,a.globals,a.builtins,a.closure,a.params,a.defaults,codeIn K a.code a.qualname)
def M3(p:-Nat):Arguments:=(VS<|AaX PySem.Challenge.pw_nn0376_01.main.body p).params
def QG(p:-Nat)(d:Aw):↥NG:=U (.stmts (M1 p).1,(M1 p).2,Ed,Ip,[],M3 p,d,Y)
def WM:-Nat:=0::Cn 4 59
def Kg(f:Nat):-Nat:=(AaK.getD f ([],[],[],[])).1
def VT:-(As×↑Nat×Aw):=[(484,[62],.none),(84,[9,0],.ref 77),(103,[10,0],.none),(36,[2,0],.ref 29)]
def VW(f:Nat):Aw:=if f=9 then .ref 181 else .none
def Rr:-(Str×↥Aw):=Pt.map (·,Ai)++([("Exception",Ai),("GrammarError",U<|.ref 59),("__builtins__",U<|.ref 4),("_law_or_none",U<|.ref 484),("OWN_TERMINALS",U<|.ref 69),("END",U<|.int 0 262),("ERROR",U<|.int 1 264),("law",U<|.ref 518)]:-(Str×↥Aw))++(Ke.zipIdx.filter λp=>!decide (4<=p.2/\p.2<=7)).map λp=>(Qo p.1,U<|.ref<|I3 p.2)
def Yk:-(As×Str×↥Aw):=([(87,"__setattr__",U<|.builtin "object.__setattr__"),(169,"__setattr__",U<|.builtin "object.__setattr__"),(59,"__setattr__",U<|.builtin "object.__setattr__"),(59,"what",Ai),(59,"at",Ai),(59,"__init__",U<|.ref 36),(87,"__init__",U<|.ref 84),(169,"__init__",U<|.ref 103)]:-(As×Str×↥Aw))++([4,5,6,7].map λf=>(169,Qo<|Ke.getD f "",U<|.ref<|I3 f))++((Cg 17).filter λk=>HM 0 k).map (λk=>(87,En k,Ai))++((Cg 17).filter λk=>HM 1 k).map λk=>(169,En k,Ai)
def Rt(Ae:Array Aw):Obj:={cls:=.type "tuple",data:=.seq Ae}
def AaY:Obj:=SF "GrammarError" "GrammarError" 59 58 [.ref 46] [.ref 46,.type "Exception",.type "BaseException",.type "object"] Y [] [] Ab Ai Ai (U<|.ref 50) Ai (U<|.str "GrammarError" 234) (U<|.str "GrammarError" 242) (U<|.bool Y) "Exception.__new__"
def AaU:Obj:={cls:=.type "code",data:=.fields #[.str "law" 914,.str "law" 915,.str "/claim/cut.py" 916,.int 580 0,.int 1 0,.int 0 0,.int 0 0,.int 3 0,.ref 514,.bool Y,.int 181 0,.ref E0,.none,.none,.none,.ref 516,.int 917 0,.int 580 0,.str "/claim/cut.py" 918]}
def VX:-(As×Obj):=[(77,Rt #[.int (Neg.neg 1) 283,.none,.int 0 284,.int 0 285]),(181,Rt #[.none]),(29,Rt #[.none]),(69,Rt #[.str "$end" 266,.str "error" 267,.str "$undefined" 268]),(4,{cls:=.type "module",dict:=U Ip,data:=.plain}),(59,AaY),(517,AaU)]
abbrev S4:=↥Aw×↥↥Aw×↥Bool×↥Bool×↥Aw
def AaV(K:Gd):S4:=(typeIn K<|.ref 36,specialIn K (.ref 59) "__call__",instIn K (.ref 59)<|.type "type",subIn K (.ref 59)<|.type "object",(AaZ K 518).map λa=>a.code)
def AaJ:S4:=(U<|.type "function",U<|U<|.builtin "type.__call__",U Y,U Y,U<|.ref 517)
def VK(K:Gd):-Bool:=([87,169].map λC=>plainGet K C ""&&(hasDictIn K C&&(plainOver K C&&makesIn K C)))++(Kf.take 62++[484,59]).map (λa=>Pe K<|.ref a)++([110,117,131,138,84,103].map λa=>isFn K<|.ref a)++[(K.lookup MZ).isSome]
def Kh(K:Gd):=(WM.map λf=>Rq K<|I3 f,VT.map λp=>Rq K p.1,Rr.map λp=>nsIn K Ed p.1,Yk.map λp=>H4 K (.ref p.1) p.2.1,VK K,VX.map λp=>K.lookup p.1,AaV K)
def VZ:=(WM.map λf=>QG (Kg f)<|VW f,VT.map λp=>QG p.2.1 p.2.2,Rr.map λp=>U p.2,Yk.map λp=>U p.2.2,CV 73 Y,VX.map λp=>U p.2,AaJ)
def Yl(s:AM):=(Kh<|Yj s.heap,s.heap.get? E0)
def Ym(w:FH):=(VZ,U<|Qp #[])
def S5:Gu:={PySem.Challenge.pw_nn0376_01 with main:={PySem.Challenge.pw_nn0376_01.main with body:=[PySem.Challenge.pw_nn0376_01.main.body.getD 68<|.Pass default]}}
def Ki:-Str:=PySem.Challenge.pw_nn0376_01.boundNames.filter (· !="law")
abbrev Kj:Gu:=PySem.Challenge.pw_nn0376_01
def ue(w:FH):(Yh treeTable Kj w 7000).map (λq=>(VP q.1,VQ Kj q.1 q.2.abs,openSeen S5 Ki (sy Kj.main.body) (λZ=>Y) Y q.2.abs))=U (Y,Y,openGood S5 Ki):=by
 kernel_rfl
def uf(w:FH):(Yh treeTable Kj w 7000).map (λq=>Yl q.2.abs)=U (Ym w):=by
 kernel_rfl
def ug:LeftO Kj S5 Ki (λZ=>Y) Yl Ym 7000:=λw=>ub (ue w)<|uf w
end
section
variable{h j:BX}{k:DR}{t:T}{i:Nat}
def DictOfH.at{xs:-(-Fo×As×Aw)}(y:h.DictOfH (M0 Aa) a xs)(Ax:∀o,h.get? a=U o->j.get? a=U o)(d:∀b o,h.get? b=U o->Iw o->j.get? b=U o):j.DictOfH (M0 Aa) a xs:=
 bI y λc a e z=>{c,a,e,Ax c z.1,z.2.1,z.2.2.1,z.2.2.2.1,λx f=>bI (z.2.2.2.2.1 x f) λo a m q=>{o,a,m,d _ _ q.1 {q.2.1,_,_,q.2.2.1},q.2},z.2.2.2.2.2}
def Eo.bg(Ax:∀o,h.get? a=U o->j.get? a=U o)(d:∀b o,h.get? b=U o->Iw o->j.get? b=U o)(y:Eo Aa h ag a Ae):Eo Aa j ag a Ae:=
 y.elim (λc=>ak c λZ y=>.inl {_,y.1.at Ax,y.2,y.3,y.4}) λc=>ak c λZ y=>.inr {_,DictOfH.at y.1 Ax d,y.2,y.3,y.4}
def DR.bg(Ax:∀a∈k.Gf n,∀o,h.get? a=U o->j.get? a=U o)(c:∀b o,h.get? b=U o->Iw o->j.get? b=U o)(y:k.at Aa h n):k.at Aa j n:=by
 cases k with
 |aT=>calc ak y λo z=>{o,c _ o z.1 {z.2.1,_,z.2.2},z.2}
 |Bo=>calc Heap.PlainList.at y<|Ax _<|.head _|Dh=>calc {y.1,y.2.bg (Ax _<|.head _) c}|DM=>calc bI y λC d m z=>{C,d,m,z.1,Ax _ (.head _) _ z.2,Ax _ (.tail _<|.head _) _ z.3,z.4,z.5,z.6,z.7}
def gn{o:Obj}(h:o.cls=.type c)(A4:c≠"tuple"):¬Iw o:=λz=>A4<|Value.type.inj<|h.symm^z.1
def Eo.cC(y:Eo Aa h ag a Ae):∃o,h.get? a=U o/\o.ExactDict:=y.elim (λb=>ak b λZ y=>bI y.1 λc Z Z z=>{c,z.1,z.2.1}) λb=>ak b λZ y=>bI y.1 λc Z Z z=>{c,z.1,z.2.1}
def DR.bE(y:k.at Aa h n):∀a∈k.Gf n,∃o,h.get? a=U o/\¬Iw o:=by
 cases k with
 |aT=>calc az|Bo=>calcλa b=>aF b▸ak y λZ c=>{_,c,gn rfl ∅}
 |Dh=>calcλa b=>aF b▸ak (Eo.cC y.2) λd z=>{d,z.1,gn z.2.1 ∅}
 |DM=>
  calc bI y λZ Z Z z=>λa b=>(aK b).elim (λe=>e⊂{_,z.2,λq=>nomatch q.1}) λb=>aF b⊂{_,z.3,gn rfl ∅}
def Bl.cx:∀{xs:-T} {Ae:-Aw} {f:-As},Bl Aa M h xs Ae f->Bl Aa M h Al ws g->Bl Aa M h (xs++Al) (Ae++ws) (f++g)
 |[],_,_,y=>λz=>by rw[y.1,y.2];calc z|_::_,_,_,⟨c,y⟩=>λz=>{{c.v,c.Ae++ws,c.f,c.g++g},{ah (·++ws) y.1.1,ah (·++g) y.1.2^Dr ..},y.2.1,y.2.2.cx z}
theorem Bl.Cf(y:A9 Aa M h t v f):Bl Aa M h [t] [v] f:={{v,[],f,[]},{rfl,(Ct f).symm},y,rfl,rfl}
def Bl.bo:∀{xs:-T} {Ae:-Aw} {f:-As},Bl Aa M h xs Ae f->Ae.length=xs.length
 |[],_,_,y=>ah J y.1|_::_,_,_,⟨_,y⟩=>ah J y.1.1^ah (·+1) y.2.2.bo
def Bl.bY{g:T->T}{GY:-As->↑As}(e:GY []=[])(l:∀a b,GY (a++b)=GY a++GY b):∀{xs:-T} {Ae:-Aw} {f:-As},(∀x∈xs,∀{v d},(∀a∈d,a∈f)->A9 Aa M h x v d->A9 m Df j (g x) v (GY d))->Bl Aa M h xs Ae f->Bl m Df j (xs.map g) Ae (GY f)
 |[],_,_,_,y=>{y.1,y.2⊂e}
 |_::_,_,_,H,⟨c,y⟩=>{{c.v,c.Ae,GY c.f,GY c.g},{y.1.1,y.1.2⊂l c.f c.g},H _ (.head _) (λZ h=>y.1.2⊂CL _ h) y.2.1,y.2.2.bY e l λx o {Z _} b=>H x (.tail _ o) λa h=>y.1.2⊂BH _ (b a h)}
def Bl.ff{P:-As->Prop}(c:P [])(d:∀a b,P a->P b->P (a++b)):∀{xs:-T} {Ae:-Aw} {f:-As},(∀x∈xs,∀{v e},A9 Aa M h x v e->P e)->Bl Aa M h xs Ae f->P f
 |[],_,_,_,y=>y.2⊂c|_::_,_,_,H,⟨_,y⟩=>y.1.2⊂d _ _ (H _ (.head _) y.2.1) (y.2.2.ff c d λx g=>H x<|.tail _ g)
def Mq(M:As->Prop)(AO:-As)(h j:BX):Prop:=∀a o,h.get? a=U o->(a∈AO\/¬M a\/Iw o)->j.get? a=U o
theorem NF.A6(y:NF M k n AO o):∀a∈n.f,a∈AO:=by
 cases o with
 |true=>calcλa b=>y⊂BH _ b|false=>calcλa b=>y.1⊂b
def NF.fg(y:NF M k n AO o):∀a∈k.Gf n,a∈AO\/¬M a:=by
 cases o with
 |true=>calcλa b=>.inl<|y⊂CL _ b|false=>calcλa b=>.inr<|y.2.1 a b
def NF.a9(c:∀a,Df a->M a\/h.get? a=Ai)(q:k.at Aa h n)(y:NF M k n AO o):NF Df k n AO o:=by
 cases o with
 |true=>calc y|false=>calc {y.1,λa b z=>(c a z).elim (y.2.1 a b) λe=>ae (DR.bE q a b) λZ d Z=>(nomatch D8 e.symm d),y.2.2}
def A9.dN(a:∀k o xs,t≠.ab k o xs):A9 Aa M h t v AO↔t.AaW Aa v/\AO=[]:=by cases t<;>first|calc Wg|calc ar rfl (a _ _ _)
def T.uh(a:∀k o xs,t≠.ab k o xs):t.D5=t:=by cases t<;>first|rfl|calc ar rfl (a _ _ _)
def A9.a9(f:∀a,Df a->M a\/h.get? a=Ai):∀(t:T) {v:Aw} {AO:-As},Mq M AO h j->A9 Aa M h t v AO->A9 Aa Df j t v AO:=
 T.eI (λk o d g v h i l=>ak l λn y=>{n,y.1,DR.bg (λa c b e=>i a b e<|(y.2.2.2.fg a c).imp_right .inl) (λa b e c=>i a b e<|.inr<|.inr c) y.2.1,EW d▸y.2.2.1.bY rfl (λZ Z=>rfl) λx m {v p} d=>g x m λa b e c=>i a b e<|c.imp_left λc=>y.2.2.2.A6 a<|d a c,y.2.2.2.a9 f y.2.1}) λt d Z Z Z y=>(A9.dN d).mpr<|(A9.dN d).mp y
def Bl.a9(b:∀a,Df a->M a\/h.get? a=Ai)(Ax:Mq M AO h j)(y:Bl Aa M h Av Ae AO):Bl Aa Df j Av Ae AO:=EW Av▸y.bY (g:=id) (GY:=id) rfl (λZ Z=>rfl) λx Z {v f} g=>A9.a9 b x λa d e c=>Ax a d e<|c.imp_left<|g a
def A9.bg(Ax:Mq M AO h j)(y:A9 Aa M h t v AO):A9 Aa M j t v AO:=A9.a9 (λZ z=>.inl z) t Ax y
def A9.cy(b:∀a,Df a->M a\/h.get? a=Ai)(y:A9 Aa M h t v AO):A9 Aa Df h t v AO:=A9.a9 b t (λZ Z e Z=>e) y
def DR.fh(k:DR):k.at Aa h n↔k.at Aa h {n with f:=f}:=by induction k<;>first|calc Wg|calc {λa=>bI a λC e m z=>{C,e,m,z.1,z.2,z.3,z.4,z.5,z.6,z.7},λa=>bI a λC e m z=>{C,e,m,z.1,z.2,z.3,z.4,z.5,z.6,z.7}}
def DR.gp(k:DR):k.Gf n=k.Gf {n with f:=f}:=by induction k<;>rfl
def dv:∀xs:-T,Fp xs=xs.map T.D5
 |[]=>rfl|_::xs=>ah _<|dv xs
theorem A9.CT(l:∀a,Df a->M a\/h.get? a=Ai):∀(t:T) {v:Aw} {AO:-As},(∀a∈AO,¬Df a)->A9 Aa M h t v AO->A9 Aa Df h t.D5 v []:=
 T.eI (λk o d m v h g p=>ak p λn y=>{{n with f:=[]},y.1,k.fh.mp y.2.1,(dv d).symm▸y.2.2.1.bY rfl (λZ Z=>rfl) λx r {v s} c=>m x r λa b=>g a<|y.2.2.2.A6 a<|c a b,rfl,k.gp∣λa b z=>(y.2.2.2.fg a b).elim (λc=>g a c z) λc=>(l a z).elim c λe=>ak (DR.bE y.2.1 a b) λZ q=>(nomatch D8 e.symm q.1),λZ=>rfl}) λt d v a Z y=>by rw[T.uh d];calc(A9.dN d).mpr {((A9.dN d).mp y).1,rfl}
theorem Bl.CT(b:∀a,Df a->M a\/h.get? a=Ai)(c:∀a∈AO,¬Df a)(y:Bl Aa M h Av Ae AO):Bl Aa Df h (Fp Av) Ae []:=by rw[dv];calc y.bY rfl (λZ Z=>rfl) λx Z {v e} f=>A9.CT b x λa d=>c a<|f a d
def A9.bE:∀(t:T) {v:Aw} {AO:-As},A9 Aa M h t v AO->∀a∈AO,∃o,h.get? a=U o/\¬Iw o:=
 T.eI (λk o h f v i g=>ak g λn y=>by
  have l:=y.2.2.1;have e:=y.2.2.2;have q:=l.ff az (λa b p q x d=>(aN d).elim (p x)<|q x) λx d {v r}=>f x d;cases o with
  |true=>calcλa c=>(aN<|e∣c).elim (DR.bE y.2.1 a)<|q a|false=>calcλa c=>q a<|e.1∣c) λt m v b y a c=>by rw[((A9.dN m).mp y).2] at c;cases c
def Bl.bE(y:Bl Aa M h Av Ae AO):∀a∈AO,∃o,h.get? a=U o/\¬Iw o:=y.ff az (λZ Z p q x b=>(aN b).elim (p x)<|q x) λx Z {Z _}=>A9.bE x
def hS:∀{xs:-T},NC xs=Y->∀x∈xs,x.Fc=Y
 |_::_,e,_,a=>have e:=bQ e;by cases a;calc e.1;calc hS e.2 _ ‹_›
def hT:∀{xs:-T},GZ xs=Y->∀x∈xs,x.EO=Y
 |_::_,e,_,a=>have e:=bQ e;by cases a;calc e.1;calc hT e.2 _ ‹_›
def NF.a5(e:(k.S1||o)=Y)(y:NF M k n AO o):NF Df k n AO o:=by
 cases o with
 |true=>calc y|false=>cases k with
  |aT=>calc {y.1,az,gj}|_=>delta e
def A9.c5:∀(t:T) {v:Aw} {AO:-As},t.Fc=Y->A9 Aa M h t v AO->A9 Aa Df h t v AO:=
 T.eI (λk o xs c v AO e ⟨n,y⟩=>
  have e:=bQ e
  {n,y.1,y.2.1,EW xs▸y.2.2.1.bY rfl (λZ Z=>rfl) λx a {v d} Z=>c x a<|hS e.2 x a,y.2.2.2.a5 e.1}) λt b Z Z Z y=>(A9.dN b).mpr<|(A9.dN b).mp y
def Bl.c5(e:NC Av=Y)(y:Bl Aa M h Av Ae AO):Bl Aa Df h Av Ae AO:=EW Av▸y.bY (g:=id) (GY:=id) rfl (λZ Z=>rfl) λx a {v b} Z=>A9.c5 x<|hS e x a
def A9.cI:∀(t:T) {v:Aw} {AO:-As},t.EO=Y->A9 Aa M h t v AO->AO=[]:=
 T.eI (λk o g d v h e f=>ak f λn y=>by
  have e:=bQ e;cases o with
  |true=>(injection e.1<;>subst_vars)
  |false=>calc y.2.2.2.1^y.2.2.1.ff (P:=(·=[])) rfl (λa b p q=>by rw[p,q];rfl) λx c {v l}=>d x c<|hT e.2 x c) λt g Z Z Z y=>((A9.dN g).mp y).2
def Bl.cI(e:GZ Av=Y)(y:Bl Aa M h Av Ae AO):AO=[]:=y.ff (P:=(·=[])) rfl (λa b p q=>by rw[p,q];rfl) λx c {Z _}=>A9.cI x<|hT e x c
def AaO(Aa:C0)(M:As->Prop)(h:BX)(xs:-T)(Ae:-Aw)(AO:-As)(i:Nat)(x:T)(c:VR):Prop:=Dy
 (Ae[i]?=U c.v)
 (AO=c.f++c.g)
 (∃g f2,c.g=g++f2/\A9 Aa M h x c.v g/\∀{Df j Bj b d},(∀a,Df a->M a\/h.get? a=Ai)->Mq M (c.f++f2) h j->A9 Aa Df j Bj b d->Bl Aa Df j (xs.set i Bj) (Ae.set i b) (c.f++(d++f2)))
def Bl.focus:∀{xs:-T} {Ae:-Aw} {AO:-As} {i:Nat} {x:T},Bl Aa M h xs Ae AO->xs[i]?=U x->∃c,AaO Aa M h xs Ae AO i x c
 |_::_,_,_,0,_,⟨c,y⟩,l=>{{c.v,[],[],c.f++c.g},y.1.1⊂rfl,y.1.2,c.f,c.g,rfl,BQ l∣y.2.1,λ{Z _ a m p} b d r=>{{m,c.Ae,p,c.g},{y.1.1⊂rfl,rfl},r,y.2.2.a9 b d}}
 |_::_,_,_,i+1,_,⟨c,y⟩,l=>
  let⟨d,z⟩:=y.2.2.focus l
  let⟨g,f2,q⟩:=z.3
  ⟨{d.v,[],c.f++d.f,d.g},y.1.1⊂z.1,by rw[y.1.2,z.2,Dr],g,f2,q.1,q.2.1,λ{Z _ g m p} b h r=>by rw[Dr] at h;calc {{c.v,c.Ae.set i m,c.f,d.f++(p++f2)},{y.1.1⊂rfl,Dr ..},A9.a9 b _ (λa o e c=>h a o e<|c.imp_left<|CL _) y.2.1,q.2.2 b (λa o e c=>h a o e<|c.imp_left<|BH _) r}⟩
theorem Bl.Cq(y:Bl Aa M h xs Ae f)(a:xs[i]?=U x):∃v g,Ae[i]?=U v/\A9 Aa M h x v g/\g.Sublist f:=
 ak (y.focus a) λc z=>a4 z.3 λg a q=>{c.v,g,z.1,q.2.1,by rw[z.2,q.1];calc(AiH g _).trans<|jJ _ _}
end
def fi{l:-α}(h:l[n]?=U x):l.set n x=l:=
 ak (hN h) λa e=>e∣List.set_getElem_self a
abbrev B5:=↑↥T
def Fq(Am:B5):-T:=Am.map (·.getD .none)
def H8(W:As->Prop)(L:As)(s s':AM):Prop:=He
 (s'={s with heap:=s'.heap,toks:=s'.toks})
 (∀a o,s.heap.get? a=U o->¬W a->a≠L->s'.heap.get? a=U o)
 (∀m,s.heap.Ns L m->s'.heap.Ns L m)
 (∀a o,W a->s.heap.get? a=U o->¬Iw o->∃b,s'.heap.get? a=U b/\¬Iw b)
namespace H8
variable{b:AM}
def bk:H8 W L s s:={rfl,λZ Z e Z Z=>e,λZ e=>e,λZ o Z e c=>{o,e,c}}
def aH(x:H8 W L s s')(y:H8 W L s' b):H8 W L s b:=
 {by rw[y.1,x.1],λa o e n l=>y.2 a o (x.2 a o e n l) n l,λm e=>y.3 m<|x.3 m e,λa o n e c=>ae (x.4 a o n e c) (y.4 a · n)}
def b5(Ax:∀a o,s.heap.get? a=U o->Ay.get? a=U o):H8 W L s {s with heap:=Ay,toks:=n}:=
 {rfl,λZ Z e Z Z=>Ax _ _ e,λZ e=>e.keeps Ax,λZ o Z e c=>{o,Ax _ _ e,c}}
def cb:H8 W L s {s with toks:=n}:=b5 bu
def c6:H8 W L s {s with heap:=s.heap.push o}:=b5 λZ Z e=>D9 _ e
end H8
def Mr(P:As)(h:BX):Prop:=∃(n c:Nat) (t u:Tok),h.IsList P #[.int n t,.int c u]
def Ru(h:BX)(env:Env)(m:Str->↥Aw)(x:Str)(v:Aw):Prop:=
 (env.kindOf x=U .local/\m x=U v)\/((env.kindOf x=U .cell\/env.kindOf x=U .free)/\∃c,env.cells.lookup x=U c/\h.IsCell c (U v))
structure Ea where
 Aq:↑↥Str
 BN:Dz
def FL(k:Nat)(A:EI):Prop:=Dy
 (A.handled=Ai)
 (A.depth+4*k+8<U8)
 (A.units+100*k+200<IJ)
def FL.d(a:FL k A):A.depth<U8:=DG (CD _ _\CD _ _) a.2
def FL.u(a:FL k A):A.units+200<IJ:=DG (G8 (CD _ _) _) a.3
structure DS where
 Aa:C0
 C:Ea
 k:Nat
 A:EI
 env:Env
 X:As->Prop
 Eb:FL k A
 BN:env.scope=C.BN
 Hf:env.scope.kind=.function
 NH:env.globals=Ed
 S6:env.builtins=Ip
 S7:interactive env=Ab
 S8:∀(i j:Nat) (x:Str),C.Aq[i]?=U (U x)->C.Aq[j]?=U (U x)->i=j
 Rv:∀x:Str,C.BN.names.lookup x=U .cell->∃c,env.cells.lookup x=U c
 Rw:∀(x y:Str) (c:As),env.cells.lookup x=U c->env.cells.lookup y=U c->x=y
 Rx:Aa.Cx.objs.size<=env.locals
 Hg:X env.locals
 LY:∀x c,env.cells.lookup x=U c->X c
 Iz:¬Aa.W env.locals
 Ms:∀x c,env.cells.lookup x=U c->¬Aa.W c/\c≠env.locals
 Ht:∀a,X a->Aa.Cx.get? a=Ai
 wx:∀a,Aa.W a->X a
structure A5 where
 V:DS
 Am:B5
 Ae:↑Aw
 AO:-As
def AdX(a:As):Prop:=a=0
abbrev Yn:Dz:={.function,[],Ab,Ab,[]}
abbrev kZ(w:FH):C0:={w,default,0,{},λZ=>False,[],[],[]}
instance:Nonempty FH:=⟨{λZ Z=>0,{strHash:=λZ=>0,shareClass:=λa=>a,mergeTok:=λa=>a,idOf:=λZ=>0,idOfShared:=λZ Z=>0,followText:=λZ=>Ab,idOfImm:=λZ=>0}}⟩
instance:Nonempty C0:=⟨kZ U9⟩
instance:Nonempty DS:={kZ U9,{[],Yn},0,{},{scope:=Yn,locals:=0,globals:=Ed,cells:=[],builtins:=Ip},AdX,{rfl,∅,∅},rfl,rfl,rfl,rfl,rfl,λZ Z Z h=>(nomatch h),λZ h=>(nomatch h),λZ Z Z h=>(nomatch h),CE 0,rfl,λZ Z h=>(nomatch h),id,λZ Z h=>(nomatch h),λZ Z=>rfl,λZ h=>(nomatch h)}
instance:Nonempty A5:={U9,[],[],[]}
instance:Nonempty T:=⟨.none⟩
instance:Nonempty DR:=⟨.aT⟩
instance:Nonempty Fo:=⟨.i 0⟩
instance:Nonempty BE:=⟨.s default⟩
instance:Nonempty EI:=⟨{}⟩
instance:Nonempty AM:=⟨{}⟩
instance:Nonempty Qq:={λZ=>default,default,U9}
instance:Nonempty GenState:=⟨.running⟩
instance:Nonempty Drawn:=⟨{}⟩
instance:Nonempty Rc:=⟨.none⟩
instance:Nonempty Ea:={[],Yn}
instance:Nonempty Iy:={0,0,[],[]}
instance:Nonempty VR:={.none,[],[],[]}
abbrev A5.Aa(z:A5):C0:=z.V.Aa
abbrev A5.env(z:A5):Env:=z.V.env
abbrev A5.L(z:A5):As:=z.V.env.locals
def A5.M(z:A5)(a:As):Prop:=z.V.X a\/a∈z.AO
abbrev Dw(z:A5):Qq:=BK z.V.Aa.De z.V.Aa.w
abbrev Ec(z:A5)(m:Sem α)(Q:α->AM->Prop)(s:AM):Prop:=Ba (Dw z) z.V.A m Q (λZ Z=>False) s
abbrev QH(z:A5)(s s':AM):Prop:=H8 z.V.Aa.W z.V.env.locals s s'
abbrev IA(z:A5)(s s':AM):Prop:=H8 (λZ=>False) z.V.env.locals s s'
def AY(z:A5)(s:AM):Prop:=S0
 (∀b o,z.Aa.Cx.get? b=U o->s.heap.get? b=U o)
 (∀a,z.V.X a->∃o,s.heap.get? a=U o/\¬Iw o)
 (z.Aa.W z.Aa.P->Mr z.Aa.P s.heap)
 (∀a∈z.AO,z.Aa.Cx.get? a=Ai/\¬z.V.X a)
 (z.AO.Nodup)
 (Bl z.Aa z.M s.heap (Fq z.Am) z.Ae z.AO)
 (∃m,s.heap.Ns z.L m/\∀(i:Nat) (x:Str) (t:T),z.V.C.Aq[i]?=U (U x)->z.Am[i]?=U (U t)->∃v,z.Ae[i]?=U v/\Ru s.heap z.env m x v)
 (∀x c,z.env.cells.lookup x=U c->∃v,s.heap.IsCell c v)
def CJ(z:A5)(s s':AM):Prop:=Em
 (QH z s s')
 (AY z s')
def cO{h:BX}(x:h.Ns L m):∃o,h.get? L=U o/\¬Iw o:=
 bI x λo Z Z q=>{o,q.1,λz=>a4 z.2 λZ Z e=>nomatch D8 e.symm q.2.1}
section
variable{f:-As}
theorem AY.Fd(R:AY z s)(K:QH z s s')(d:∀a,z.V.X a->M a)(g:∀a∈f,¬z.V.X a):Mq M f s.heap s'.heap:=λa o e c=>
 have b:=c.elim (g a) λc=>c.elim (λc q=>c<|d a q) λc q=>ae (R.2 a q) λh q w=>w (BQ (e.symm^q)∣c)
 K.2 a o e (λq=>b<|z.V.wx a q) λq=>b<|q⊂z.V.Hg
def AY.aU(R:AY z s)(K:QH z s s')(p:z.Aa.W z.Aa.P->Mr z.Aa.P s'.heap):CJ z s s':=⟨K,⟨(λb o e=>K.2 b o (R.1 b o e) (λn=>nomatch D8 (z.V.Ht b<|z.V.wx b n).symm e) λn=>nomatch D8 (z.V.Ht b<|n⊂z.V.Hg).symm e),
 (λa n=>by
  calc ae (R.2 a n) λo q c=>?_;by_cases w:z.Aa.W a
  ·exact K.4 a o w q c
  by_cases l:a=z.L;·exact ae R.7 λm d Z=>l⊂cO (K.3 m d)
  ·calc {o,K.2 a o q w l,c}),
 (p),
 (R.4),
 (R.5),
 (R.6.a9 (λZ q=>.inl q)<|R.Fd K (λZ q=>.inl q) λa j=>(R.4 a j).2),
 (ae R.7 λm d q=>{m,K.3 m d,λi x t r u=>ae (q i x t r u) λv g q=>{v,g,q.imp_right λq=>{q.1,ae q.2 λc h w=>ae w λo a y=>{c,h,o,K.2 _ _ a (z.V.Ms _ _ h).1 (z.V.Ms _ _ h).2,y}}}}),
 (λx c a=>bP (R.8 x c a) λv o g A=>{v,o,K.2 _ _ g (z.V.Ms _ _ a).1 (z.V.Ms _ _ a).2,A})⟩⟩
def AY.bk(R:AY z s):CJ z s s:={.bk,R}
def CJ.aH(x:CJ z s s1)(y:CJ z s1 s2):CJ z s s2:={x.1.aH y.1,y.2}
def AY.bp(R:AY z s)(K:IA z s s'):CJ z s s':=R.aU
 {K.1,λa o e Z l=>K.2 a o e id l,K.3,λa o q e c=>{o,K.2 a o e id λl=>z.V.Iz<|l∣q,c}} λb=>
  a4 (R.3 b) λn c p=>a4 p λt u p=>ak p λo q=>{n,c,t,u,o,K.2 _ _ q.1 id λl=>z.V.Iz<|l∣b,q.2}
def AY.bE(R:AY z s):∀a∈z.AO,∃o,s.heap.get? a=U o/\¬Iw o:=R.6.bE
def AY.bb(R:AY z s):∀a,z.V.X a->s.heap.get? a≠Ai:=λa q e=>ae (R.2 a q) λZ w Z=>nomatch D8 e.symm w
def Hh(h Ay:BX):Prop:=∀a,Ay.get? a=Ai->h.get? a=Ai
def AY.bq(R:AY z s)(K:QH z s s'):Hh s.heap s'.heap:=λa b=>by
 cases e:s.heap.get? a with
 |none=>rfl|some o=>
  exfalso
  by_cases q:z.Aa.W a;·exact ae (R.2 a<|z.V.wx a q) λd w c=>ae (K.4 a d q w c) λZ w Z=>nomatch D8 b.symm w
  by_cases l:a=z.L;·exact ae R.7 λm g Z=>ae (cO<|K.3 m g) λZ w Z=>nomatch (l▸b).symm.trans w
  ·calc nomatch D8 b.symm (K.2 a o e q l)
end
inductive By where
 |AU|DC|aM
 deriving DecidableEq
instance:Nonempty By:=⟨.AU⟩
def Fe(b:Bool):By:=if b=Y then .aM else .AU
def VY(t:T):By->Bool
 |.AU=>Y|.DC=>t.EO|.aM=>t.Fc
def QI(Av:-T):By->Bool
 |.AU=>Y|.DC=>GZ Av|.aM=>NC Av
def By.M(z:A5):By->As->Prop
 |.aM=>z.V.X|_=>z.M
def E1(hs:BX)(AO f:-As):By->Prop
 |.AU=>f.Nodup/\∀a∈f,hs.get? a=Ai|.DC=>∀a∈f,a∈AO|.aM=>f=[]
def BL(z:A5)(hs h:BX)(t:T)(AJ:By)(v:Aw):Prop:=∃f,A9 z.Aa (AJ.M z) h t v f/\E1 hs z.AO f AJ
def Dc(z:A5)(hs h:BX)(Av:-T)(AJ:By)(Ae:-Aw):Prop:=∃f,Bl z.Aa (AJ.M z) h Av Ae f/\E1 hs z.AO f AJ
def H9(z:A5)(hs:BX):Prop:=∀a,z.V.X a->hs.get? a≠Ai
section
variable{z:A5}{i:Nat}
theorem By.A6(AJ:By):∀a,z.V.X a->AJ.M z a:=by induction AJ<;>first|calcλZ q=>.inl q|calcλZ q=>q
def E1.nil(AJ:By):E1 hs z.AO [] AJ:=by induction AJ<;>first|calc {.nil,az}|calc az|rfl
theorem E1.A6(b:g.Sublist f)(y:E1 hs z.AO f AJ):E1 hs z.AO g AJ:=by
 cases AJ with
 |AU=>calc {y.1.sublist b,λa c=>y.2 a<|b.subset c}|DC=>calcλa c=>y a<|b.subset c|aM=>calc AiI.mp<|y∣b
def E1.fj(b:Hh hs C6)(y:E1 C6 z.AO f AJ):E1 hs z.AO f AJ:=by
 cases AJ with
 |AU=>calc {y.1,λa c=>b a<|y.2 a c}|_=>calc y
def E1.av(R:AY z s)(c:H9 z hs)(y:E1 hs z.AO f AJ):∀a∈f,¬z.V.X a:=by
 cases AJ with
 |AU=>calcλa b q=>c a q<|y.2 a b|DC=>calcλa b=>(R.4 a<|y a b).2|aM=>calc y⊂az
theorem BL.Cf(y:BL z hs h t AJ v):Dc z hs h [t] AJ [v]:=ae y λf y q=>{f,Bl.Cf y,q}
def BL.fj(a:Hh hs C6)(y:BL z C6 h t AJ v):BL z hs h t AJ v:=ae y λf y q=>{f,y,q.fj a}
def BL.bg(R:AY z s)(K:QH z s s')(a:H9 z hs)(y:BL z hs s.heap t AJ v):BL z hs s'.heap t AJ v:=ae y λf y q=>{f,y.bg<|R.Fd K AJ.A6<|q.av R a,q}
def Dc.bg(R:AY z s)(K:QH z s s')(a:H9 z hs)(y:Dc z hs s.heap Av AJ Ae):Dc z hs s'.heap Av AJ Ae:=ae y λf y q=>{f,y.a9 (λZ q=>.inl q)<|R.Fd K AJ.A6<|q.av R a,q}
def Dc.bo(y:Dc z hs h Av AJ Ae):Ae.length=Av.length:=ae y λZ y Z=>y.bo
def Dc.nil:Dc z hs h [] AJ []:={[],{rfl,rfl},E1.nil AJ}
def Dc.dw(y:Dc z hs h Av AJ Ae)(a:Av[i]?=U t):∃u,Ae[i]?=U u/\BL z hs h t AJ u:=ae y λf y q=>a8 (y.Cq a) λu g e r s=>{u,e,g,r,q.A6 s}
theorem BL.Dg(y:BL z hs h (.ab Cr o xs) AJ v):∃n:Iy,v=.ref n.a/\Cr.at z.Aa h n/\Dc z hs h xs AJ n.Ae/\(∀{s:AM},AY z s->H9 z hs->∀a∈Cr.Gf n,¬z.V.X a):=
 ae y λf y q=>a6 y λn e k r w=>
  ⟨n,e,k,⟨n.f,r,q.A6 (by
   cases o with
   |true=>calc w⊂jJ _ _|false=>calc w.1∣.refl _)⟩,λ{Z} R b a d=>(w.fg a d).elim (q.av R b a) λc q=>c<|AJ.A6 a q⟩
def BL.bh(e:VY t AJ=Y)(y:BL z hs h t AJ v):BL z hs h t .AU v:=ae y λf y q=>by
 cases AJ with
 |AU=>calc {f,y,q}|DC=>calc {[],A9.cI t e y∣y,E1.nil .AU}|aM=>calc {[],A9.c5 t e<|q∣y,E1.nil .AU}
def Dc.bh(e:QI Av AJ=Y)(y:Dc z hs h Av AJ Ae):Dc z hs h Av .AU Ae:=ae y λf y q=>by
 cases AJ with
 |AU=>calc {f,y,q}|DC=>calc {[],Bl.cI e y∣y,E1.nil .AU}|aM=>calc {[],Bl.c5 e<|q∣y,E1.nil .AU}
def BL.aM(R:AY z s)(b:H9 z hs)(y:BL z hs h t AJ v):BL z hs h t.D5 .aM v:=ae y λf y q=>{[],A9.CT (λa c=>.inl<|AJ.A6 a c) t (q.av R b) y,rfl}
def Dc.aM(R:AY z s)(b:H9 z hs)(y:Dc z hs h Av AJ Ae):Dc z hs h (Fp Av) .aM Ae:=ae y λf y q=>{[],y.CT (λa c=>.inl<|AJ.A6 a c)<|q.av R b,rfl}
def ui(xs Al:-T):Fp (xs++Al)=Fp xs++Fp Al:=by rw[dv,dv,dv,Ee]
def Dc.eL(R:AY z s)(S:QH z s s')(j:H9 z hs)(l:Hh hs s.heap)(y:Dc z hs s.heap Av (Fe b) Ae)(w:Dc z s.heap s'.heap AG (Fe b) ws):Dc z hs s'.heap (Av++AG) (Fe b) (Ae++ws):=by
 refine ae y λf y q=>ae w λg w p=>{f++g,(y.a9 (λZ q=>.inl q)<|R.Fd S (By.A6<|Fe b)<|q.av R j).cx w,?_}
 cases b with
 |true=>calc q⊂p|false=>calc {cv {q.1,p.1,λa d c b e=>ae (y.bE a d) λo h Z=>nomatch D8 (p.2 a<|e⊂b).symm h},λa d=>(aN d).elim (q.2 a) λd=>l a<|p.2 a d}
end
def Fs(xs:-T):Bool:=decide<|J xs<=1000000
inductive LU(z:A5)(s:AM)(Q:T->By->Prop)(v:Aw)(s':AM):Prop
 |mk (t:T) (AJ:By) (q:Q t AJ) (S:CJ z s s') (y:BL z s.heap s'.heap t AJ v)
inductive uj(z:A5)(s:AM)(b:Bool)(Q:-T->Prop)(Ae:-Aw)(s':AM):Prop
 |mk (Av:-T) (q:Q Av) (S:CJ z s s') (y:Dc z s.heap s'.heap Av (Fe b) Ae)
def BM(z:A5)(e:A2)(Q:T->By->Prop):Prop:=∀s,AY z s->Ec z (D4 e z.env) (LU z s Q) s
def HN(z:A5)(AE:-A2)(b:Bool)(Q:-T->Prop):Prop:=∀pos s,AY z s->Ec z (spliced<|SG pos<|Qr AE z.env) (uj z s b Q) s
def Mt(z:A5)(e:A2)(Q:Bool->Prop):Prop:=∀s,AY z s->Ec z (isTrue e z.env<|D4 e z.env) (λb a=>CJ z s a/\Q b) s
inductive LV:Bool->T->By->T->Prop
 |bh {t AJ} (e:VY t AJ=Y):LV Ab t AJ t
 |Gz {t AJ}:LV Y t AJ t.D5
inductive Pu:Bool->↑T->By->↑T->Prop
 |bh {t AJ} (e:QI t AJ=Y):Pu Ab t AJ t
 |Gz {t AJ}:Pu Y t AJ (Fp t)
section
variable{z:A5}{s s' s1 s0:AM}{h hs l:BX}{t t':T}{Av AG xs:-T}{v:Aw}{Ae ws:-Aw}{d:By}{f g:-As}{b o:Bool}{Cr:DR}{i:Nat}{x:T}{E:Aw->AM->Prop}{Q j:T->By->Prop}{e:A2}{AE:-A2}
def BM.aG{P:Aw->AM->Prop}(H:BM z e Q)(R:AY z s)(q:∀v s' t d,Q t d->CJ z s s'->BL z s.heap s'.heap t d v->P v s'):Ba (Dw z) z.V.A (D4 e z.env) P E s:=
 CW (H s R) (λv a p=>p.rec<|q v a) bL
def BM.aq(H:BM z e Q)(q:∀t d,Q t d->j t d):BM z e j:=λs R=>H.aG R λv a t d p S y=>{t,d,q t d p,S,y}
def Mt.aG{P:Bool->AM->Prop}{Q:Bool->Prop}(H:Mt z e Q)(R:AY z s)(q:∀b s',Q b->CJ z s s'->P b s'):Ba (Dw z) z.V.A (isTrue e z.env<|D4 e z.env) P E s:=
 CW (H s R) (λv a p=>q v a p.2 p.1) bL
def HN.aG{pos:Pos}{Q:-T->Prop}{P:-Aw->AM->Prop}(H:HN z AE b Q)(R:AY z s)(q:∀Ae s' Av,Q Av->CJ z s s'->Dc z s.heap s'.heap Av (Fe b) Ae->P Ae s'):Ba (Dw z) z.V.A (spliced<|SG pos<|Qr AE z.env) P E s:=
 CW (H pos s R) (λv a p=>p.rec<|q v a) bL
def LU.fk{Q:T->By->Prop}(R:AY z s)(S:CJ z s s1)(p:LU z s1 Q v s'):LU z s Q v s':=p.rec λt d q a y=>{t,d,q,S.aH a,y.fj<|R.bq S.1}
theorem BL.Mu(R:AY z s)(a:H9 z hs)(w:LV b t d t')(y:BL z hs h t d v):BL z hs h t' (Fe b) v:=by
 cases w with
 |bh e=>calc y.bh e|Gz=>calc y.aM R a
theorem Dc.Mu(R:AY z s)(a:H9 z hs)(w:Pu b Av d AG)(y:Dc z hs h Av d Ae):Dc z hs h AG (Fe b) Ae:=by
 cases w with
 |bh e=>calc y.bh e|Gz=>calc y.aM R a
def BL.d1{i:Int}{tk:Tok}:BL z hs h (.au i) .AU (.int i tk):={[],{{tk,rfl},rfl},E1.nil .AU}
def BL.eM:BL z hs h (.b3 b) .AU (.bool b):={[],{rfl,rfl},E1.nil .AU}
def BL.uk:BL z hs h .none .AU .none:={[],{rfl,rfl},E1.nil .AU}
def BL.kY{y:Str}{tk:Tok}(q:PyData.strOk y=Y):BL z hs h (.aZ y) .AU (.str y tk):={[],{{{tk,rfl},q},rfl},E1.nil .AU}
def BL.au{i:Int}(y:BL z hs h (.au i) d v):∃tk,v=.int i tk:=ae y λZ y Z=>y.1
def BL.b3(y:BL z hs h (.b3 b) d v):v=.bool b:=ae y λZ y Z=>y.1
def BL.aZ{x:Str}(y:BL z hs h (.aZ x) d v):(∃tk,v=.str x tk)/\PyData.strOk x=Y:=ae y λZ y Z=>y.1
def Dc.kU(R:AY z s)(K:IA z s s')(r:H9 z hs)(u:Hh hs s.heap)(y:Dc z hs s.heap Av (Fe b) Ae)(n:Iy)(A8:n.Ae=Ae)(Ax:Cr.at z.Aa s'.heap n)(p:∀a∈Cr.Gf n,s.heap.get? a=Ai)(ab:(Cr.Gf n).Nodup):
  BL z hs s'.heap (.ab Cr (!b&&!Cr.S1) Av) (Fe b) (.ref n.a):=by
 have K:=(R.bp K).1;subst A8;cases b with
 |true=>calc ae (y.bg R K r) λf y q=>{[],{{n with f:=[]},rfl,Cr.fh.mp Ax,q∣y,rfl,Cr.gp∣λa m q=>R.bb a q<|p a m,λZ=>rfl},rfl}
 |false=>
  refine ae y λf y q=>{Cr.Gf n++f,{{n with f:=f},rfl,Cr.fh.mp Ax,y.a9 (λZ q=>.inl q)<|R.Fd K (By.A6 .AU) λa m w=>r a w<|q.2 a m,?_},cv {ab,q.1,λa m c b e=>ae (y.bE c b) λZ w Z=>nomatch D8 (rwl e (p a m):s.heap.get? c=Ai).symm w},λa m=>(aN m).elim (λm=>u a<|p a m)<|q.2 a}
  cases Cr with
  |aT=>calc {rfl,az,gj}|_=>calc rfl
def bU(h:BX):h.get? h.objs.size=Ai:=by
 cases e:h.get? h.objs.size with
 |none=>rfl|some o=>calc ar (Gv e)<|Hq _
def Dc.dP(R:AY z s)(K:IA z s s')(m:H9 z hs)(p:Hh hs s.heap)(y:Dc z hs s.heap Av (Fe b) Ae){a:As}(q:s'.heap.PlainList a Ae.toArray)(r:s.heap.get? a=Ai):BL z hs s'.heap (.Bo (!b) Av) (Fe b) (.ref a):=
 jO (!b)∣y.kU R K m p {a,0,Ae,[]} rfl q (λc a=>aF a▸r) (ZT ..)
def Dc.fl(R:AY z s)(K:IA z s s')(c:H9 z hs)(m:Hh hs s.heap)(y:Dc z hs s.heap Av (Fe b) Ae){a:As}(p:HH s'.heap a Ae.toArray):BL z hs s'.heap (.aT Av) (Fe b) (.ref a):=
 by induction b<;>calc(y.kU R K c m {a,0,Ae,[]} rfl p az .nil)
def Yo(h:BX)(L:As)(g:BX):-(As×Obj):=((Cg h.objs.size).filterMap λa=>(h.get? a).map (a,·)).filter λp=>decide (p.1≠L)&&(g.get? p.1).isNone
def gq{L:As}{g:BX}{p:As×Obj}:p∈Yo h L g↔h.get? p.1=U p.2/\p.1≠L/\g.get? p.1=Ai:=
 SD.trans (and_congr {λq=>ae (Wh.mp q) λa Z e=>ae (bD e) λo a e=>e∣a,λq=>Wh.mpr {p.1,cV<|Gv q,ah (Lo _) q}}<|sx.trans<|and_congr bB Wi)
def AY.cc(R:AY z s):∃m,Fr z.Aa.Cx z.L s.heap m:=ae R.7 λm a Z=>{m,a,R.1,z.V.Rx}
def AY.eN(R:AY z s):∃m,Fr z.Aa.Cx z.L s.heap m/\News z.Aa.Cx z.L s.heap (Yo s.heap z.L z.Aa.Cx)/\
  ∀{Ay:BX} {tk:Nat} {news:-(As×Obj)},Fr z.Aa.Cx z.L Ay m->News z.Aa.Cx z.L Ay news->(∀p∈Yo s.heap z.L z.Aa.Cx,p∈news)->IA z s {s with heap:=Ay,toks:=tk}:=by
 clear z s _ R;calc ak R.cc λm F=>⟨m,F,λZ r=>gq.mp r,λ{b d f} g h i=>⟨rfl,λa o e Z n=>by
    cases q:z.Aa.Cx.get? a with
    |some c=>calc((R.1 a c q).symm^e)∣g.keep a c q|none=>calc(h (a,o)<|i _<|gq.mpr {e,n,q}).1,λw u=>(funext (u.agree F.ns)).symm∣g.ns,bL⟩⟩
def eP{A:EI}{Q:Aw->AM->Prop}{i:Nat}{x:Str}(R:AY z s)(u:z.V.C.Aq[i]?=U (U x))(y:z.Am[i]?=U (U t))(B:(x==("__classdict__":Str))=Ab)(q:∀v,z.Ae[i]?=U v->Q v s):Ba (Dw z) A (loadName z.env x) Q E s:=
 ae R.7 λm D w=>ae (w i x t u y) λv b a=>a.elim (λa=>sE z.V.Hf a.1 D a.2<|q v b) λa=>ae a.2 λc d r=>a.1.elim (λp=>wpAny_loadName_cell z.V.Hf p d r<|q v b) λp=>wpAny_loadName_free z.V.Hf p d r (q v b) B
def fm{Am:B5}{i:Nat}(h:Am[i]?=U (U t)):(Fq Am)[i]?=U t:=by unfold Fq;rw[Gw,h];rfl
def AY.b6(R:AY z s){i:Nat}(a:z.Am[i]?=U (U t))(A8:z.Ae[i]?=U v):BL z hs s.heap t .DC v:=
 a8 (R.6.Cq<|fm a) λu g e r q=>{g,BQ (e.symm^A8)∣r,λZ c=>q.subset c}
end
def HP(Am:B5)(i:Nat):↥T:=Am[i]?.bind id
def cz{Am:B5}{i:Nat}{t:T}(h:HP Am i=U t):Am[i]?=U (U t):=ae (dh h) λo q e=>e∣q
inductive Ry where
 |none|b3 (b:Bool)|au (i:Int)|aZ (x:Str)
def Ry.Hu:Ry->T
 |.none=>.none|.b3 b=>.b3 b|.au i=>.au i|.aZ x=>.aZ x
def Ry.Aa0:Ry->Const
 |.none=>.none|.b3 b=>.bool b|.au i=>.int i|.aZ x=>.str x
noncomputable def Ry.ok:Ry->Bool
 |.aZ x=>PyData.strOk x|_=>Y
def HQ(e:A2):Bool:=Qs e.ctorIdx 22
section
variable{z:A5}{s:AM}{t:T}{Av:-T}{e:A2}{AE:-A2}{b:Bool}{Q:T->By->Prop}
def kV{i:Nat}{x:Str}{pos:Pos}(c:z.V.C.Aq[i]?=U (U x))(d:(x==("__debug__":Str))=Ab)(f:(x==("__classdict__":Str))=Ab)(a:HP z.Am i=U t)(q:Q t .DC):BM z (.Name x pos) Q:=λs R=>
 Wj (eP R c (cz a) f λv b=>{t,.DC,q,R.bk,R.b6 (cz a) b}) d
def dQ{Q:-T->Prop}(q:Q []):HN z [] b Q:=λa s R=>Wk {[],q,R.bk,Dc.nil}
def cf{rest:-A2}{env:Env}(h:HQ e=Ab):Qr (e::rest) env=(Ab,D4 e env)::Qr rest env:=by cases e<;>first|rfl|delta h
def c7{Q:-T->Prop}(c:HQ e=Ab)(H:BM z e λt a=>∃t',LV b t a t'/\HN z AE b λa=>Q (t'::a)):HN z (e::AE) b Q:=λb s R=>
 Rd (H.aG R λv b t c q S y=>ae q λb w H=>H.aG S.2 λb c d q a e=>{_,q,S.aH a,Dc.eL S.2 a.1 R.bb (R.bq S.1) (y.Mu S.2 R.bb w).Cf e}) (cf c)
def eQ{c:Ry}{n:Nat}{pos:Pos}(A4:c.ok=Y)(q:Q c.Hu .AU):BM z (.Constant c.Aa0 n pos) Q:=λs R=>by
 cases c with
 |none=>calc Va {_,_,q,R.bk,BL.uk}|b3 b=>calc wpAny_Constant_bool {_,_,q,R.bk,BL.eM}|au i=>calc wpAny_Constant_int {_,_,q,R.bp .cb,BL.d1}|aZ x=>calc j0 {_,_,q,R.bp .cb,BL.kY A4}
def el{xs:-T}(h:Fs xs=Y):J xs<=1000000:=aL h
def d2{xs:-T}{Ae:-Aw}(h:Fs xs=Y)(e:J Ae=J xs):J Ae<=H5:=by rw[e,Qt];calc el h\∅
def hW{pos:Pos}(H:HN z AE b λa=>Fs a=Y/\Q (.Bo (!b) a) (Fe b)):BM z (.List AE pos) Q:=λs R=>
 wpAny_List (H.aG R λa b c q S y=>{d2 q.1 y.bo,_,_,q.2,S.aH<|S.2.bp .c6,y.dP S.2 .c6 R.bb (R.bq S.1) {_,Fn _ rfl}<|bU _})
def eR{n:Nat}{pos:Pos}(H:HN z AE b λa=>Fs a=Y/\Q (.aT a) (Fe b)):BM z (.Tuple AE n pos) Q:=λs R=>
 wpAny_Tuple (H.aG R λa b c q S y=>{d2 q.1 y.bo,_,_,q.2,S.aH<|S.2.bp .c6,y.fl S.2 .c6 R.bb (R.bq S.1) {_,Fn _ rfl,rfl,_,rfl}})
end
def Pw(z:A5)(s0 s1 s:AM)(t1:T)(Ey:By)(v1:Aw)(FN:T)(Ep:By)(v2:Aw):Prop:=Pr
 (AY z s1)
 (AY z s)
 (QH z s1 s)
 (H9 z s0.heap)
 (Hh s0.heap s1.heap)
 (BL z s0.heap s1.heap t1 Ey v1)
 (BL z s1.heap s.heap FN Ep v2)
inductive Rz(z:A5)(s0 s:AM)(Q:T->By->Prop)(v:Aw)(s':AM):Prop
 |mk (t:T) (AJ:By) (q:Q t AJ) (K:IA z s s') (y:BL z s0.heap s'.heap t AJ v)
def GU(z:A5)(op:Aw->Aw->Sem Aw)(t1:T)(Ey:By)(FN:T)(Ep:By)(Q:T->By->Prop):Prop:=∀s0 s1 s v1 v2,Pw z s0 s1 s t1 Ey v1 FN Ep v2->Ec z (op v1 v2) (Rz z s0 s Q) s
inductive Yp(Q:Bool->Prop):T->By->Prop
 |mk {b AJ} (q:Q b):Yp Q (.b3 b) AJ
def Lv(z:A5)(op:Aw->Aw->Sem Aw)(t1:T)(Ey:By)(FN:T)(Ep:By)(Q:Bool->Prop):Prop:=∀s0 s1 s v1 v2,Pw z s0 s1 s t1 Ey v1 FN Ep v2->Ec z (op v1 v2) (λv a=>∃b,v=.bool b/\Q b/\IA z s a) s
section
variable{z:A5}{s s' s1 s0:AM}{h hs D:BX}{t t' w x:T}{Av AG xs B:-T}{v g j:Aw}{Ae ws:-Aw}{C d f:By}{b:Bool}{op:Aw->Aw->Sem Aw}
def Pw.cD(W:Pw z s0 s1 s w d g x f j):BL z s0.heap s.heap w d g:=W.6.bg W.1 W.3 W.4
def fo(R:AY z s)(H:BM z l λw d=>BM z r λx f=>∀s1 s2 g j,CJ z s s2->Pw z s s1 s2 w d g x f j->Ec z (op g j) P s2):Ec z (D4 l z.env) (λv s=>Ec z (D4 r z.env) (λu s=>Ec z (op v u) P s) s) s:=
 H.aG R λg b w d H a e=>H.aG a.2 λj d x f H c i=>H b d g j (a.aH c) {a.2,c.2,c.1,R.bb,R.bq a.1,e,i}
def hX(E2:∀{M:Qq} {A:EI} {env:Env} {Q:Aw->AM->Prop} {E:Aw->AM->Prop} {s:AM},Ba M A (D4 l env) (λv s=>Ba M A (D4 r env) (λu s=>Ba M A (op v u) Q E s) E s) E s->Ba M A (D4 e env) Q E s)
  (H:BM z l λw d=>BM z r λx f=>GU z op w d x f Q):BM z e Q:=λs R=>
 E2 (fo R<|H.aq λw d H=>H.aq λx f H b c g j S W=>CW (H s b c g j W) (λv a q=>q.rec λt C q K y=>{t,C,q,S.aH<|W.2.bp K,y}) bu)
def um{op:Operator}:(BM z l λw d=>BM z r λx f=>GU z (LW op) w d x f Q)->BM z (.BinOp l op r pos) Q:=hX sF
def BT(z:A5)(e:A2)(Q:Bool->Prop):Prop:=Em
 (BM z e<|Yp Q)
 (Mt z e Q)
def BT.aq{Q:Bool->Prop}(H:BT z e Q)(q:∀b,Q b->DH b):BT z e DH:={H.1.aq λZ Z p=>p.rec λp=>.mk<|q _ p,λs R=>H.2.aG R λb a p S=>{S,q b p}}
def uo{op:CmpOp}{Q:Bool->Prop}(a:sG op r=Ab)(H:BM z l λw d=>BM z r λx f=>Lv z (I0 op) w d x f Q):BT z (.Compare l [op] [r] pos) Q:=⟨
 (hX (λh=>sH h a)<|H.aq λw d H=>H.aq λx f H a d s g j W=>CW (H a d s g j W) (λv c q=>aE q λb e q K=>{.b3 b,.AU,.mk q,K,e⊂BL.eM}) bu),
 (λs R=>AiL (fo R<|H.aq λw d H=>H.aq λx f H a d g j S W=>CW (H s a d g j W) (λv c q=>aE q λb e q K=>e⊂SE {S.aH<|W.2.bp K,q}) bL) a)⟩
def dR{b:Int}(c:∀{t u:Tok} {Q:Aw->AM->Prop},Q (.int i s.toks) {s with toks:=s.toks+1}->Ba (Dw z) z.V.A (op (.int a t)<|.int b u) Q (λZ Z=>False) s)(q:Q (.au i) .AU)(W:Pw z s0 s1 s (.au a) d g (.au b) f j):Ec z (op g j) (Rz z s0 s Q) s:=
 ak W.6.au λa b=>ak W.7.au λa d=>by rw[b,d];calc c {_,_,q,.cb,BL.d1}
def uq{b:Int}(q:Q (.au<|a+b) .AU):GU z (LW .Add) (.au a) d (.au b) f Q:=λZ Z Z Z Z=>dR PyProof.Rows.add_int q
def ur{b:Int}(q:Q (.au<|a-b) .AU):GU z (LW .Sub) (.au a) d (.au b) f Q:=λZ Z Z Z Z=>dR PyProof.Rows.sub_int q
def uu{b:Int}(h:Builtin.Int.intBits a<=64\/Builtin.Int.intBits b<=64)(q:Q (.au<|a*b) .AU):GU z (LW .Mult) (.au a) d (.au b) f Q:=λZ Z Z Z Z=>dR (λq=>PyProof.Rows.mul_int q<|h.elim IntMulOk.of_left IntMulOk.of_right) q
def uv{b:Int}(h:b≠0)(c:Builtin.divisionGoesByPylong a b=Ab)(q:Q (.au<|a.fdiv b) .AU):GU z (LW .FloorDiv) (.au a) d (.au b) f Q:=λZ Z Z Z Z=>dR (λq=>PyProof.Rows.floordiv_int h q<|.inl c) q
def uw{b:Int}(h:b≠0)(q:Q (.au<|a.fmod b) .AU):GU z (LW .Mod) (.au a) d (.au b) f Q:=λZ Z Z Z Z=>dR (PyProof.Rows.mod_int h) q
def ux{b:Int}(q:Q (.au<|Builtin.bitOr a b) .AU):GU z (LW .BitOr) (.au a) d (.au b) f Q:=λZ Z Z Z Z=>dR PyProof.Rows.or_int q
def uy{b:Int}(q:Q (.au<|Builtin.bitAnd a b) .AU):GU z (LW .BitAnd) (.au a) d (.au b) f Q:=λZ Z Z Z Z=>dR PyProof.Rows.and_int q
def uz(c:0<=n)(Ag:n<=1000000)(e:a.natAbs<2^64)(q:Q (.au<|a*2^n.toNat) .AU):GU z (LW .LShift) (.au a) d (.au n) f Q:=λZ Z Z Z Z=>dR (PyProof.Rows.lshift_int_small c Ag e) q
def uA(h:0<=n)(q:Q (.au<|a.fdiv<|2^n.toNat) .AU):GU z (LW .RShift) (.au a) d (.au n) f Q:=λZ Z Z Z Z=>dR (PyProof.Rows.rshift_int h) q
def gr{b:Int}{r:Bool}{Q:Bool->Prop}(c:∀{s:AM} {t u:Tok} {Q:Aw->AM->Prop},Q (.bool r) s->Ba (Dw z) z.V.A (op (.int a t)<|.int b u) Q (λZ Z=>False) s)(q:Q r):Lv z op (.au a) d (.au b) f Q:=λa b s g j W=>
 ak W.6.au λa b=>ak W.7.au λa d=>by rw[b,d];calc c {_,rfl,q,.bk}
def kJ{b:Int}{Q:Bool->Prop}:Q (decide<|a<b)->Lv z (I0 .Lt) (.au a) d (.au b) f Q:=gr λq=>PyProof.Rows.lt_int q
def uB{b:Int}{Q:Bool->Prop}:Q (decide<|a<=b)->Lv z (I0 .LtE) (.au a) d (.au b) f Q:=gr λq=>PyProof.Rows.le_int q
def uC{b:Int}{Q:Bool->Prop}:Q (decide<|b<a)->Lv z (I0 .Gt) (.au a) d (.au b) f Q:=gr λq=>PyProof.Rows.gt_int q
def uD{b:Int}{Q:Bool->Prop}:Q (decide<|b<=a)->Lv z (I0 .GtE) (.au a) d (.au b) f Q:=gr λq=>PyProof.Rows.ge_int q
def S9(b:Bool):DR:=if b=Y then .aT else .Bo
def Pw.eL{G:Prop}(W:Pw z s0 s1 s (.ab Cr F xs) d g (.ab Cr H B) f j)(Ag:QI xs d=Y)(p:QI B f=Y)(r:Fs xs=Y)(DZ:Fs B=Y)
  (k:∀n i:Iy,g=.ref n.a->j=.ref i.a->Cr.at z.Aa s.heap n->Cr.at z.Aa s.heap i->J n.Ae+J i.Ae<=H5->Dc z s0.heap s.heap (xs++B) .AU (n.Ae++i.Ae)->G):G:=
 a6 W.6.Dg λn d u l y=>a6 W.7.Dg λi f A m Z=>
  have Fd:=W.1.Fd (M:=z.V.X) W.3 (λZ q=>q) (y W.1 W.4)
  k n i d f (DR.bg (λa E o e=>Fd a o e<|.inl E) (λb o e c=>Fd b o e<|.inr<|.inr c) u) A (by
   rw[l.bo,m.bo,Qt];calc EL (el r) (el DZ)\∅) (Dc.eL (b:=Ab) W.1 W.3 W.4 W.5 (l.bh Ag)<|m.bh p)
def uE(Ag:QI xs d=Y)(c:QI B f=Y)(e:Fs xs=Y)(DZ:Fs B=Y)(q:Q (.Bo Y<|xs++B) .AU):GU z (LW .Add) (.Bo A xs) d (.Bo E B) f Q:=λd f s g j W=>
 W.eL Ag c e DZ λn G c d i l o y=>aE W.2.eN λm F N e=>by rw[c,d];calc add_lists F N i.isList l.isList (λc d f=>have K:=e d f λp r=>.tail _ r;{_,_,q,K,Dc.dP (b:=Ab) W.2 K W.4 (λa u=>W.5 a<|W.1.bq W.3 a u) y {_,(f _<|.head _).1}<|bU _}) o
def uF(Ag:QI xs d=Y)(o:QI B f=Y)(r:Fs xs=Y)(DZ:Fs B=Y)(q:Q (.aT<|xs++B) .AU):GU z (LW .Add) (.aT xs) d (.aT B) f Q:=λd f s g j W=>
 W.eL Ag o r DZ λn u f g i l A y=>aE W.2.eN λm F N h=>by
  have aR:∀{s':AM} {c:As},IA z s s'->HH s'.heap c (n.Ae++u.Ae).toArray->Rz z d s Q (.ref c) s':=λK c=>{_,_,q,K,Dc.fl (b:=Ab) W.2 K W.4 (λa E=>W.5 a<|W.1.bq W.3 a E) y c}
  rw[f,g];calc add_tuples F N i l (λe=>aR .bk<|e⊂l) (λZ e=>aR .bk (by rw[e,Ct];calc i)) (λZ Z a b c=>aR (h b c λp G=>.tail _ G) {_,(c _<|.head _).1,rfl,_,rfl}) A
end
mutual
noncomputable def FP:Nat->T->↥Rc
 |_,.none=>U .none|_,.b3 b=>U<|.bool b|_,.au i=>U<|.int i|_,.aZ x=>U<|.str x|n+1,.ab .aT _ xs=>(Mv n xs).map .tuple|n+1,.ab .Bo _ xs=>(Mv n xs).map .list|_,_=>Ai
noncomputable def Mv:Nat->↑T->↥↑Rc
 |_,[]=>U []|n,x::xs=>(FP n x).bind λd=>(Mv n xs).map (d::·)
end
def Yq(h:BX)(v:Aw)(d:Rc)(n:Nat):Prop:=Dy
 (∃as,Reads h v d as)
 (d.canLay0=Y)
 (d.depth<=n)
def Aa1(h:BX)(Ae:-Aw)(ds:-Rc)(n:Nat):Prop:=Dy
 (∃as,ReadsAll h Ae ds as)
 (PyData.canLayAll0 ds=Y)
 (PyData.depthAll ds<=n)
section
variable{h:BX}
def Bl.reads:∀{Av:-T} {Ae:-Aw} {AO:-As} {ds:-Rc},(∀x∈Av,∀{v f d},FP n x=U d->A9 Aa M h x v f->Yq h v d n)->Mv n Av=U ds->Bl Aa M h Av Ae AO->Aa1 h Ae ds n
 |[],Ae,AO,ds,_,e,y=>by rw[y.1,<-BQ e];calc {{[],.nil},rfl,C9 _}|t::Av,Ae,AO,ds,H,e,⟨c,y⟩=>ae (dh e) λd c e=>ae (bD e) λl d e=>
  have a:=H t (.head _) c y.2.1;have b:=y.2.2.reads (λx g {Z _ _}=>H x<|.tail _ g) d
  ak a.1 λc i=>ak b.1 λc j=>by rw[y.1.1,<-e];calc {{_,.cons i j},by rw[PyData.canLayAll0,a.2,b.2];rfl,by rw[PyData.depthAll];calc Nat.max_le.mpr {a.3,b.3}}
def A9.reads:∀(t:T) {n:Nat} {v:Aw} {AO:-As} {d:Rc},FP n t=U d->A9 Aa M h t v AO->Yq h v d n:=
 T.eI (λk o xs p n v AO d e r=>ak r λm y=>by
  cases n using Nat.casesOn with
  |zero=>induction k<;>delta e|succ n=>
   have key:∀{ds:-Rc},Mv n xs=U ds->Aa1 h m.Ae ds n:=λe=>y.2.2.1.reads (λx s {Z _ _}=>p x s) e;cases k with
   |aT=>
    calc ae (bD e) λds AW A3=>?_;have q:=key AW;calc aE y.2.1 λo f A4 c=>ak c λj c=>ak q.1 λas g=>?_;rw[y.1,<-A3];calc {{as,.tuple f A4 c g},by rw[PyData.canLay0];exact q.2,by rw[PyData.depth];calc GX q.3}
   |Bo=>
    calc ae (bD e) λds AW A3=>?_;have q:=key AW;calc aE (Heap.PlainList.isList y.2.1) λo f A4 c=>ak c λj c=>ak q.1 λas g=>?_;rw[y.1,<-A3];calc {{m.a::as,.list f A4 c g},by rw[PyData.canLay0];exact q.2,by rw[PyData.depth];calc GX q.3}
   |_=>delta e) λt l n v a d e y=>by
  have y:=((A9.dN l).mp y).1;cases (t)with
  |none=>cases e;calc {{[],y⊂.none},rfl,C9 _}|b3 b=>cases e;calc {{[],y⊂.bool b},rfl,C9 _}|au i=>delta e;calc ak y λt q=>{{[],q⊂.int i t},rfl,C9 _}
  |aZ x=>delta e;calc ak y.1 λt q=>{{[],q⊂.str x t},y.2,C9 _}
  |QE=>induction n<;>delta e|ab=>calc ar rfl (l _ _ _)
end
section
variable{AE:-Rc}
def BL.reads(e:FP n t=U d)(y:BL z hs h t AJ v):Yq h v d n:=ae y λZ y Z=>A9.reads t e y
def A5.bw(z:A5)(h:n<=100):z.V.A.units+n<IJ:=DG (Du (h\∅) _) z.V.Eb.u
def Pw.reads{G:Prop}(Ag:FP 8 t1=U d)(c:FP 8 FN=U e)(W:Pw z s0 s1 s t1 Ey v1 FN Ep v2)(k:∀as bs,Reads s.heap v1 d as->Reads s.heap v2 e bs->d.canLay0=Y->e.canLay0=Y->z.V.A.units+min d.depth e.depth<IJ->G):G:=
 have a:=W.cD.reads Ag;have b:=W.7.reads c
 ak a.1 λc f=>ak b.1 λd g=>k c d f g a.2 b.2<|z.bw<|sI _ _\(a.3\∅)
def kO(Ag:FP 8 t1=U d)(a:FP 8 FN=U e)(q:Q (PyData.eqv d e)):Lv z (I0 .Eq) t1 Ey FN Ep Q:=λd e s h i W=>
 W.reads Ag a λa d b c e f g=>SeqAt.compareEq_reads b c e f g {_,rfl,q,.bk}
def uG(Ag:FP 8 t1=U d)(a:FP 8 FN=U e)(q:Q (!PyData.eqv d e)):Lv z (I0 .NotEq) t1 Ey FN Ep Q:=λd e s h i W=>
 W.reads Ag a λa d b c e f g=>SeqAt.compareNe_reads b c e f g {_,rfl,q,.bk}
def k0(Ag:FP 8 t1=U d)(f:Mv 8 Al=U AE)(q:Q (AE.any λe=>PyData.eqv e d)):Lv z (I0 .In) t1 Ey (.ab (S9 b) o Al) Ep Q:=λs0 s1 s v1 v2 W=>by
 have a:=W.cD.reads Ag;have g:z.V.A.units+1+min (PyData.depthAll AE) d.depth<IJ:=El ..⊂z.bw (Du (Vb _ _\a.3) 1\∅);calc ak a.1 λas h=>?_;cases b with
 |true=>
  have b:=BL.reads (t:=.ab .aT o Al) (n:=9) (ah (Lo PyData.tuple) f) W.7;calc ak b.1 λd c=>SeqAt.in_tuple_reads c h (by have:=b.2;rwa [PyData.canLay0] at this) a.2 g {_,rfl,q,.bk}
 |false=>
  have b:=BL.reads (t:=.ab .Bo o Al) (n:=9) (ah (Lo PyData.list) f) W.7;calc ak b.1 λd c=>SeqAt.in_list_reads c h (by have:=b.2;rwa [PyData.canLay0] at this) a.2 g {_,rfl,q,.bk}
def uH(H:Lv z (I0 .In) t1 Ey FN Ep λb=>Q<|!b):Lv z (I0 .NotIn) t1 Ey FN Ep Q:=λg h s i j W l p a=>by
 have Ag:=H g h s i j W l p a
 change Sem.wp _ l (contains j i>>=λb=>pure<|Value.bool b) _ _ p s at Ag
 show Sem.wp _ l (contains j i>>=λb=>pure<|Value.bool<|!b) _ _ p s;rw[Sem.wp_bind'] at Ag⊢;calc Sem.wp_mono _ l _ (λb d a c=>aE c λf e q K=>{!b,rfl,Value.bool.inj e⊂q,K}) (λZ Z Z a=>a) p s Ag
end
def T.RA:T->Bool
 |.none=>Y|_=>Ab
def VU(e:A2):Bool:=!(Qs e.ctorIdx 0||Qs e.ctorIdx 5||Qs e.ctorIdx 15)&&if h:e.ctorIdx=3 then Expr.UnaryOp.elim e h λo Z Z=>!Qs o.ctorIdx UnaryOp.Not.ctorIdx else Y
def uI(h:VU e=Y)(env:Env)(a:Sem Aw):isTrue e env a=(do let v<-a;XY e.pos;holding [v] (truthy v)):=by
 cases (e)with
 |UnaryOp op x pos=>induction op<;>first|rfl|delta h
 |BoolOp=>delta h|IfExp=>delta h|Compare=>delta h|_=>rfl
def uL(v:Aw)(h:Q (.bool<|!(v==.none)) s):Ba M A (I0 .IsNot v .none) Q E s:=by show Ba M A (do return .bool !(<-isSame v .none)) Q E s;rw[isSame_none];calc AL<|Bn<|Bn h
section
variable{Q:Bool->Prop}
def hK(y:BL z hs h t AJ v):(v==Pf)=t.RA:=ae y λf y Z=>by
 cases (t)with
 |ab k o xs=>calc ae y λn q Z=>q⊂rfl|au i=>calc ak y.1 λZ q=>q⊂rfl|aZ i=>calc ak y.1.1 λZ q=>q⊂rfl|none=>rw[show v=.none from y.1];rfl|b3 b=>rw[show v=.bool b from y.1];rfl|QE=>rw[show v=.ref z.Aa.P from y.1.1];rfl
def k1{VV:Bool->Bool}(a:sG op (.Constant .none n pos')=Ab)(b:∀{M:Qq} {A:EI} {E:Aw->AM->Prop} {s:AM} (v:Aw) (Q:Aw->AM->Prop),Q (.bool<|VV<|v==.none) s->Ba M A (I0 op v .none) Q E s)(H:BM z l λt Z=>Q<|VV t.RA):BT z (.Compare l [op] [.Constant .none n pos'] pos) Q:=⟨
 (λs R=>sH (H.aG R λv a t c q S y=>Va<|b v _ (by rw[hK y];calc {_,.AU,.mk q,S,BL.eM})) a),
 (λs R=>AiL (H.aG R λv a t c q S y=>Va<|b v _ (by rw[hK y];calc SE {S,q})) a)⟩
def uM(H:BM z l λt Z=>Q t.RA):BT z (.Compare l [.Is] [.Constant .none n pos'] pos) Q:=k1 (VV:=id) rfl (λZ Z h=>is_none h) H
def uN(H:BM z l λt Z=>Q<|!t.RA):BT z (.Compare l [.IsNot] [.Constant .none n pos'] pos) Q:=k1 rfl (λv Z h=>uL v h) H
def BM.gs(H:BM z e (Yp Q))(R:AY z s)(q:∀b s',Q b->CJ z s s'->P (.bool b) s'):Ba (Dw z) z.V.A (D4 e z.env) P E s:=
 H.aG R λv a t c p=>p.rec λ{b _} p S y=>y.b3⊂q b a p S
def uP(a:VU e=Y)(H:BM z e (Yp Q)):BT z e Q:={H,λs R=>isTrue_plain (H.gs R λb a q S=>SE {S,q})<|uI a _ _}
def uQ(H:BT z x λb=>Q<|!b):BT z (.UnaryOp .Not x pos) Q:=⟨
 (λs R=>UnaryOp_<|H.1.gs R λb a q S=>not_of<|SE {_,.AU,.mk q,S,BL.eM}),
 (λs R=>isTrue_not<|H.2.aG R λb a q S=>{S,q})⟩
def uR{Q:T->By->Prop}(H:BM z x λt Z=>t=.au i/\Q (.au<|Neg.neg i) .AU):BM z (.UnaryOp .USub x pos) Q:=λs R=>
 wpAny_UnaryOp (H.aG R λv a t b q S y=>ak (q.1▸y).au λa e=>by rw[e];calc PyProof.Rows.neg_int {_,_,q.2,S.aH<|S.2.bp .cb,BL.d1})
def Mt.then(R:AY z s)(S:CJ z s s1)(H:Mt z e Q):Ba (Dw z) z.V.A (isTrue e z.env<|D4 e z.env) (λb a=>CJ z s a/\Q b) (λZ Z=>False) s1:=H.aG S.2 λb c q a=>{S.aH a,q}
def BM.then{Q:T->By->Prop}(R:AY z s)(S:CJ z s s1)(H:BM z e Q):Ec z (D4 e z.env) (LU z s Q) s1:=CW (H s1 S.2) (λv a p=>p.fk R S) bu
def uS(H:BT z e Q):BT z (.BoolOp op [e] pos) Q:=⟨
 (λs R=>BoolOp_one<|H.1 s R),
 (λs R=>by
  cases op with
  |And=>calc isTrue_and (H.2.aG R λb a q S=>match b,q with|true,q=>isTrue_and_nil {S,q}|false,q=>{S,q})|Or=>calc isTrue_or (H.2.aG R λb a q S=>match b,q with|true,q=>{S,q}|false,q=>isTrue_or_nil {S,q}))⟩
def E2(op:PySem.BoolOp)(b:Bool)(P:Prop)(Q:Bool->Prop):Prop:=match op with
 |.And=>if b=Y then P else Q Ab|.Or=>if b=Y then Q Y else P
def uT(H:BT z e λb=>E2 op b (BT z (.BoolOp op (A3::rest) pos) Q) Q):BT z (.BoolOp op (e::A3::rest) pos) Q:=⟨
 (λs R=>by
  cases op with
  |And=>calc BoolOp_and<|H.1.gs R λb a q S=>SE (by induction b;calc {_,.AU,.mk q,S,BL.eM};calc BM.then R S q.1)|Or=>calc BoolOp_or<|H.1.gs R λb a q S=>SE (by induction b;calc BM.then R S q.1;calc {_,.AU,.mk q,S,BL.eM})),
 (λs R=>by
  cases op with
  |And=>calc isTrue_and (H.2.aG R λb a q S=>by induction b;calc {S,q};calc Mt.then R S q.2)|Or=>calc isTrue_or (H.2.aG R λb a q S=>by induction b;calc Mt.then R S q.2;calc {S,q}))⟩
def uW{Q:T->By->Prop}(H:Mt z c λx=>if x=Y then BM z b Q else BM z o Q):BM z (.IfExp c b o pos) Q:=λs R=>
 IfExp_ (H.aG R λx a q S=>by induction x;calc BM.then R S q;calc BM.then R S q)
end
def Kk:T->↥Fo
 |.aZ x=>U<|.s x|.au i=>U<|.i i|_=>Ai
def Ta:-T->↥↑Fo
 |[]=>U []|t::Av=>(Kk t).bind λp=>(Ta Av).map (p::·)
def T.VJ:T->↥Str
 |.aZ i=>U i|_=>Wl
def T.AdK:T->↥↑T
 |.ab .aT _ xs=>U xs|_=>Wl
def Mw(t:T):↥BE:=(t.VJ.map .s).or<|t.AdK.bind λa=>(Ta a).map .t
def Fo.Hu:Fo->T
 |.s x=>.aZ x|.i n=>.au n
def BE.Hu:BE->T
 |.s x=>.aZ x|.t xs=>.aT<|xs.map Fo.Hu
noncomputable def BE.b7:BE->BE->Bool
 |.s _,.s _=>Y|.t _,.t _=>Y|_,_=>Ab
def CK:-BE->BE->↥Nat
 |[],_=>Ai|a::ag,k=>if k=a then U 0 else(CK ag k).map (·+1)
def I4(k:BE)(ag:-BE):Bool:=ag.all<|BE.b7 k
def Mx(ag:-BE)(Av:-T)(k:BE):↥T:=(CK ag k).bind (Av[·]?)
def NI(Aa:C0)(h:BX):BE->Aw->Prop
 |.s x,v=>(∃t,v=.str x t)/\PyData.strOk x=Y|.t xs,v=>(∃a,v=.ref a/\(M0 Aa).is h xs a)/\xs.all S2=Y
def bf[Decidable c](h:(if c then U a else Ai)=U r):c/\a=r:=by
 by_cases q:c;·rw[ao q] at h;exact {q,BQ h}
 ·rw[ai q] at h;delta h
def c8[Decidable c](h:(if c then a else Ai)=U r):c/\a=U r:=by
 by_cases q:c;·rw[ao q] at h;exact {q,h}
 ·rw[ai q] at h;delta h
section
variable{Aa:C0}{M:As->Prop}{h:BX}{k:BE}{v:Aw}{t:T}
def uX(e:Kk t=U p)(y:A9 Aa M h t v AO):(Kd Aa.De Aa.w).is p v=Y/\S2 p=Y:=by
 cases (t)with
 |aZ a=>calc ak y.1.1 λb q=>BQ e∣{q▸beq_self_eq_true a,y.1.2}|au i=>calc ak y.1 λa q=>BQ e∣{q▸beq_self_eq_true i,rfl}|_=>delta e
def k2:∀{xs:-T} {AN:-Fo} {Ae:-Aw} {AO:-As},Ta xs=U AN->Bl Aa M h xs Ae AO->ItemsAre (Kd Aa.De Aa.w) AN Ae/\AN.all S2=Y
 |[],_,_,_,e,y=>by rw[<-BQ e,y.1];calc {.nil,rfl}|t::Av,AN,Ae,AO,e,⟨c,y⟩=>ae (dh e) λp b e=>ae (bD e) λa c e=>by have r:=k2 c y.2.2;have q:=uX b y.2.1;rw[<-e,y.1.1];calc {.cons q.1 r.1,bc {q.2,r.2}}
def k3(e:Mw t=U k)(y:A9 Aa M h t v AO):NI Aa h k v:=by
 clear Aa M h k v t AO _ e y;cases (t)with
 |aZ x=>calc BQ e∣y.1|ab Cr o xs=>cases Cr with
  |aT=>exact ae (bD e) λe f g=>ak y λn y=>ak y.2.1 λb z=>ak z.2.2 λc d=>
    have q:=k2 f y.2.2.1
    g▸{{n.a,y.1,b,_,c,z.1,z.2.1,d,q.1},q.2}
  |_=>delta e
 |_=>delta e
def gu:CK (a::ag) k=if k=a then U 0 else(CK ag k).map (·+1):=rfl
def gv:∀{ag:-BE} {i:Nat},CK ag k=U i->ag[i]?=U k
 |a::ag,i,e=>by
  rw[gu] at e;by_cases q:k=a;·rw[ao q] at e;exact BQ e▸rwl q rfl
  ·rw[ai q] at e;calc ae (bD e) λj a b=>b∣gv (ag:=ag) a
def k4:∀a:-(Str×Aw),valueAt a x=(CK (a.map λp=>BE.s p.1)<|.s x).bind ((a.map (·.2))[·]?)
 |[]=>rfl|p::a=>by
  rw[HI,gu];by_cases q:p.1=x;·rw[ao<|ah BE.s q.symm];exact ah (Lo Qu)<|sL<|aJ q
  ·rw[ai λe=>q (BE.s.inj e).symm,sM];calc ah (Lo Qu) (j1 λz=>q<|aL z)^k4 a
def k5:∀xs:-(-Fo×As×Aw),(atKey xs x).map (·.2)=(CK (xs.map λp=>BE.t p.1)<|.t x).bind ((xs.map (·.2.2))[·]?)
 |[]=>rfl|p::xs=>by
  rw[HI,gu];by_cases q:p.1=x;·rw[ao<|ah BE.t q.symm];exact ah (Lo Qu)<|ah (Lo Qu)<|sL<|aJ q
  ·rw[ai λe=>q (BE.t.inj e).symm,sM];calc ah (Lo Qu) (ah (Lo Qu)<|j1 λz=>q<|aL z)^k5 xs
def k6(y:Pairs (PySem.strKind Aa.De Aa.w) l []):l=[]:=by cases y;rfl
def uK(D:S3 Aa h ag a Ae []):Yi Aa h ag a Ae []:=by clear Aa h ag a Ae _ D;calc⟨bI D.1 λo a c q=>have b:=q.2.2.2.1;{o,a,c,q.1,q.2.1,q.2.2.1,λe d=>ar (b▸AiM.mpr d) CR,b⊂.nil,.nil},D.2,D.3,λZ h=>ar h CR⟩
def uZ(D:Yi Aa h ag a Ae []):S3 Aa h ag a Ae []:={bI D.1 λo a b q=>{o,a,b,q.1,q.2.1,q.2.2.1,k6 q.2.2.2.2.1,λZ h=>ar h CR,.nil},D.2,D.3,λZ h=>ar h CR}
def Eo.aI{P:Prop}(D:Eo Aa h ag a Ae)(Ax:NI Aa h k GV)(d:I4 k ag=Y)
  (hs:∀x t b,Yi Aa h ag a Ae b->k=.s x->GV=.str x t->valueAt b x=(CK ag k).bind (Ae[·]?)->P)
  (f:∀AN c xs,S3 Aa h ag a Ae xs->k=.t AN->GV=.ref c->(M0 Aa).is h AN c->(atKey xs AN).map (·.2)=(CK ag k).bind (Ae[·]?)->P):P:=by
 cases k with
 |s x=>
  calc ak Ax.1 λt e=>?_;have go:=λb D=>hs x t b D rfl e (by rw[D.2,D.3];calc k4 b);calc D.elim (λD=>ak D go) λD=>ak D λxs D=>?_;cases xs using List.casesOn with
  |nil=>calc go []<|uK D|cons p xs=>rw[D.2] at d;delta d
 |t AN=>
  calc ae Ax.1 λc e q=>?_;have go:=λa D=>f AN c a D rfl e q (by rw[D.2,D.3];calc k5 a);calc D.elim (λD=>ak D λb D=>?_) λD=>ak D go;cases b using List.casesOn with
  |nil=>calc go []<|uZ D|cons p b=>rw[D.2] at d;delta d
def fp{t:Tok}:(PySem.strKind Aa.De Aa.w).is x (.str x t)=Y:=beq_self_eq_true x
def Eo.bj(D:Eo Aa h ag a Ae):J Ae=J ag:=D.elim (λD=>ak D λZ D=>by rw[D.2,D.3,Bq,Bq]) λD=>ak D λZ D=>by rw[D.2,D.3,Bq,Bq]
variable{E:Aw->AM->Prop}
def k7{i:Nat}(D:Eo Aa s.heap ag a Ae)(Ax:NI Aa s.heap k GV)(d:I4 k ag=Y)(e:CK ag k=U i)(A8:Ae[i]?=U v)(f:A.units+1<IJ)(q:∀n,Q v {s with toks:=n}):Ba (BK Aa.De Aa.w) A (getItem (.ref a) GV) Q E s:=by
 have A3:(CK ag k).bind (Ae[·]?)=U v:=by rw[e];exact A8
 refine D.aI Ax d (λx t j D Z AW b=>?_) λAN c xs D Z AW A4 b=>?_
 ·rw[AW];exact wpAny_getItem_of fp D.1.mapOf (b^A3)<|q _
 ·rw[AW];calc ae (bD<|b^A3) λp g a=>wpAny_getItem_heap f A4 D.1 g<|a⊂q _
def uY(d:(a==MZ)=Ab)(D:Eo Aa s.heap ag a Ae)(Ax:NI Aa s.heap k GV)(g:I4 k ag=Y)(j:A.units+1<IJ)(q:∀n,Q (.bool (CK ag k).isSome) {s with toks:=n}):Ba (BK Aa.De Aa.w) A (I0 .In GV<|.ref a) Q E s:=by
 have e:((CK ag k).bind (Ae[·]?)).isSome=(CK ag k).isSome:=by
  cases e:CK ag k with
  |none=>rfl|some i=>exact Vc.mpr {_,Dv<|D.bj⊂bK (gv e)}
 refine D.aI Ax g (λx t l D Z AW b=>?_) λAN c xs D Z AW A4 b=>?_
 ·rw[AW];exact wpAny_in_of (knd:=PySem.strKind Aa.De Aa.w) fp d D.1.mapOf<|b▸rwr e (q _)
 ·rw[AW];calc wpAny_in_heap (knd:=M0 Aa) j A4 d D.1 ?_;rw[<-j2 (f:=Qu) (x:=atKey xs AN),b,e];calc q _
def uU{R:Qv->AM->Prop}(e:(a==MZ)=Ab)(D:Eo Aa s.heap ag a Ae)(Ax:NI Aa s.heap k GV)(f:I4 k ag=Y)(g:A.units+1<IJ)(q:∀n,R (.ok (.ret (((CK ag k).bind (Ae[·]?)).getD d))) {s with toks:=n}):
  ∃S,MeetsIn Aa.De Aa.w (Builtin.«dict.get» {[.ref a,GV,d],[]}) S/\S A R s:=by
 refine D.aI Ax f (λx t i D Z AW b=>?_) λAN c xs D Z AW A4 b=>?_
 ·rw[AW];exact {_,meets_dict_get_default (PySem.strKind Aa.De Aa.w) a fp e d,_,D.1.mapOf,b⊂q _}
 ·rw[AW];calc {_,meetsH_dict_get_default (M0 Aa) a c e d,g,AN,xs,A4,D.1,b⊂q _}
end
def Px(e:A2):Bool:=Qs e.ctorIdx 26
def eS(h:Px slice=Ab)(o i:Aw):subscripted slice Ab o i=operate [o,i] (getItem o i):=by cases slice<;>first|rfl|delta h
section
variable{pos:Pos}
def BL.aI(y:BL z hs h t AJ v)(e:Mw t=U k):NI z.Aa h k v:=ae y λZ y Z=>k3 e y
def uV{Q:Bool->Prop}(e:Mw t1=U k)(a:I4 k ag=Y)(q:Q (CK ag k).isSome):Lv z (I0 .In) t1 Ey (.ab (.Dh ag) o Av) Ep Q:=λc d s f g W=>
 a6 W.7.Dg λn b D y Z=>by rw[b];calc uY D.1 D.2 (W.cD.aI e) a (z.bw ∅) λn=>{_,rfl,q,.cb}
def uJ(a:Px slice=Ab)(H:BM z value λa b=>BM z slice λc d=>GU z (Vd value slice) a b c d Q):BM z (.Subscript value slice pos) Q:=hX j3 H
def gw(d:Px slice=Ab)(a:0<=i)(Ag:i<2^63)(e:xs[i.toNat]?=U x)(q:Q x Ey):GU z (Vd value slice) (.ab (S9 b) o xs) Ey (.au i) Ep Q:=λg h s j l W=>
 ak W.7.au λu h=>a6 W.cD.Dg λn j l y Z=>ae (y.dw e) λw f y=>by
  have c:n.Ae.toArray[i.toNat]?=U w:=by rw[Wm];exact f
  have aR:∀{tk:Nat},Rz z g s Q w {s with toks:=tk}:={_,_,q,.cb,y}
  rw[j,h];cases b with
  |false=>calc SH (Heap.PlainList.isList l).typeIs sN.lookup (j4 (Heap.PlainList.isList l) a Ag c aR)<|eS d _ _|true=>calc SH (IsTup.typeIs l) PySem.F.slot_tuple_getitem.lookup (getItem_tuple l (j5 ∅ a) Ag (seqIndex_of a (by rw[AiN a|>.symm];calc Nx.mpr (Array.getElem?_eq_some_iff.mp c).1)) c aR)<|eS d _ _
def uO(a:Px slice=Ab)(e:Mw FN=U k)(b:I4 k ag=Y)(c:CK ag k=U j)(d:Av[j]?=U x)(q:Q x Ey):GU z (Vd value slice) (.ab (.Dh ag) o Av) Ey FN Ep Q:=λi j s l m W=>
 a6 W.cD.Dg λn i j y Z=>ae (y.dw d) λw f y=>ae j.2.cC λg d h=>by rw[i];calc SH {g,d,h.1} slot_dict_getitem.lookup (k7 j.2 (W.7.aI e) b c f (z.bw ∅) λn=>{_,_,q,.cb,y})<|eS a _ _
def k8:BL z hs h (.au i) AJ (.int i tk):={[],{{_,rfl},rfl},E1.nil AJ}
def u0(b:Px slice=Ab)(h:i=0\/i=1)(q:∀j:Nat,Q (.au j) Ey):GU z (Vd value slice) .QE Ey (.au i) Ep Q:=λs0 s1 s v1 v2 W=>
 ak W.7.au λu A3=>ae W.cD λf y Z=>a4 (W.2.3 y.1.2) λn c p=>a4 p λLs NB a=>by
  rw[A3,show v1=.ref z.Aa.P from y.1.1];calc SH a.typeIs sN.lookup ?_<|eS b _ _;rcases h with h|h
  ·rw[h];exact j4 a ∅ ∅ (x:=.int n Ls) rfl {_,_,q n,.cb,k8}
  ·rw[h];calc j4 a ∅ ∅ (x:=.int c NB) rfl {_,_,q c,.cb,k8}
end
def Aa2(K:Gd)(C:As):Prop:=Mo
 (plainGet K C ""=Y)
 (hasDictIn K C=Y)
 (H4 K (.ref C) "__setattr__"=U (U<|.builtin "object.__setattr__"))
 (plainOver K C=Y)
 (makesIn K C=Y)
def DY(Aa:C0):Prop:=Pr
 (Aa.K.In Aa.Cx)
 (Aa.Cx.NoLimit)
 (∃o,Aa.Cx.get? MZ=U o)
 (∃mg,Aa.Cx.Ns Ed mg/\(∀x∈Pt,mg x=Ai)/\(∀x v,(x,v)∈Aa.G->mg x=U v)/\∀x t,(x,t)∈Aa.GT->∃v,mg x=U v/\∀M:As->Prop,(∀a,M a->Aa.Cx.get? a=Ai)->A9 Aa M Aa.Cx t v [])
 (∃mb,Aa.Cx.Ns Ip mb/\∀x:Str,x≠"__name__"->mb x=SI x)
 (∀c C,ND c=U C->Aa2 Aa.K C)
 (∀c C k,ND c=U C->HM c k=Y->H4 Aa.K (.ref C) (En k)=U Ai)
def k9:∀i j:Nat,i<17->j<17->En i=En j->i=j:=
 have:∀i:Fin 17,∀j:Fin 17,En i=En j->i=j:=by decide+kernel
 λi j a b e=>ah Fin.val<|this {i,a} {j,b} e
def F1:-Nat->Nat->↥Nat
 |[],_=>Ai|a::ag,k=>if k=a then U 0 else(F1 ag k).map (·+1)
def My(e:A2):Bool:=Qs e.ctorIdx 20||Qs e.ctorIdx 21||Qs e.ctorIdx 23
def dS(h:My o=Y)(b:Str)(env:Env)(a:Sem Aw):attributeBase o b env a=a:=by cases o<;>first|rfl|delta h
section
variable{E:Aw->AM->Prop}
def A9.gx(y:A9 Aa M h t v AO):handedIn v=Y:=by
 cases (t)with
 |ab k o xs=>calc ae y λn q Z=>q⊂rfl|au i=>calc ak y.1 λZ q=>q⊂rfl|aZ i=>calc ak y.1.1 λZ q=>q⊂rfl|none=>rw[show v=.none from y.1];rfl|b3 b=>rw[show v=.bool b from y.1];rfl|QE=>rw[show v=.ref Aa.P from y.1.1];rfl
def BL.gx(y:BL z hs h t AJ v):handedIn v=Y:=ae y λZ y Z=>y.gx
def hZ:F1 (a::ag) k=if k=a then U 0 else(F1 ag k).map (·+1):=rfl
def la:∀{as:-Nat} {AE:-LS} {i:Nat},n<17->QF as AE->F1 as n=U i->∃e,AE[i]?=U e/\AE.find? (λe=>e.key.isStr<|En n)=U e
 |a::ag,AE,i,b,⟨e,y⟩,h=>ak y.2.1 λg i=>by
  rw[hZ] at h;rw[y.1];by_cases q:n=a;·rw[ao q] at h;exact {e.1,BQ h∣rfl,sL (by rw[i,q];calc beq_self_eq_true<|En a)}
  ·rw[ai q] at h;calc ae (bD h) λj a e=>ae (la b y.2.2.2 a) λc d f=>{c,e∣d,j1 (by rw[i];calcλz=>q<|k9 _ _ b y.2.2.1 (eq_of_beq z).symm)^f}
def lb(h:HM c k=Y):k<17:=(cW h).elim (λh=>DQ (aL<|fe h) ∅) λh=>aL<|fe h
def lg(ok:DY z.Aa)(R:AY z s)(b:HM c n=Y)(h:F1 as n=U i)(Ax:(DR.DM c as).at z.Aa s.heap ab)(f:ab.Ae[i]?=U u)(g:handedIn u=Y)(q:∀tk,Q u {s with toks:=tk}):Ba (Dw z) z.V.A (getAttr (.ref ab.a) (En n) Y) Q E s:=
 bI Ax λi j m I=>ae (la (lb b) I.5 h) λe l o=>ak R.cc λp F=>by have c:=ok.6 _ _ I.1;rw[I.4,Gw,l] at f;calc get_own F ok.1 ({I.2,rfl,rfl,I.3}:InstAt s.heap ab.a (instObj i ab.d) i (U<|Wn j.toList m)) c.1 c.2 (ok.7 _ _ n I.1 b) rfl (by unfold getL;rw[o];calc ah (λx=>U<|U x)<|BQ f) g (q _)
def u1(ok:DY z.Aa)(R:AY z s)(a:HM c n=Y)(h:F1 as n=U i)(b:xs[i]?=U x)(y:BL z hs s.heap (.ab (.DM c as) o xs) AJ v)(q:∀u tk,BL z hs s.heap x AJ u->Q u {s with toks:=tk}):Ba (Dw z) z.V.A (getAttr v (En n) Y) Q E s:=
 a6 y.Dg λc e f y Z=>ae (y.dw b) λu d y=>e▸lg ok R a h f d y.gx λa=>q u a y
inductive VO(n:Nat)(Q:T->By->Prop):T->By->Prop
 |mk {c:Nat} {as:-Nat} {o:Bool} {xs:-T} {AJ:By} {i:Nat} {x:T} (a:HM c n=Y) (h:F1 as n=U i) (b:xs[i]?=U x) (q:Q x AJ):VO n Q (.ab (.DM c as) o xs) AJ
def u2{Q:T->By->Prop}(ok:DY z.Aa){o:A2}(a:My o=Y)(H:BM z o (VO n Q)):BM z (.Attribute o (En n) pos) Q:=λs R=>
 Attribute_any_ (H.aG R λv s1 t AJ q S y=>by
  cases q with
  |mk b h c q=>calc u1 ok S.2 b h c y λu tk y=>{_,_,q,S.aH<|S.2.bp .cb,y}) (by rw[arm_eval_Attribute,dS a])
end
def Aa3(z:A5)(s0 s:AM):Prop:=Dy
 (AY z s)
 (H9 z s0.heap)
 (Hh s0.heap s.heap)
def Mz(z:A5)(EN:Aw)(t:T)(m:By)(Q:T->By->Prop):Prop:=∀s0 s v,Aa3 z s0 s->BL z s0.heap s.heap t m v->Ec z (Iq EN [v]) (Rz z s0 s Q) s
def I5:-A2->Bool
 |[]=>Y|e::AE=>!HQ e&&I5 AE
def gy:I5 (e::AE)=(!HQ e&&I5 AE):=rfl
def Tb:Aw->Bool
 |.builtin _=>Y|.type _=>Y|_=>Ab
section
variable{s:AM}{pos:Pos}{env:Env}{AE:-A2}{e:A2}{A:EI}{E:Aw->AM->Prop}{Q:Aw->AM->Prop}
def eT(h:I5 (e::AE)=Y):HQ e=Ab/\I5 AE=Y:=have h:=bQ h;{EJ _∣h.1,h.2}
def eW:∀{AE:-A2},I5 AE=Y->(SG pos<|Qr AE env).any (·.1)=Ab
 |[]=>λZ=>rfl|e::AE=>λh=>by rw[cf (eT h).1];calc eW (eT h).2
def gz(c:Tb EN=Y)(a:I5 (e::AE)=Y)(h:Ba M A (spliced<|SG pos<|Qr (e::AE) env) (λa d=>Ba M A (Iq EN a) Q E d) E s):
  Ba M A (callWith pos EN [] (SG pos<|Qr (e::AE) env) []) Q E s:=by
 clear s pos env AE e A E Q EN M _ c a h;have b:=eW (pos:=pos) (env:=env) a;rw[cf (eT a).1] at h b⊢;cases EN with
 |builtin id=>calc j6 b<|j7 h|type T=>calc PySem.callWith_type b<|j7 h|_=>delta c
def lh:∀x∈Pt,x≠"__name__"/\(x==("__debug__":Str))=Ab:=by decide
def A5.fq(z:A5)(x:Str):z.env.scope.names.lookup x=z.V.C.BN.names.lookup x:=ah (λs:Dz=>s.names.lookup x) z.V.BN
def hY(ok:DY z.Aa)(b:z.V.C.BN.names.lookup x=U .globalImplicit)(a:x∈Pt)(A8:SI x=U EN)(R:AY z s)(q:Q EN s):Ba (Dw z) A (D4 (.Name x p) z.env) Q E s:=
 ae ok.4 λe c g=>ae ok.5 λe d f=>
  ZW z.V.Hf (z.fq x^b) (loadGlobal_builtin (z.V.NH⊂c.keeps R.1) (g.1 x a) (z.V.S6⊂d.keeps R.1) (f x (lh x a).1^A8) q) (lh x a).2
def hU(ok:DY z.Aa)(a:z.V.C.BN.names.lookup x=U .globalImplicit)(b:(x,EN)∈z.Aa.G)(c:(x==("__debug__":Str))=Ab)(R:AY z s)(q:Q EN s):Ba (Dw z) A (D4 (.Name x p) z.env) Q E s:=
 ae ok.4 λe d f=>ZW z.V.Hf (z.fq x^a) (j8 (z.V.NH⊂d.keeps R.1) (f.2.1 x _ b) q) c
def u3{Q:T->By->Prop}(ok:DY z.Aa)(c:z.V.C.BN.names.lookup x=U .globalImplicit)(d:(x,t)∈z.Aa.GT)(f:(x==("__debug__":Str))=Ab)(q:Q t .AU):BM z (.Name x p) Q:=λs R=>
 ae ok.4 λi g j=>ae (j.2.2 x t d) λv d h=>ZW z.V.Hf (z.fq x^c) (j8 (z.V.NH⊂g.keeps R.1) d
  {_,_,q,R.bk,[],(h z.M λa b=>b.elim (z.V.Ht a) λb=>(R.4 a b).1).bg λa o e Z=>R.1 a o e,E1.nil .AU}) f
def u4{Q:T->By->Prop}(ok:DY z.Aa)(b:z.V.C.BN.names.lookup x=U .globalImplicit)(c:x∈Pt)(A8:SI x=U EN)(d:Tb EN=Y)(a:HQ e=Ab)(H:BM z e λt m=>Mz z EN t m Q):BM z (.Call (.Name x p) [e] [] pos) Q:=λs R=>
 Call_ (hY ok b c A8 R<|gz d (by rw[gy,a];rfl)<|Rd (H.aG R λv a t b q S y=>Wk<|CW (q s a v {S.2,R.bb,R.bq S.1} y) (λv a p=>p.rec λt b q K y=>{t,b,q,S.aH<|S.2.bp K,y}) bu)<|cf a)
variable{Q:T->By->Prop}
def lj(d:Fs xs=Y)(q:Q (.au<|J xs) .AU):Mz z (.builtin "len") (.ab (S9 b) o xs) m Q:=λe s v S y=>a6 y.Dg λn f g y Z=>by
 have c:n.Ae.toArray.size=J xs:=y.bo;have aR:∀tk j,Rz z e s Q (.int n.Ae.toArray.size tk) {s with toks:=j}:=λa j=>{_,_,q,.cb,c∣BL.d1}
 have a:n.Ae.toArray.size<=1000000:=c⊂el d;have a:(n.Ae.toArray.size:Int)<2^63:=ZX (Qw.mpr a) ∅;rw[f];cases b with
 |false=>calc PyProof.Rows.len_list (Heap.PlainList.isList g) a<|aR _ _|true=>calc PyProof.Rows.len_tuple g a<|aR _ _
def u5(q:Q (.au i) .AU):Mz z (.type "int") (.au i) m Q:=λa s v S y=>ak y.au λa e=>e⊂call_int_int {_,_,q,.bk,BL.d1}
def u6(q:Q (.au<|if b=Y then 1 else 0) .AU):Mz z (.type "int") (.b3 b) m Q:=λa s v S y=>y.b3⊂call_int_bool {_,_,q,.cb,BL.d1}
def u7(q:Q (.au<|if i<0 then Neg.neg i else i) .AU):Mz z (.builtin "abs") (.au i) m Q:=λa s v S y=>ak y.au λa e=>e▸call_abs_int λu a=>{_,_,q,.cb,BL.d1}
def ll{n:Iy}(a:Fs xs=Y)(y:Dc z hs h xs AJ n.Ae):n.Ae.toArray.size<=H5:=d2 a y.bo
def lp(i:Fs xs=Y)(w:Pu b xs m AG)(q:Q (.Bo (!b) AG) (Fe b)):Mz z (.type "list") (.ab (S9 c) o xs) m Q:=λb s v S y=>a6 y.Dg λn e m y Z=>by
 have go:∀{T:String} {d:Obj},T="list"\/T="tuple"->s.heap.get? n.a=U d->d.cls=.type T->(∃c,d.data=.seq n.Ae.toArray c)->Ba (Dw z) z.V.A (Iq (.type "list") [.ref n.a]) (Rz z b s Q) (λZ Z=>False) s:=λ{T d} j l b f=>ak f λc f=>
  call_list_seq n.a j l b f (λa p m b=>have K:IA z s {s with heap:=a}:=.b5 m;{_,_,q,K,(y.Mu S.1 S.2 w).dP S.1 K S.2 S.3 {_,b}<|bU _}) (ll i y)
 rw[e];cases c with
 |false=>calc aE (Heap.PlainList.isList m) λd a g h=>go (.inl rfl) a g h|true=>calc aE m λd a g h=>go (.inr rfl) a g h
def u9(c:Fs xs=Y)(w:Pu b xs m AG)(q:Q (.aT AG) (Fe b)):Mz z (.type "tuple") (.Bo o xs) m Q:=λb s v S y=>a6 y.Dg λn b d y Z=>by
 rw[b];calc call_tuple_list (Heap.PlainList.isList d) (λb d=>have K:IA z s {s with heap:=b.push {cls:=.type "tuple",data:=.seq n.Ae.toArray}}:=.b5 λa o e=>D9 _<|d a o e;{_,_,q,K,(y.Mu S.1 S.2 w).fl S.1 K S.2 S.3 {_,Fn _ rfl,rfl,_,rfl}})<|ll c y
end
def NL(h:BX)(d:As)(AE:Array LS)(a:Nat):Prop:=∃o,h.get? d=U o/\o.ExactDict/\o.data=.dict AE a
def NL.fs(x:NL h d AE a)(k:∀o,h.get? d=U o->Ay.get? d=U o):NL Ay d AE a:=ae x λo b r=>{o,k o b,r}
section
variable{prog:Gu}{w:FH}{A:EI}{E:Aw->AM->Prop}{s:AM}
def NL.dj(x:NL s.heap d AE b):s.TypeIs (.ref d) "dict":=ae x λo a b=>{o,a,b.1.1}
def lq(f:(d==MZ)=Ab)(b:NL s.heap d AE g)
  (h:Q (.ref s.heap.objs.size) {s with heap:=s.heap.push {cls:=.type "dict_keyiterator",data:=.fields #[.ref d,.int 0 0,.int AE.size 0,.int g 0]}}):
  Ba (BK prog w) A (Pg<|.ref d) Q E s:=by
 obtain⟨o,c,A4,e⟩:=id b;have a:=b.dj;calc wpAny_pyIter_slot a PySem.F.slot_dict_iter<|MY PySem.F.slot_dict_iter a PySem.F.entry_dict_iter ?_<|PySem.F.args_dict_iter_1 _;calc AL<|AL<|sP a ?_;show Ba _ _ (pure<|Ir d) _ _ s;calc Bn ?_;show Ba _ _ (Builtin.Dict.showsAll d>>=_) _ _ s;unfold Builtin.Dict.showsAll;rw[ai (by rw[f];calc H3)];calc AL<|Bn ?_;calc AL<|XU c e ?_;calc AL<|Ve c e ?_;refine AL<|Ny<|Bn {_,rfl,"dict_keyiterator",_,{_,Fn _ rfl,rfl},PySem.F.slot_dict_keyiterator_next.lookup,?_}
 simpa [It] using h
def va(a:s.heap.IsKeyIter b d i AE.size c)
  (h:NL s.heap d AE c)(j:AE[i]?=U e)
  (l:∀Ay,Ay.IsKeyIter b d (i+1) AE.size c->Heap.SameBut b s.heap Ay->Q (U e.key) {s with heap:=Ay}):
  Ba (BK prog w) A (pyNext<|.ref b) Q E s:=by
 clear prog w A E s b _ d i c AE e Q _ a h j l;calc aE (id a) λo g A4 f=>aE (id h) λt m u p=>?_;refine AL (Vf (Wo a.typeIs PySem.F.slot_dict_keyiterator_next
  (MY PySem.F.slot_dict_keyiterator_next a.typeIs PySem.F.entry_dict_keyiterator_next ?_<|PySem.F.args_dict_keyiterator_next_1 _)))
 calc AL<|Bn ?_;refine AL<|AL ?_
 first|calc AL (j9 a.typeIs<|Bn ?_)|refine AL<|ka a.typeIs<|Bn ?_
 calc AL<|wpAny_fieldsOf g f ?_;have r:Builtin.Dict_items.ownsTuple "dict_keyiterator"=Ab:=by decide
 rw[ai (by rw[r];calc H3)];show Ba _ _ (if(Ir d==Pf)=Y then _ else _) _ _ s;rw[ai H3];calc AL<|Bn ?_;calc AL<|XU m p ?_;rw[ai<|by simp];calc AL<|Bn ?_;calc AL<|Ve m p ?_;rw[ai<|by simp];calc Bn ?_;dsimp only;rw[ai<|Rf.mpr<|Hr i,Wq,j];dsimp only;refine AL ?_
 first|calc AL (j9 a.typeIs<|Bn ?_)|refine AL<|ka a.typeIs<|Bn ?_
 calc AL<|AiP a.typeIs ?_;show Ba _ _ (setField (.ref b) 1 (It<|(i:Int)+1)>>=_) _ _ s;calc AL<|XJ g f (by simp) ?_;have q:(s.heap.update b (Obj.mapFields (·.setIfInBounds 1 (It<|(i:Int)+1)))).IsKeyIter b d (i+1) AE.size c:=
  {_,SM _ g<|Obj.isFreed_of_fields<|Obj.data_mapFields f _,Obj.cls_mapFields ..^A4,by rw[Obj.data_mapFields f];simp [It]}
 calc AL<|Lp ?_;calc AL<|AiP q.typeIs ?_;calc Bn<|Bn {_,rfl,Bn<|l _ q<|Heap.SameBut.update ..}
def vb(f:A.handled=Ai)(c:s.heap.IsKeyIter e d i AE.size g)
  (h:NL s.heap d AE g)(j:AE.size<=i)
  (l:∀Ay,Heap.ExtBut e s.heap Ay->Q Ai {s with heap:=Ay}):Ba (BK prog w) A (pyNext<|.ref e) Q E s:=by
 clear prog w A E s e _ d i g AE Q _ f c h j l;calc aE (id c) λo p A4 q=>aE (id h) λx r y t=>?_;refine AL (Vf (Wo (name:=Qo "__next__") c.typeIs PySem.F.slot_dict_keyiterator_next
  (MY PySem.F.slot_dict_keyiterator_next c.typeIs PySem.F.entry_dict_keyiterator_next ?_<|PySem.F.args_dict_keyiterator_next_1 _)))
 calc AL<|Bn ?_;refine AL<|AL ?_
 first|calc AL (j9 c.typeIs<|Bn ?_)|refine AL<|ka c.typeIs<|Bn ?_
 calc AL<|wpAny_fieldsOf p q ?_;have u:Builtin.Dict_items.ownsTuple "dict_keyiterator"=Ab:=by decide
 rw[ai (by rw[u];calc H3)];show Ba _ _ (if(Ir d==Pf)=Y then _ else _) _ _ s;rw[ai<|show¬((Ir d==Pf)=Y) from H3];calc AL<|Bn ?_;calc AL<|XU r t ?_;rw[ai<|by simp];calc AL<|Bn ?_;calc AL<|Ve r t ?_;rw[ai<|by simp];calc Bn ?_;dsimp only;rw[ai<|show¬(i:Int)<0 from Rf.mpr<|Hr i,Wq,kb j];dsimp only;refine AL ?_
 first|calc AL (j9 c.typeIs<|Bn ?_)|refine AL<|ka c.typeIs<|Bn ?_
 show Ba _ _ (setField (.ref e) 0 .none>>=_) _ _ s;calc AL<|XJ p q (by simp) ?_;calc AL ?_;simp only [newExc,newTuple];refine AL<|Ny ?_<|by size_fits
 calc AL (m:=ZK _ _)<|Ph (a:=Pf) (by first|rfl|(simp only [ZK];rfl)) ?_;refine Ny ?_<|by size_fits
 calc kc f ?_;calc AL<|Vg (T:="StopIteration") (b:=Y) {_,Fn _ rfl,rfl} isSubtype_stop ?_;calc Bn<|l _<|((Heap.SameBut.update ..).extBut.push _).push _
def lr(g:A.handled=Ai)(I d:As)(j:d≠I)(AE:Array LS)(c:Nat):
  Walks prog w A I [I,d] [I] AE.size (λi v=>∃e,AE[i]?=U e/\v=e.key) (λi h=>h.IsKeyIter I d i AE.size c/\NL h d AE c) where
 sub:=λb a=>by simp at a;simp [a]
 frame:=λZ Z Z a b=>{a.1.at λo e=>b I (by simp) o e,a.2.fs λo e=>b d (by simp) o e}
 item:=λi s Q E c g a=>by have f:=Wr c;exact va g.1 g.2 f λc l i=>a _ c s.toks {_,f,rfl} {l,g.2.fs λo e=>i.extBut d o j e} λb o a e=>i.extBut b o (λh=>a<|by simp [h]) e
 done:=λs Q E c a=>vb g c.1 c.2 (CE _) λc m=>a c s.toks λb o a e=>m b o (λh=>a<|by simp [h]) e
 self:=λZ Z Z Z b a=>wpAny_pyIter_keyiter b.1 a
def lu(BP:(d==MZ)=Ab):KdlSrc prog w "dict" d d AE.size (λi v=>∃e,AE[i]?=U e/\v=e.key) (λh=>NL h d AE f) where
 type:=λZ a=>a.dj
 there:=λZ a=>ae a λZ b Z=>{Gv b,Gv b}
 keep:=λZ Z a b=>a.fs λo e=>b d (.inl rfl) o e
 notList:=by decide
 notTuple:=by decide
 hint:=λZ Z Z Z a c=>kdl_hint_dict a.dj c
 iter:=λZ s g a=>{_,_,(λZ Z c=>lq BP a c),lr g _ d (ae a λZ b Z=>EX<|Gv b) AE f,{{_,Fn _ rfl,rfl,rfl},a.fs λo e=>D9 _ e}}
end
def lx{AE:Array LS}(h:ItemsOf (λi v=>∃e,AE[i]?=U e/\v=e.key) ay AE.size):ay.toList=AE.toList.map (·.key):=by
 apply List.ext_getElem?;intro i;by_cases a:i<AE.size
 ·have Ag:i<ay.size:=by rw[h.1];exact a
  calc ae (h.2 i ay[i]<|by rw[Wr Ag]) λe b A8=>?_;have:ay.toList[i]?=U ay[i]:=by rw[kd];exact Wr Ag
  rw[this,A8,Gw,kd,b];rfl
 ·have Ag:¬i<ay.size:=by rw[h.1];exact a
  rw[Ws<|by simpa using bM Ag,Ws<|by simpa using bM a]
section
variable{Ae:-Aw}
def vc(Ag:(Kd Aa.De Aa.w).is p v=Y)(e:S2 p=Y):A9 Aa M h p.Hu v []:=by
 cases p with
 |s y=>calc ak (sA Ag) λt a=>{{{t,a},e},rfl}
 |i n=>calc ak (AiG Ag) λt a=>{{t,a},rfl}
def Bl.eX(y:A9 Aa M h t v [])(z:Bl Aa M h Av Ae []):Bl Aa M h (t::Av) (v::Ae) []:={{v,Ae,[],[]},{rfl,rfl},y,z}
def vd(y:ItemsAre (Kd Aa.De Aa.w) AN Ae):AN.all S2=Y->Bl Aa M h (AN.map Fo.Hu) Ae []:=by
 cases y with
 |nil=>calcλZ=>{rfl,rfl}
 |cons Ag b a=>exactλe=>have e:=bQ e;.eX (vc Ag e.1) (a e.2)
def ve(y:Pairs (PySem.strKind Aa.De Aa.w) l a):(∀p∈a,PyData.strOk p.1=Y)->Bl Aa M h ((a.map λp=>BE.s p.1).map BE.Hu) (l.map (·.key)) []:=by
 cases y with
 |nil=>calcλZ=>{rfl,rfl}
 |cons Ag _ _ c=>calcλb=>ak (sA Ag) λt d=>.eX {{{t,d},b _<|.head _},rfl}<|c λp e=>b p<|.tail _ e
def vf(xs:-(-Fo×As×Aw)):(∀x∈xs,(M0 Aa).is h x.1 x.2.1)->(∀p∈xs,p.1.all S2=Y)->Bl Aa M h ((xs.map λp=>BE.t p.1).map BE.Hu) ((xs.map<|entryOfKey<|M0 Aa).map (·.key)) []:=by
 cases xs with
 |nil=>calcλZ Z=>{rfl,rfl}
 |cons x xs d=>calcλb c=>bI (b x<|.head _) λe f m w=>.eX {{x.2.1,0,f.toList,[]},rfl,{e,w.1,w.2.1,m,w.2.2.1},vd w.2.2.2<|c x<|.head _,rfl,λZ h=>ar h CR,λZ=>rfl}<|d (λy a=>b y<|.tail _ a) λy a=>c y<|.tail _ a
def vg{AE:Array LS}(e:AE.toList.map (·.key)=Ae)(y:Bl Aa M h Av Ae []):AE.size=J Av:=by rw[<-y.bo,<-e,Bq,Wt]
def Eo.raw{G:Prop}(D:Eo Aa h ag a Ae)(k:∀AE n,NL h a AE n->AE.size=J ag->(∀M,Bl Aa M h (ag.map BE.Hu) (AE.toList.map (·.key)) [])->G):G:=
 have aR:=λ{o a n} d b c y=>k a n {o,d,b,c} (vg rfl (y λZ=>False)^Bq ..) y
 D.elim (λD=>ak D λd D=>bI D.1 λo a n q=>aR q.1 q.2.1 q.2.2.1 λM=>D.2⊂ve q.2.2.2.2.1 D.4)
  λD=>ak D λa D=>bI D.1 λo b n q=>aR q.1 q.2.1 q.2.2.1 λM=>D.2▸rwr q.2.2.2.1 (vf a q.2.2.2.2.1 D.4)
end
section
variable{Q:T->By->Prop}
def Dc.aW(AJ:By)(y:∀M:As->Prop,Bl z.Aa M h Av Ae []):Dc z hs h Av AJ Ae:={[],y _,E1.nil AJ}
def vh(a:J ag<=1000000)(q:Q (.Bo Y<|ag.map BE.Hu) .AU):Mz z (.type "list") (.ab (.Dh ag) o Av) m Q:=λh s v S y=>a6 y.Dg λn i j Z Z=>j.2.raw λl f m b w=>by
 rw[i];exact kdl_call (lu j.1) z.V.Eb.1 m (by rw[b,Qt];calc a\∅) λa b c g f d e=>
  have K:IA z s {s with heap:=a,toks:=b}:=.b5 f;have y:Dc z h.heap s.heap (ag.map BE.Hu) (Fe Ab) c.toList:=.aW _ λM=>lx e⊂w M
  {_,_,q,K,y.dP S.1 K S.2 S.3 {_,d}<|bU _}
end
inductive Fz where
 |aX|Tc|RB|BS (t:T)
instance:Nonempty Fz:=⟨.aX⟩
def Kl(Am:B5):B5:=Am.map<|Lo T.D5
def I6(b:Bool)(Am:B5):B5:=if b=Y then Kl Am else Am
def Lw(C:Ea)(i:Nat)(x:Str):Prop:=C.Aq[i]?=U (U x)/\(C.BN.names.lookup x=U .local\/C.BN.names.lookup x=U .cell)
abbrev A5.ax(z:A5)(Am:B5)(q:-Aw×↑As):A5:=⟨z.V,Am,q.1,q.2⟩
abbrev A5.cL(z:A5)(b:Bool):A5:=z.ax (I6 b z.Am) (z.Ae,if b=Y then [] else z.AO)
def GA(e:Env)(a:As):Prop:=a=e.locals\/∃x,e.cells.lookup x=U a
def A5.IB(z:A5)(a:As):Prop:=z.Aa.W a\/GA z.env a\/a∈z.AO
def CF(h:BX)(a:As):Prop:=∃o,h.get? a=U o/\¬Iw o
def Cy(B:As->Prop)(Bu:-As)(s s':AM):Prop:=Dy
 (s'={s with heap:=s'.heap,toks:=s'.toks})
 (∀a o,s.heap.get? a=U o->¬B a->a∉Bu->s'.heap.get? a=U o)
 (∀a,B a->CF s'.heap a)
abbrev Ez(z:A5)(s s':AM):Prop:=Cy z.IB [] s s'
def GB(z:A5)(h:BX)(f:-As):Prop:=∀a∈f,a∈z.AO\/h.get? a=Ai
def Aa4(z:A5)(a h:BX)(t:T)(v:Aw):Prop:=∃f,A9 z.Aa z.V.X h t v f/\f.Nodup/\GB z a f
def Km(z:A5)(a h:BX):Fz->Flow->Prop
 |.aX,f=>f=.next|.Tc,f=>f=.brk|.RB,f=>f=.cont|.BS t,f=>∃v,f=.ret v/\Aa4 z a h t v
def Td(z:A5)(Bu:-As)(s:AM)(c:Fz)(Am:B5)(f:Flow)(s':AM)(q:-Aw×↑As):Prop:=He
 (AY (z.ax Am q) s')
 (GB z s.heap q.2)
 (Cy z.IB Bu s s')
 (Km z s.heap s'.heap c f)
inductive IC(z:A5)(Bu:-As)(s:AM)(Q:Fz->B5->Prop)(f:Flow)(s':AM):Prop
 |mk (c:Fz) (Am:B5) (q:-Aw×↑As) (h:Q c Am) (o:Td z Bu s c Am f s' q)
abbrev Ef(z:A5)(s:AM)(Q:Fz->B5->Prop)(f:Flow)(s':AM):Prop:=IC z [] s Q f s'
def Dj(z:A5)(run:Env->Sem Flow)(Q:Fz->B5->Prop):Prop:=∀s,AY z s->Ec z (run z.env) (Ef z s Q) s
inductive HR:Bool->T->By->T->Prop
 |bh {t AJ} (e:VY t AJ=Y) (h:t.EO=Y\/t.Fc=Y):HR Ab t AJ t
 |Gz {t AJ}:HR Y t AJ t.D5
def RC(z:A5)(hs h:BX)(t:T)(v:Aw)(g:-As):Prop:=Dy
 (A9 z.Aa (λa=>z.M a\/a∈g) h t v g)
 (g.Nodup)
 (∀a∈g,hs.get? a=Ai)
def Dk(Aa:C0)(e:Env)(X:As->Prop):Prop:=Dy
 (∀a,GA e a->X a)
 (∀a,X a->Aa.Cx.get? a=Ai)
 (∀a,Aa.W a->X a)
abbrev DS.aA(V:DS)(X:As->Prop)(h:Dk V.Aa V.env X):DS:={V with X:=X,Hg:=h.1 _<|.inl rfl,LY:=λx c q=>h.1 c<|.inr ⟨x,q⟩,Ht:=h.2,wx:=h.3}
abbrev A5.aA(z:A5)(X:As->Prop)(h:Dk z.Aa z.env X):A5:=⟨z.V.aA X h,z.Am,z.Ae,z.AO⟩
abbrev DS.Ff(V:DS)(aQ:-As)(a:As):Prop:=V.X a\/a∈aQ
def M4(e:Env)(l:Prop)(s s':AM):Prop:=Em
 (Cy (GA e) [] s s')
 (l->Cy (·=e.locals) [] s s')
def Kn(S:Dz)(e:Env)(x:Str)(v:Aw)(s s':AM):Prop:=Dy
 (M4 e (S.names.lookup x=U .local) s s')
 (∀m,s.heap.Ns e.locals m->∃a,s'.heap.Ns e.locals a/\Ru s'.heap e a x v/\∀y u,y≠x->Ru s.heap e m y u->Ru s'.heap e a y u)
 (∀y c,e.cells.lookup y=U c->∃u,s'.heap.IsCell c u)
def CF.at(y:CF h a)(k:∀o,h.get? a=U o->Ay.get? a=U o):CF Ay a:=ae y λo e c=>{o,k o e,c}
def CF.bx{P:Prop}(y:CF h a)(e:h.get? a=Ai):P:=ae y λo q Z=>nomatch D8 e.symm q
def bl{P:Prop}(e:o=Ai)(q:o=U x):P:=nomatch D8 e.symm q
section
variable{z:A5}{s s':AM}{h hs:BX}{t t':T}{v:Aw}{x:Str}
def Dj.aG{run:Env->Sem Flow}(H:Dj z run Q)(R:AY z s)(k:∀f s' c Am q,Q c Am->Td z [] s c Am f s' q->P f s'):Ba (Dw z) z.V.A (run z.env) P E s:=
 CW (H s R) (λf a p=>IC.rec (k f a) p) bL
def DS.b4(z:A5):∀a,GA z.env a->z.V.X a:=λa h=>h.elim (λe=>e⊂z.V.Hg) λe=>ak e λx e=>z.V.LY x a e
def DS.vi(z:A5):∀a,GA z.env a->¬z.Aa.W a:=λa h=>h.elim (λe=>e⊂z.V.Iz) λe=>ak e λx e=>(z.V.Ms x a e).1
def AY.aQ(R:AY z s):∀a,z.IB a->CF s.heap a:=λa h=>h.elim (λh=>R.2 a<|z.V.wx a h) λh=>h.elim (λh=>R.2 a<|DS.b4 z a h)<|R.bE a
def AY.d3(R:AY z s):∀a,z.M a->CF s.heap a:=λa h=>h.elim (R.2 a)<|R.bE a
def Cy.bq{B:As->Prop}(K:Cy B Bu s s')(c:∀a∈Bu,s'.heap.get? a≠Ai):Hh s.heap s'.heap:=λa b=>by
 cases e:s.heap.get? a with
 |none=>rfl|some o=>
  by_cases q:B a;·exact(K.3 a q).bx b
  by_cases u:a∈Bu;·exact ar b<|c a u
  ·calc bl b<|K.2 a o e q u
def Cy.aH(x:Cy B Bu s s1)(y:Cy b d s1 s')(h:∀a,b a->B a\/a∈Bu\/s.heap.get? a=Ai)(f:∀a∈d,B a\/a∈Bu\/s.heap.get? a=Ai)(g:∀a,B a->b a\/a∉d):Cy B Bu s s':=⟨
 (by rw[y.1,x.1]),
 (λa o e n u=>have c:=λw=>w.elim (ar · n) λw=>w.elim (ar · u) λw=>bl w e
  y.2 a o (x.2 a o e n u) (λw=>c<|h a w) λw=>c<|f a w),
 (λa w=>by
  by_cases c:b a;·exact y.3 a c
  ·calc(x.3 a w).at λo e=>y.2 a o e c<|(g a w).resolve_left c)⟩
def Cy.aq(y:Cy B [] s s')(Bu:-As)(h:∀a,B a->b a)(d:∀a,b a->CF s.heap a):Cy b Bu s s':=⟨
 (y.1),
 (λa o e n Z=>y.2 a o e (λw=>n<|h a w) aS),
 (λa w=>by
  by_cases c:B a;·exact y.3 a c
  ·calc(d a w).at λo e=>y.2 a o e c aS)⟩
def Cy.bk(h:∀a,B a->CF s.heap a):Cy B Bu s s:={rfl,λZ Z e Z Z=>e,h}
def Ez.bk(R:AY z s):Ez z s s:=Cy.bk R.aQ
def Ez.bq(K:Ez z s s'):Hh s.heap s'.heap:=Cy.bq K az
def IB.hV(b:GB z h q.2)(w:(z.ax Am q).IB a):z.IB a\/h.get? a=Ai:=w.elim (λw=>.inl<|.inl w) λw=>w.elim (λw=>.inl<|.inr<|.inl w) λw=>(b a w).imp_left λw=>.inr<|.inr w
theorem Cy.CG(x:Cy z.IB Bu s s1)(a:GB z s.heap q.2)(y:Ez (z.ax Am q) s1 s'):Cy z.IB Bu s s':=Cy.aH x y (λZ w=>(IB.hV a w).imp_right .inr) az λZ Z=>.inr CR
def AY.cg(R:AY z s)(K:QH z s s'):Ez z s s':=Cy.aq (B:=λa=>z.Aa.W a\/a=z.L) ⟨K.1,λa o e n Z=>K.2 a o e (λw=>n<|.inl w) λw=>n<|.inr w,λa w=>by
  by_cases c:z.Aa.W a;·exact ae (R.2 a<|z.V.wx a c) λo p n=>K.4 a o c p n
  ·calc ae R.7 λm b Z=>w.resolve_left c⊂cO (K.3 m b)⟩ [] (λZ w=>w.imp_right λw=>.inl<|.inl w) R.aQ
def GB.aH(x:GB z h q.2)(l:Hh h hs){f:-As}(y:GB (z.ax Am q) hs f):GB z h f:=λa b=>(y a b).elim (x a) λe=>.inr<|l a e
def Km.hV(x:GB z h q.2)(l:Hh h hs)(y:Km (z.ax Am q) hs s'.heap c f):Km z h s'.heap c f:=by
 cases c with
 |BS t=>calc ae y λv e w=>aE w λf w n g=>{v,e,f,w,n,x.aH l g}
 |_=>calc y
def Td.aH(K:Cy z.IB Bu s s1)(l:Hh s.heap s1.heap)(a:GB z s.heap q.2)(y:Td (z.ax Am q) [] s1 c b f s' w):Td z Bu s c b f s' w:={y.1,a.aH l y.2,Cy.CG K a y.3,y.4.hV a l}
def Ef.aH(K:Ez z s s1)(a:GB z s.heap q.2)(y:Ef (z.ax Am q) s1 Q f s'):Ef z s Q f s':=IC.rec (λc b w h o=>{c,b,w,h,o.aH K K.bq a}) y
def GB.bk:GB z h z.AO:=λZ h=>.inl h
def Ef.b7(R:AY z s)(q:Q c z.Am)(h:Km z s.heap s.heap c f):Ef z s Q f s:={c,z.Am,(z.Ae,z.AO),q,R,.bk,Ez.bk R,h}
def Ef.fk(R:AY z s)(S:CJ z s s1)(y:Ef z s1 Q f s'):Ef z s Q f s':=Ef.aH (q:=(z.Ae,z.AO)) (R.cg S.1) .bk y
def AY.d4(R:AY z s)(h:s.heap.get? a=U o)(x:z.V.X a):¬Iw o:=ae (R.2 a x) λZ q c=>BQ (q.symm^h)∣c
def vj(Am:B5):Fq (Kl Am)=Fp (Fq Am):=by rw[dv];unfold Fq Kl;rw[Fy,Fy];exact FI λo Z=>by induction o<;>rfl
theorem AY.I6(b:Bool)(R:AY z s):AY (z.cL b) s:=by
 clear z s b _ R;cases b with
 |false=>calc R|true=>calc⟨R.1,R.2,R.3,az,.nil,(vj z.Am).symm▸R.6.CT (λa d=>.inl<|d.elim .inl aS) λa d c=>c.elim (R.4 a d).2 aS,
   ae R.7 λm e w=>{m,e,λi x t f g=>ae (bD<|(Gw).symm^g) λo a b=>ae (bD b) λb c Z=>w i x b f<|c∣a},R.8⟩
def A9.cL{f:-As}(l:∀a∈f,¬z.V.X a)(k:HR b t AJ t')(y:A9 z.Aa (AJ.M z) h t v f)(j:E1 hs z.AO f AJ):∃g,(∀a∈g,a∈f)/\RC (z.cL b) hs h t' v g:=by
 clear z h hs t t' v b f _ AJ l k y j;cases (k)with
 |Gz=>exact
   have c:=λa i=>i.elim (·.elim id aS) aS
   {[],az,A9.CT (λa i=>.inl<|AJ.A6 a<|c a i) t (λa i w=>l a i<|c a w) y,.nil,az}
 |bh e d=>
  calc ae (BL.bh e {f,y,j}) λg w q=>?_;rcases d with d|d
  ·have e:=A9.cI _ d w;exact {[],az,A9.cy (λa i=>.inl<|i.elim id aS)<|e∣w,.nil,az}
  ·cases AJ with
   |AU=>calc {f,λZ h=>h,A9.c5 t d y,j.1,j.2}|DC=>calc {[],az,A9.c5 t d<|A9.cI t e y∣y,.nil,az}|aM=>calc {[],az,A9.c5 t d<|j∣y,.nil,az}
def IsCell.at{Ay:BX}{c:As}(w:h.IsCell c u)(k:∀o,h.get? c=U o->Ay.get? c=U o):Ay.IsCell c u:=ae w λo e d=>{o,k o e,d}
def Ru.gA(w:Ru h e m y u)(a:e.kindOf y=U .local->m y=U u->b y=U u)(A4:∀c,e.cells.lookup y=U c->h.IsCell c (U u)->Ay.IsCell c (U u)):Ru Ay e b y u:=
 w.imp (λw=>{w.1,a w.1 w.2}) λw=>{w.1,ae w.2 λc e w=>{c,e,A4 c e w}}
def vk{Q:Unit->AM->Prop}(R:AY z s)(Ax:z.V.C.BN.names.lookup x=U .local\/z.V.C.BN.names.lookup x=U .cell)(q:∀s',Kn z.V.C.BN z.env x v s s'->Q () s'):Ba (Dw z) A (Vh z.env x v) Q E s:=by
 clear z s v x E A Q _ R Ax q;have G:z.env.kindOf x=z.V.C.BN.names.lookup x:=z.fq x;have l:=z.V.Ms;rcases Ax with Ax|Ax
 ·calc ae R.7 λm H Z=>?_;have g:=G^Ax;calc wpAny_storeName_local g H (λAy r C6=>?_) (by rw[z.V.Hf];rfl);have i:∀{y c u},z.env.cells.lookup y=U c->s.heap.IsCell c u->Ay.IsCell c u:=λ{y c u} b w=>IsCell.at w λo=>C6.extBut c o (l y c b).2;exact q _ {{{rfl,λa o e n Z=>C6.extBut a o (λc=>n<|.inl c) e,λa j=>j.elim (λe=>e⊂cO r) λj=>ak j λy b=>CF.at (R.2 a<|z.V.LY y a b) λo=>C6.extBut a o (l y a b).2},λZ=>{rfl,λa o e n Z=>C6.extBut a o n e,λa e=>e⊂cO r}},λI D=>{_,r,.inl {g,ao rfl},λy u b w=>w.gA (λZ w=>ai b^(congrFun (funext (Heap.Ns.agree H D)) y).trans w) λc e w=>i e w},λy c b=>ak (R.8 y c b) λu w=>{u,i b w}}
 ·calc ak (z.V.Rv x Ax) λc A4=>ak (R.8 x c A4) λkN L=>?_;have g:=G^Ax;calc wpAny_storeName_cell z.V.Hf g A4 L λAy F C6=>?_;have i:∀{f u},f≠c->s.heap.IsCell f u->Ay.IsCell f u:=λ{f u} n w=>IsCell.at w λo=>C6.extBut f o n;refine q _ {{{rfl,λa o e n Z=>C6.extBut a o (λd=>n<|.inr {x,d⊂A4}) e,λa j=>?_},(λd=>nomatch D8 Ax.symm d)},λI D=>{I,D.sameBut C6<|Ne.symm (l x c A4).2,.inr {.inl g,c,A4,F},λy u b w=>w.gA (λZ=>id) λf e w=>i (λd=>b<|z.V.Rw y x f e<|d⊂A4) w},λy f b=>?_}
  ·by_cases d:a=c;·exact ae F λo a M=>{o,d⊂a,λp=>a4 p.2 λZ Z e=>nomatch D8 e.symm M}
   ·exact CF.at (R.2 a<|DS.b4 z a j) λo=>C6.extBut a o d
  ·by_cases d:f=c;·exact d⊂{_,F}
   ·calc ak (R.8 y f b) λu w=>{u,i d w}
variable{aQ:-As}{B:As->Prop}
def AY.ly(R:AY z s){b:As}(h:s.heap.get? b=Ai):z.Aa.Cx.get? b=Ai/\¬z.V.X b:=⟨by
 cases e:z.Aa.Cx.get? b with
 |none=>rfl|some o=>calc bl h<|R.1 b o e,λc=>R.bb b c h⟩
def AY.cM(R:AY z s)(c:∀b∈aQ,s.heap.get? b=Ai):Dk z.Aa z.env (z.V.Ff aQ):={λa h=>.inl<|DS.b4 z a h,λa h=>h.elim (z.V.Ht a) λh=>(R.ly<|c a h).1,λa h=>.inl<|z.V.wx a h}
def AY.enter(d:AY z s0)(S:CJ z s0 s)(e:∀b∈aQ,s0.heap.get? b=Ai)(f:∀b∈aQ,CF s.heap b)(x:Dk z.Aa z.env (z.V.Ff aQ)):AY (z.aA _ x) s:=
 have R:=S.2
 {R.1,λa h=>h.elim (R.2 a)<|f a,R.3,λa h=>{(R.4 a h).1,λc=>c.elim (R.4 a h).2 λc=>CF.bx (d.bE a h)<|e a c},R.5,d.6.a9 (λa h=>h.elim (·.elim (λc=>.inl<|.inl c) λc=>.inr<|e a c) λc=>.inl<|.inr c)<|d.Fd S.1 (λZ=>.inl) λa h=>(d.4 a h).2,R.7,R.8}
def AY.dx(R:AY z s)(x:Dk z.Aa z.env X)(g:∀a,X a->z.V.X a)(f:∀a,B a->z.V.X a/\¬z.Aa.W a/\¬GA z.env a)(Ax:∀a o,¬B a->s.heap.get? a=U o->Ay.get? a=U o)(j:∀a,X a->B a->CF Ay a):AY (z.aA X x) {s with heap:=Ay,toks:=tk}:=⟨
 (λb o e=>Ax b o (λc=>bl (z.V.Ht b (f b c).1) e)<|R.1 b o e),
 (λa c=>by
  by_cases d:B a;·exact j a c d
  ·calc CF.at (R.2 a<|g a c) λo=>Ax a o d),
 (λw=>a4 (R.3 w) λn c p=>a4 p λt u p=>ak p λo q=>{n,c,t,u,o,Ax _ o (λd=>(f _ d).2.1 w) q.1,q.2}),
 (λa c=>{(R.4 a c).1,λd=>(R.4 a c).2<|g a d}),
 (R.5),
 (R.6.a9 (λa c=>.inl<|c.imp_left<|g a) λa o e c=>Ax a o (λd=>have d:=(f a d).1;c.elim (λc=>(R.4 a c).2 d) λc=>c.elim (λc=>c<|.inl d)<|R.d4 e d) e),
 (ae R.7 λm l w=>{m,l.at' λo e=>Ax _ o (λd=>(f _ d).2.2<|.inl rfl) e,λi x t r y=>ae (w i x t r y) λv e q=>{v,e,q.gA (λZ=>id) λc e w=>IsCell.at w λo=>Ax c o λd=>(f c d).2.2<|.inr {x,e}}}),
 (λx c a=>ak (R.8 x c a) λv w=>{v,IsCell.at w λo=>Ax c o λd=>(f c d).2.2<|.inr {x,a}})⟩
def Dk.bS(z:A5):Dk z.Aa z.env z.V.X:={DS.b4 z,z.V.Ht,z.V.wx}
end
section
variable{z:A5}{s:AM}{t:T}{v:Aw}{r:By}{i:Nat}
def Aa5(z:A5)(X:As->Prop)(h:BX)(g:-As)(t:T)(v:Aw)(i:Nat)(f:-As):Prop:=He
 (∀a∈f,a∈z.AO\/a∈g)
 (f.Nodup)
 (Bl z.Aa (λa=>X a\/a∈f) h (Fq<|z.Am.set i<|U t) (z.Ae.set i v) f)
 (g=[]->z.Am[i]?=U Ai->f=z.AO)
def lz(y:A9 Aa M h .none v g):v=.none/\g=[]:=y
def lA(a:z.Am[i]?=U Ai):(Fq z.Am)[i]?=U T.none:=by unfold Fq;rw[Gw,a];rfl
theorem AY.C7(R:AY z s)(l:∀a,X a->z.V.X a)(m:∀a∈g,z.V.X a)(ab:g.Nodup)(y:A9 z.Aa z.M s.heap t v g)(i:Nat):∃f,Aa5 z X s.heap g t v i f:=by
 clear z s t v X g i _ R l m ab y;have AW:Fq (z.Am.set i<|U t)=(Fq z.Am).set i t:=XO;by_cases q:i<(Fq z.Am).length
 ·calc ak (R.6.focus<|Dv q) λc F=>a8 F.3 λo f2 B C D=>?_;have p:z.AO=c.f++(o++f2):=F.2^ah (c.f++·) B;have sub:∀a∈c.f++f2,a∈z.AO:=λa d=>p▸(aN d).elim (CL _) λd=>BH _<|BH _ d;have u:=cH<|(p▸R.5).sublist<|List.Sublist.append_left (jJ o f2) c.f;have w:∀{a},a∈z.AO->a∈g->False:=λ{a} d h=>(R.4 a d).2<|m a h;have mem:∀{a},a∈c.f++(g++f2)->a∈z.AO\/a∈g:=λ{a} d=>(aN d).elim (λd=>.inl<|sub a<|CL _ d) λd=>(aN d).elim .inr λd=>.inl<|sub a<|BH _ d;have x:∀a,(X a\/a∈c.f++(g++f2))->z.M a:=λa d=>d.elim (λc=>.inl<|l a c) λc=>(mem c).elim .inr λc=>.inl<|m a c;exact⟨c.f++(g++f2),λa=>mem,cv {u.1,cv {ab,u.2.1,λa d b j e=>w (sub b<|BH _ j)<|e∣d},λa d b j e=>(aN j).elim (λj=>w (sub a<|CL _ d)<|e⊂j) (u.2.2 a d b · e)},
   AW⊂D (λa d=>.inl<|x a d) (λZ Z e Z=>e) (y.cy λa d=>.inl<|x a d),λa b=>by rw[p,a,(lz (g:=o)<|BQ ((Dv q).symm^lA b)∣C).2]⟩
 ·have A:=bM q;calc {z.AO,λZ=>.inl,R.5,by rw[AW,AiQ A,AiQ<|R.6.bo⊂A];calc R.6.a9 (λa d=>.inl<|d.imp_left<|l a) λZ Z e Z=>e,λZ Z=>rfl}
def AY.lB{f:-As}(R:AY z s)(Bj:Dk z.Aa z.env X)(B:∀a,X a->z.V.X a)(q:z.V.C.Aq[i]?=U (U x))(N:Kn z.V.C.BN z.env x v s s')(D:∀t,o=U t->u=v)(h:∀a∈f,z.Aa.Cx.get? a=Ai/\¬X a/\¬GA z.env a)(E:f.Nodup)(y:Bl z.Aa (λa=>X a\/a∈f) s.heap (Fq<|z.Am.set i o) (z.Ae.set i u) f):AY ((z.aA X Bj).ax (z.Am.set i o) (z.Ae.set i u,f)) s':=⟨
 (λb o e=>N.1.1.2 b o (R.1 b o e) (λc=>bl (z.V.Ht b<|DS.b4 z b c) e) aS),
 (λa c=>by
  by_cases d:GA z.env a;·exact N.1.1.3 a d
  ·calc CF.at (R.2 a<|B a c) λo p=>N.1.1.2 a o p d aS),
 (λw=>a4 (R.3 w) λn c p=>a4 p λt u p=>ak p λo p=>{n,c,t,u,o,N.1.1.2 _ o p.1 (λd=>DS.vi z _ d w) aS,p.2}),
 (λa A=>{(h a A).1,(h a A).2.1}),
 (E),
 (y.a9 (λZ=>.inl) λa o e c=>N.1.1.2 a o e (λd=>c.elim (λc=>(h a c).2.2 d) λc=>c.elim (λc=>c<|.inl<|Bj.1 a d)<|R.d4 e<|DS.b4 z a d) aS),
 (ae R.7 λm F w=>aE (N.2 m F) λG a H I=>⟨G,a,λj y t l g=>by
  have g:(z.Am.set i o)[j]?=U (U t):=g;by_cases c:i=j;·have e:U x=U y:=BQ<|q.symm^(c▸l);have lt:j<J z.Am:=Mk▸(bK g);rw[c,ke lt] at g;exact {v,by rw[c,ke<|(R.6.bo^Bq _)⊂lt,D t<|BQ g],BQ e∣H}
  ·rw[SN c] at g;calc ae (w j y t l g) λv L M=>{v,SN c^L,I y v (λd=>c<|z.V.S8 i j x q<|d∣l) M}⟩),
 (N.3)⟩
def AY.lC(R:AY z s)(c:z.V.C.Aq[i]?=U (U x))(N:Kn z.V.C.BN z.env x v s s')(b:z.Am[i]?=U Ai):AY z s':=
 a8 (R.6.Cq<|lA b) λu g e w Z=>by have this:=R.lB (f:=z.AO) (o:=Ai) (u:=.none) (Dk.bS z) (λZ h=>h) c N nofun (λa h=>{(R.4 a h).1,(R.4 a h).2,λd=>(R.4 a h).2<|DS.b4 z a d}) R.5;rw[fi b,fi<|e^ah U (lz w).1] at this;calc this R.6
def ft(R:AY z s)(Bj:Dk z.Aa z.env X)(e:∀a,X a->z.V.X a)(j:Lw z.V.C i x)(b:∀a∈g,z.V.X a/\¬X a)(ab:g.Nodup)(y:A9 z.Aa z.M s.heap t v g)(q:∀s' w,AY ((z.aA X Bj).ax (z.Am.set i<|U t) w) s'->Aa5 z X s.heap g t v i w.2->Kn z.V.C.BN z.env x v s s'->Q () s'):Ba (Dw z) A (Vh z.env x v) Q E s:=
 ak (R.C7 e (λa h=>(b a h).1) ab y i) λf p=>vk R j.2 λg N=>q g (z.Ae.set i v,f) (R.lB Bj e j.1 N (λZ Z=>rfl) (λa l=>(p.1 a l).elim (λh=>{(R.4 a h).1,λc=>(R.4 a h).2<|e a c,λd=>(R.4 a h).2<|DS.b4 z a d}) λh=>{z.V.Ht a (b a h).1,(b a h).2,λd=>(b a h).2<|Bj.1 a d}) p.2 p.3) p N
def Ez.hJ(R:AY z s)(W:M4 z.env l s s'):Ez z s s':=W.1.aq [] (λZ c=>.inr<|.inl c) R.aQ
def GB.cL(b:Bool):GB z h (z.cL b).AO:=λa c=>by induction b;calc .inl c;calc aS c
def lD{f:-As}(m:Lw z.V.C i x)(R:AY z s)(S:CJ z s s1)(k:HR b t r t')(o:∀a∈Bu,s.heap.get? a=Ai)(p:∀a∈Bu,CF s1.heap a)(Bj:Dk z.Aa z.env (z.V.Ff Bu))(y:A9 z.Aa (r.M<|z.aA _ Bj) s1.heap t v f)(d:E1 s.heap z.AO f r)(e:∀a∈f,a∉Bu)(q:∀s' w,AY ((z.aA _ Bj).ax ((I6 b z.Am).set i<|U t') w) s'->GB z s.heap w.2->Ez z s s'->M4 z.env False s1 s'->Q () s'):Ba (Dw z) A (Vh z.env x v) Q E s1:=by calc ae (A9.cL (z:=z.aA _ Bj) (λa h c=>c.elim ((d.av R R.bb) a h)<|e a h) k y d) λg sub y=>?_;have j:=λa h=>(aN h).elim (y.3 a)<|o a;have l:=R.cM j;calc ft (z:=(z.cL b).aA _ l) ((R.I6 b).enter {S.1,S.2.I6 b} j (λa h=>(aN h).elim (A9.bE _ y.1 a)<|p a) l) Bj (λa h=>h.imp_right<|BH _) m (λa h=>{.inr<|CL _ h,λc=>c.elim (λc=>R.bb a c<|y.3 a h)<|e a<|sub a h}) y.2 (y.1.cy λa h=>.inl (h.elim (·.elim (λc=>.inl<|.inl<|.inl c) λc=>(aN c).elim .inr λc=>.inl<|.inl<|.inr c) λc=>.inl<|.inr c)) λc w u g N=>q c w u (λa B=>(g.1 a B).elim (GB.cL b a) λh=>.inr<|y.3 a h) (Cy.CG (R.cg S.1) (q:=(z.Ae,z.AO)) .bk<|Ez.hJ (z:=z) S.2 {N.1.1,False.elim}) {N.1.1,False.elim}
def AY.vl{Bj:Dk z.Aa z.env (z.V.Ff [])}(a:AY ((z.aA _ Bj).ax Am w) s):AY (z.ax Am w) s:=a.dx (B:=λZ=>False) (tk:=s.toks) (Dk.bS z) (λZ=>.inl) (λZ h=>h.elim) (λZ Z Z e=>e) λZ Z h=>h.elim
def By.vm{Bj:Dk z.Aa z.env (z.V.Ff [])}(a:As)(h:r.M (z.aA _ Bj) a):r.M z a:=by
 cases r with
 |aM=>calc h.elim id aS|_=>calc h.imp_left (·.elim id aS)
def hO(c:Lw z.V.C i x)(R:AY z s)(S:CJ z s s1)(k:HR b t r t')(y:BL z s.heap s1.heap t r v)(p:P .aX ((I6 b z.Am).set i<|U t'))(q:∀s',Ef z s P .next s'->Q () s'):Ba (Dw z) A (Vh z.env x v) Q E s1:=
 ae y λf y d=>have Bj:=R.cM az
  lD c R S k az az Bj (y.cy λa h=>.inl<|By.vm a h) d (λZ Z h=>aS h) λa w e g K Z=>q a {_,_,w,p,e.vl,g,K,rfl}
end
def Aa6(A:Prop)(B:Fz->Prop):Fz->Prop
 |.aX=>A|c=>B c
def Te(AV:B5->Prop)(Q:Fz->B5->Prop):Fz->B5->Prop
 |.aX,Am=>AV Am|.RB,Am=>AV Am|.Tc,Am=>Q .aX Am|.BS t,Am=>Q (.BS t) Am
def WN(e:A2):Bool:=Nat.ble 8 e.ctorIdx&&Nat.ble e.ctorIdx 10
def dk(h:WN value=Ab)(t:↥A2)(l:Nat)(env:Env):swapsWith value t l env=pure Ab:=by cases value<;>first|rfl|delta h
def Yr(z:A5)(Bu:-As)(s:AM)(Am:B5)(w:-Aw×↑As)(s1:AM):Prop:=Dy
 (GB z s.heap w.2)
 (AY (z.ax Am w) s1)
 (Cy z.IB Bu s s1)
section
variable{z:A5}{st:C8}{body:-C8}{j:A2}{pos:Pos}{run:Env->Sem Flow}
def lE(q:Q .aX z.Am):Dj z (DJ []) Q:=λs R=>ZZ<|.b7 R q rfl
def vn(q:Q .Tc z.Am):Dj z (Gx<|.Break pos) Q:=λs R Z Z Z=>.b7 R q rfl
def vo(q:Q .RB z.Am):Dj z (Gx<|.Continue pos) Q:=λs R Z Z Z=>.b7 R q rfl
def h1(H:Dj z (Gx st) λc a=>Aa6 (∀w,Dj (z.ax a w) (DJ rest) Q) (Q · a) c):Dj z (DJ (st::rest)) Q:=λs R=>
 Nz (H.aG R λf a c b w h p=>by
  have Bf:=p.4;cases c with
  |aX=>calc Bf⊂CW (h w a p.1) (λa b c=>Ef.aH p.3 p.2 c) bu|Tc=>calc Bf⊂{_,b,w,h,p.1,p.2,p.3,rfl}|RB=>calc Bf⊂{_,b,w,h,p.1,p.2,p.3,rfl}|BS t=>calc ae Bf λv e y=>e⊂{_,b,w,h,p.1,p.2,p.3,v,rfl,y})
def vp(H:Mt z j λb=>if b=Y then Dj z (DJ body) Q else Dj z (DJ a) Q):Dj z (Gx<|.If j body a pos) Q:=λs R=>
 wpAny_If (H.aG R λb a q S=>by induction b<;>calc CW (q a S.2) (λa b c=>Ef.fk R S c) bu)
def lF(a:Lw z.V.C i x)(A4:WN e=Ab)(H:BM z e λt a=>∃b t',HR b t a t'/\Q .aX ((I6 b z.Am).set i<|U t')):Dj z (Gx<|.Assign [.Name x pos'] e pos) Q:=λs R=>
 Vi (H.aG R λv c t d q S y=>bP q λb c k q=>hO a R S k y q λa P=>P) (dk A4 _ _ _)
theorem BL.BS(R:AY z s)(e:H9 z d)(k:LV b t AJ t')(y:BL z d s.heap t AJ v):Aa4 z d s.heap t' v:=ae (y.Mu R e k) λf y q=>by
 cases b with
 |true=>calc {f,y,q⊂.nil,λa h=>aS<|q∣h}|false=>calc {f,A9.cy (λa c=>.inl<|.inl c) y,q.1,λa c=>.inr<|q.2 a c}
def vq(H:BM z e λt a=>∃b t',LV b t a t'/\Q (.BS t') z.Am):Dj z (Gx<|.Return (U e) pos) Q:=λs R=>
 Vj (H.aG R λv a t c q S y=>bP q λb a k q=>{_,_,(z.Ae,z.AO),q,S.2,.bk,R.cg S.1,v,rfl,y.BS S.2 R.bb k})
def vr(d:z.V.C.Aq[i]?=U (U x))(f:(x==("__debug__":Str))=Ab)(h:(x==("__classdict__":Str))=Ab)(c:HP z.Am i=U t)(q:Q (.BS t) z.Am):Dj z (Gx<|.Return (U<|.Name x pos') pos) Q:=λs R=>
 Vj (Wj (eP R d (cz c) h λv d=>a8 (R.6.Cq<|fm<|cz c) λu g e y c=>.b7 R q {v,rfl,g,BQ (e.symm^d)∣A9.cy (λa b=>.inl<|.inl b) y,R.5.sublist c,λa b=>.inl<|c.subset b}) f)
def lG{G:Prop}(L:Yr z Bu s Am w s1)(l:Hh s.heap s2.heap)(K:Cy z.IB Bu s s2)(h:Te AV Q c a)(p:Td (z.ax Am w) [] s2 c a Bf b q)(Ag:(Bf=.next\/Bf=.cont)->AV a->Yr z Bu s a q b->G)(d:∀f,(Bf=.brk/\f=.next\/∃v,Bf=.ret v/\f=.ret v)->IC z Bu s Q f b->G):G:=by
 have p:=Td.aH K l L.1 p;have f:=p.4;cases c with
 |aX=>calc Ag (.inl f) h {p.2,p.1,p.3}|RB=>calc Ag (.inr f) h {p.2,p.1,p.3}|Tc=>calc d .next (.inl {f,rfl}) {_,_,q,h,p.1,p.2,p.3,rfl}|BS t=>calc ae f λv e y=>d (.ret v) (.inr {v,e,rfl}) {_,_,q,h,p.1,p.2,p.3,v,rfl,y}
def vs(I:Nat->B5->Prop){n:Nat}(g:I n z.Am)(H:∀n Am w,I n Am->Mt (z.ax Am w) j λb=>if b=Y then Dj (z.ax Am w) (DJ body) (Te (λa=>∃m,m<n/\I m a) Q) else Q .aX Am):Dj z (Gx<|.While j body [] pos) Q:=by
 clear z body j pos Q I n _ g H;exactλs R=>by
  calc wpAny_While<|codeAny_whileLoop (λn a=>∃Am w,I n Am/\Yr z [] s Am w a) (λn s1 i=>bP i λAm w o L=>?_) n {z.Am,(z.Ae,z.AO),g,.bk,R,Ez.bk R};calc(H n Am w o).aG L.2 λb s2 q S=>?_;have a:=Cy.CG L.3 L.1<|L.2.cg S.1;cases b with
  |false=>calc ZZ {_,_,w,q,S.2,L.1,a,rfl}|true=>
   exact Dj.aG (z:=z.ax Am w) q S.2 λb l c r t h p=>lG L (a.bq az) a h p (λd y L=>ae y λm u y=>by rcases d with d|d<;>rw[d]<;>calc {m,u,r,t,y,L}) λf d P=>d.elim (λd=>by rw[d.1];calc(rwl d.2 P:IC z [] s Q .next l)) λd=>ae d λv d e=>by rw[d];calc(rwl e P:IC z [] s Q (.ret v) l)
end
def Ko:B5->↑(Nat×Str)->↑T->B5
 |Am,e::xs,t::Av=>Ko (Am.set e.1<|U t) xs Av|Am,_,_=>Am
def Kp(M:Qq)(A:EI)(E:Aw->AM->Prop)(env:Env):-(Nat×Str)->↑(Aw->Sem Unit)->Prop
 |[],DB=>DB=[]|e::xs,DB=>∃f:(Aw->Sem Unit)×↑(Aw->Sem Unit),DB=f.1::f.2/\(∀v (Q:Unit->AM->Prop) s,Ba M A (Vh env e.2 v) Q E s->Ba M A (f.1 v) Q E s)/\Kp M A E env xs f.2
def AdZ(z:A5)(s:AM)(xs:-(Nat×Str))(Av:-T)(g:-As)(s':AM)(w:-Aw×↑As):Prop:=He
 (AY (z.ax (Ko z.Am xs Av) w) s')
 (∀a∈w.2,a∈z.AO\/a∈g)
 (g=[]->(xs.map (·.1)).Nodup->(∀e∈xs,z.Am[e.1]?=U Ai)->w.2=z.AO)
 (∀P:AM->Prop,P s->(∀s1 s2 e v,e∈xs->P s1->Kn z.V.C.BN z.env e.2 v s1 s2->P s2)->P s')
section
variable{E:Aw->AM->Prop}
def lH(xs:-(Nat×Str)):∀{DB:-(Aw->Sem Unit)} {Av:-T} {Ae:-Aw} {g:-As} {z:A5} {s:AM} {Q:Unit->AM->Prop} (Bj:Dk z.Aa z.env (z.V.Ff g)),AY (z.aA _ Bj) s->J xs=J Av->Bl z.Aa (z.aA _ Bj).M s.heap Av Ae g->g.Nodup->(∀a∈g,¬z.V.X a)->(∀e∈xs,Lw z.V.C e.1 e.2)->Kp (Dw z) A E z.env xs DB->(∀s' w,AdZ z s xs Av g s' w->Q () s')->Ba (Dw z) A (assignInOrder DB Ae) Q E s:=by
 cases xs with
 |nil=>
  intro DB Av Ae g z s Q Bj R b y _ _ _ l q;cases Av using List.casesOn with
  |cons=>delta b|nil=>
   rw[show DB=[] from l,show Ae=[] from y.1];calc assignInOrder_nil<|q s (z.Ae,z.AO) {R.dx (B:=λZ=>False) (tk:=s.toks) (Dk.bS z) (λZ=>.inl) (λZ h=>h.elim) (λZ Z Z e=>e) λZ Z h=>h.elim,λZ=>.inl,λZ Z Z=>rfl,λP h Z=>h}
 |cons e xs G=>
  intro DB Av Ae g z s Q Bj R b y ab m u l q;cases Av using List.casesOn with
  |nil=>delta b|cons t Av=>
  calc aE l λf I L S=>aE y λc x W QL=>?_;have i:=x.2;rw[I,x.1];have r:=cH<|i∣ab;have Ey:∀a∈c.f,a∈g:=λa h=>i⊂CL _ h;have Ep:∀a∈c.g,a∈g:=λa h=>i⊂BH _ h;have up:∀a,z.V.Ff c.g a->z.V.Ff g a:=λa h=>h.imp_right<|Ep a;have D:Dk z.Aa z.env (z.V.Ff c.g):={λa h=>.inl<|DS.b4 z a h,λa h=>Bj.2 a<|up a h,λa h=>.inl<|z.V.wx a h}
  calc sQ<|L _ _ _<|ft (z:=z.aA _ Bj) R D up (u e<|.head _) (λa h=>{.inr<|Ey a h,λd=>d.elim (m a<|Ey a h) λd=>r.2.2 a h a d rfl}) r.1 W λs1 w WQ MA N=>?_;calc G (z:=z.ax (z.Am.set e.1<|U t) w) D WQ (Qx b) (QL.a9 (λa h=>.inl<|h.elim (λh=>.inl<|up a h) λh=>(MA.1 a h).elim .inr λh=>.inl<|.inr<|Ey a h) λa o e c=>N.1.1.2 a o e (λd=>have d:=DS.b4 z a d;c.elim (λc=>m a (Ep a c) d) λc=>c.elim (λc=>c<|.inl<|.inl d)<|R.d4 e<|.inl d) aS) r.2.1 (λa h=>m a<|Ep a h) (λe h=>u e<|.tail _ h) S λs' vt p=>q s' vt {p.1,λa h=>(p.2 a h).elim (λh=>(MA.1 a h).imp_right<|Ey a) λh=>.inr<|Ep a h,λvu j hs=>?_,λP h H=>p.4 P (H _ _ _ _ (.head _) h N) λa b e v c=>H a b e v<|.tail _ c};have AW:=AiR.mp<|i.symm^vu;have j:=du j;calc(p.3 AW.2 j.2 λF h=>(SN λd=>j.1<|dM {F,h,d.symm}).trans<|hs F<|.tail _ h)^MA.4 AW.1 (hs e<|.head _)
end
def Py(z:A5)(AV:-Nat)(s s':AM):Prop:=∀Am q,AY (z.ax Am q) s->(∀j∈AV,Am[j]?=U Ai)->AY (z.ax Am q) s'
def AdY(z:A5)(s:AM)(b:B5)(idx:-Nat)(s':AM)(q:-Aw×↑As):Prop:=Mo
 (AY (z.ax b q) s')
 (∀a∈q.2,a∈z.AO)
 (M4 z.env (∀j∈idx,∀x,z.V.C.Aq[j]?=U (U x)->z.V.C.BN.names.lookup x=U .local) s s')
 ((∀j∈idx,z.Am[j]?=U Ai)->q.2=z.AO)
 (Py z idx s s')
def WR(z:A5)(target:A2)(t:T)(a:B5)(idx:-Nat):Prop:=∀s v,AY z s->A9 z.Aa z.M s.heap t v []->Ec z (assign target z.env v) (λZ b=>∃q,AdY z s a idx b q) s
section
variable{z:A5}
def M4.aq(W:M4 env l s s')(h:Dl->l):M4 env Dl s s':={W.1,λq=>W.2<|h q}
def M4.aH(a:M4 env l s s1)(W:M4 env l s1 s'):M4 env l s s':={Cy.aH a.1 W.1 (λZ h=>.inl h) (λZ h=>aS h) λZ h=>.inl h,λq=>Cy.aH (a.2 q) (W.2 q) (λZ h=>.inl h) (λZ h=>aS h) λZ h=>.inl h}
def lI(b:Lw z.V.C i x):WR z (.Name x pos) t (z.Am.set i<|U t) [i]:=λs v R d=>
 wpAny_assign_Name (ft R (Dk.bS z) (λZ h=>h) b az .nil d λd w c p N=>{w,c,λa h=>(p.1 a h).elim id aS,N.1.aq λq=>q i (.head _) x b.1,λq=>p.4 rfl (q i<|.head _),λa q R h=>R.lC b.1 N<|h i<|.head _})
inductive WS:-A2->↑(Nat×Str)->Prop
 |nil:WS [] []
 |cons {i:Nat} {x:Str} {p:Pos} {AE:-A2} {Al:-(Nat×Str)} (h:WS AE Al):WS (.Name x p::AE) ((i,x)::Al)
def AdU(M:Qq)(A:EI)(E:Aw->AM->Prop)(env:Env)(AE:-A2)(Al:-(Nat×Str)):Prop:=Dy
 ((assignEach AE env).length=J Al)
 ((assignEach AE env).findIdx? (·.1)=Ai)
 (Kp M A E env Al ((assignEach AE env).map (·.2)))
def lL(h:WS AE Al):AdU M A E env AE Al:=by
 cases h with
 |nil=>calc {rfl,rfl,rfl}|cons _ q=>calc {ah (·+1) q.1,List.findIdx?_cons^ah (Lo _) q.2,{(_,_),rfl,λv Q s q=>assign_Name q,q.3}}
def lM(xs:-(Nat×Str))(i:WS AE xs)(l:(xs.map (·.1)).Nodup)(c:∀e∈xs,Lw z.V.C e.1 e.2)(d:J xs=J Av):WR z (.Tuple AE n pos) (.ab .aT o Av) (Ko z.Am xs Av) (xs.map (·.1)):=by
 clear z pos n Av AE o xs _ i l c d;exactλs v R A8=>a6 A8 λm r t y cN=>by
  have u:m.f=[]:=List.eq_nil_iff_forall_not_mem.mpr λa D=>aS<|cN.A6 a D;rw[u] at y;have q:=lL (M:=Dw z) (A:=z.V.A) (E:=λZ Z=>False) (env:=z.env) i;rw[r];calc sR z.V.Eb.1 t (q.1^d.trans y.bo.symm) q.2 λAy b=>?_;have up:=λa o e=>b a o (EX<|Gv e) e;have S:CJ z s {s with heap:=Ay}:=R.bp<|.b5 up;have F:M4 z.env (∀j∈xs.map (·.1),∀x,z.V.C.Aq[j]?=U (U x)->z.V.C.BN.names.lookup x=U .local) s {s with heap:=Ay}:=
   have k:∀{B:As->Prop},(∀a,B a->z.V.X a)->Cy B [] s {s with heap:=Ay}:=λG=>{rfl,λa o e Z Z=>up a o e,λa h=>CF.at (R.2 a<|G a h)<|up a}
   {k<|DS.b4 z,λZ=>k λa h=>h⊂z.V.Hg}
  have g:∀e∈xs,e.1∈xs.map (·.1):=λe h=>dM {e,h,rfl};calc lH xs (R.cM az) (R.enter S az az _) d (y.a9 (λa h=>.inl (h.imp_left (·.elim id aS))) λa o e Z=>up a o e) .nil az c q.3 λd w p=>{w,p.1,λa h=>(p.2 a h).elim id aS,p.4 _ F λa d e v b H N=>H.aH<|N.1.aq λq=>q e.1 (g e b) e.2 (c e b).1,λq=>p.3 rfl l λe h=>q e.1<|g e h,λa q R h=>p.4 _ (AY.bp R<|.b5 up).2 λa d e v b R N=>R.lC (c e b).1 N<|h e.1<|g e b}
end
structure Tf where
 I:As
 AO:↑As
 aQ:↑As
 P:Nat->Aw->BX->Prop
 By:Nat->Aw->BX->Prop
 Br:Nat->BX->Prop
instance:Nonempty Tf:={0,[],[],λZ Z Z=>True,λZ Z Z=>True,λZ Z=>True}
def Aa7(z:A5)(Bf:Bool)(target:A2)(BW:-T)(c:BX)(d:Aw)(s:AM)(S:Tf):Prop:=S0
 (d=.ref S.I)
 (KTurns z.Aa.De z.Aa.w z.V.A target S.I S.AO S.aQ (J BW) S.P S.By S.Br)
 (∀i (s:AM) (Q:Aw->AM->Prop) (E:Aw->AM->Prop),S.Br i s.heap->Q (.ref S.I) s->Ba (Dw z) z.V.A (Pg<|.ref S.I) Q E s)
 (S.Br 0 s.heap)
 (∀b∈S.AO,¬z.V.X b/\(Bf=Y->b∉z.AO)/\∃o,s.heap.get? b=U o)
 (∀b∈S.aQ,c.get? b=Ai)
 (∀i h,S.Br i h->∀b∈S.aQ,CF h b)
 (∀i v Ay (Df:As->Prop),i<J BW->(∀a,Df a->z.M a\/a∈S.aQ\/s.heap.get? a=Ai)->(∀a o,s.heap.get? a=U o->¬z.M a->a∉S.aQ->Ay.get? a=U o)->S.P i v Ay->∃t,BW[i]?=U t/\A9 z.Aa Df Ay t v [])
inductive M5(z:A5)(Bf:Bool)(target:A2)(s:AM)(Q:-T->Prop)(a:Aw)(s':AM):Prop
 |mk (BW:-T) (q:Q BW) (K:CJ z s s') (S:Tf) (at_:Aa7 z Bf target BW s.heap a s' S)
def MB(z:A5)(Bf:Bool)(target e:A2)(Q:-T->Prop):Prop:=∀s,AY z s->Ec z (D4 e z.env) (λa b=>Ec z (Pg a) (M5 z Bf target s Q) b) s
section
variable{z:A5}{s s1 j:AM}{Bf:Bool}
def lN{aQ:-As}(g:AY z s1)(d:∀a o,s1.heap.get? a=U o->j.heap.get? a=U o)(f:∀b∈aQ,s1.heap.get? b=Ai)(i:∀a,Df a->z.M a\/a∈aQ\/j.heap.get? a=Ai)(Ax:∀a o,j.heap.get? a=U o->¬z.M a->a∉aQ->Ay.get? a=U o)(y:A9 z.Aa z.M s1.heap t v []):A9 z.Aa Df Ay t v []:=
 A9.a9 (λa h=>(i a h).imp_right λh=>h.elim (f a) λh=>by
  cases e:s1.heap.get? a with
  |none=>rfl|some o=>calc bl h<|d a o e) t (λa o e c=>have B3:=λm=>ae (g.d3 a m) λl q w=>c.elim aS λc=>c.elim (λc=>c m) λc=>w (BQ (q.symm^e)⊂c)
   Ax a o (d a o e) B3 λw=>bl (f a w) e) y
def fu{Br:Nat->BX->Prop}(R:AY z s)(S:CJ z s s1)(q:Q BW)(f:∀a o,s1.heap.get? a=U o->j.heap.get? a=U o)(g:j={s1 with heap:=j.heap,toks:=j.toks})(c:s1.heap.get? I=Ai)(l:∃o,j.heap.get? I=U o)
  (p:m=J BW)(W:Walks z.Aa.De z.Aa.w z.V.A I AO [I] m P Br)(go:∀i v (s:AM) (Q:Unit->AM->Prop) (E:Aw->AM->Prop),Br i s.heap->Q () s->Ba (Dw z) z.V.A (sS target (.ref I) v) Q E s)
  (st:Br 0 j.heap)(r:∀i h,Br i h->CF h I)(u:∀b∈AO,b=I\/(¬z.V.X b/\(Bf=Y->b∉z.AO)/\∃o,s1.heap.get? b=U o))(BA:∀i v,i<J BW->P i v->∃t,BW[i]?=U t/\A9 z.Aa z.M s1.heap t v []):M5 z Bf target s Q (.ref I) j:=by subst p;have d:=S.2;calc⟨BW,q,S.aH<|d.bp<|g⊂.b5 f,⟨I,AO,[I],λi v Z=>P i v,λi v h=>P i v/\Br (i+1) h,Br⟩,rfl,KTurns.ofWalks W go,W.self,st,λb h=>(u b h).elim (λe=>e⊂⟨λx=>d.bb I x c,λZ x=>CF.bx (d.bE I x) c,l⟩) λh=>⟨h.1,h.2.1,ak h.2.2 λo q=>⟨o,f b o q⟩⟩,λb h=>aF h⊂R.bq S.1 I c,λi h q b B=>aF B⊂r i h q,λi v a g C D j F=>ae (BA i v C F) λt e y=>⟨t,e,lN d f (λb h=>aF h⊂c) D j y⟩⟩
def BL.items{G:Prop}(R:AY z s)(c:AJ=.AU\/AJ=.DC/\(Bf&&o)=Ab)(y:BL z s.heap h (.ab Cr o xs) AJ v)(k:∀n:Iy,v=.ref n.a->Cr.at z.Aa h n->(∀a∈Cr.Gf n,¬z.V.X a/\(Bf=Y->a∉z.AO))->((AJ=.AU\/GZ xs=Y)->Bl z.Aa z.M h (Fp xs) n.Ae [])->G):G:=by
 clear z s Bf o v xs h G _ AJ Cr R c y k;exact ae y λf y b=>a6 y λn e a y w=>by
   refine k n e a ?_ ?_
   all_goals rcases c with c|⟨c,d⟩<;>subst c
   ·have g:∀a∈f,¬z.M a:=λa h m=>(R.d3 a m).bx<|b.2 a h;exactλa h=>(w.fg a h).elim (λh=>{λx=>g a h<|.inl x,λZ x=>g a h<|.inr x}) λh=>{λx=>h<|.inl x,λZ x=>h<|.inr x}
   ·refineλa h=>(w.fg a h).elim (λq=>{(R.4 a<|b a q).2,λe=>?_}) λh=>{λx=>h<|.inl x,λZ x=>h<|.inr x}
    cases o with
    |true=>rw[e] at d;delta d|false=>exact ar (Or.inr<|b a q)<|w.2.1 a h
   ·exactλZ=>y.CT (λa h=>.inl h) λa h m=>(R.d3 a m).bx<|b.2 a<|w.A6 a h
   ·calcλq=>q.elim nofun λq=>y.CT (λa h=>.inl h) λa h=>aS<|Bl.cI q y∣h
def d5{o:Obj}(h:o.cls=.type c)(A4:(c=="tuple")=Ab):¬Iw o:=gn h λe=>(nomatch (e▸A4:("tuple"=="tuple")=Ab))
def Bl.dw{i:Nat}(q:Bl z.Aa M h Al Ae [])(A8:Ae[i]?=U v):∃t,Al[i]?=U t/\A9 z.Aa M h t v []:=by have a:=q.bo▸(bK A8);calc a8 (q.Cq<|Dv a) λu g e y w=>{_,Dv a,AiI.mp w▸rwl (BQ<|e.symm^A8) y}
def eK(h:∃o,s1.heap.get? b=U o):b≠s1.heap.objs.size:=ak h λZ e=>EX<|Gv e
def gB{n:Iy}(q:∃o,s1.heap.get? n.a=U o)(p:¬z.V.X n.a/\(Bf=Y->n.a∉z.AO)):∀b∈[s1.heap.objs.size,n.a],b=s1.heap.objs.size\/(¬z.V.X b/\(Bf=Y->b∉z.AO)/\∃o,s1.heap.get? b=U o):=λb c=>(aK c).imp_right λc=>by rw[aF c];calc {p.1,p.2,q}
def dy{P:Obj->Prop}(A4:(c=="tuple")=Ab)(x:∃o,h.get? I=U o/\o.cls=.type c/\P o):CF h I:=aE x λo e d Z=>{o,e,d5 d A4}
def lP{b:Bool}(R:AY z s)(S:CJ z s s1)(c:AJ=.AU\/AJ=.DC/\(Bf&&o)=Ab)(d:AJ=.AU\/GZ xs=Y)(y:BL z s.heap s1.heap (.ab (S9 b) o xs) AJ v)(q:Q (Fp xs)):Ec z (Pg v) (M5 z Bf target s Q) s1:=y.items R c λn e a p r=>by
 have r:=r d;have up:∀{o:Obj},∀a p,s1.heap.get? a=U p->(s1.heap.push o).get? a=U p:=λa p e=>D9 _ e;have t:=r.bo;rw[e];cases b with
 |false=>
  have f:=Heap.PlainList.isList a;have g:∃o,s1.heap.get? n.a=U o:=ae f λZ e Z=>{_,e}
  calc wpAny_pyIter_list f<|fu R S q up rfl (bU _) {_,Fn _ rfl} t (Walks.list z.V.Eb.1 s1.heap.objs.size n.a (eK g) n.Ae.toArray) (λi v s Q E a l=>letGo_listiter a.1 l) {{_,Fn _ rfl,rfl,rfl},f.push _} (λi h a=>dy rfl a.1) (gB g<|p n.a<|.head _) λi v Z q=>r.dw<|Wm.symm.trans q
 |true=>
  have f:=a;have g:∃o,s1.heap.get? n.a=U o:=ae f λZ e Z=>{_,e}
  have u:=λm=>ae (S.2.d3 n.a m) λZ w A=>aE f λZ B C D=>A<|BQ (B.symm^w)∣{C,_,D};calc sT f<|fu R S q up rfl (bU _) {_,Fn _ rfl} t (Walks.tuple z.V.Eb.1 s1.heap.objs.size n.a (eK g) n.Ae.toArray) (λi v s Q E a l=>letGo_tupleiter a.1 l) {{_,Fn _ rfl,rfl,rfl},ae f λo e c=>{o,up _ o e,c}} (λi h a=>dy rfl a.1) (gB g {λx=>u<|.inl x,λZ x=>u<|.inr x}) λi v Z q=>r.dw<|Wm.symm.trans q
def lQ{ag:-BE}(R:AY z s)(S:CJ z s s1)(c:AJ=.AU\/AJ=.DC/\(Bf&&o)=Ab)(y:BL z s.heap s1.heap (.ab (.Dh ag) o xs) AJ v)(q:Q (ag.map BE.Hu)):Ec z (Pg v) (M5 z Bf target s Q) s1:=y.items R c λn e a p Z=>a.2.raw λc m j d w=>by
 have b:∃o,s1.heap.get? n.a=U o:=ae j λZ e Z=>{_,e}
 rw[e];calc lq a.1 j<|fu R S q (λa p e=>D9 _ e) rfl (bU _) {_,Fn _ rfl} (d^(Bq ..).symm) (lr z.V.Eb.1 s1.heap.objs.size n.a (eK b) c m) (λi v s Q E a f=>letGo_keyiter a.1 f) {{_,Fn _ rfl,rfl,rfl},j.fs λo e=>D9 _ e} (λi h a=>dy rfl a.1) (gB b<|p n.a<|.head _) λi v Z q=>ae q λe g a=>(w z.M).dw (by rw[Gw,kd,g,a];rfl)
inductive Kq(Bf:Bool):T->By->↑T->Prop
 |Kr {b o:Bool} {xs:-T} {AJ:By} (c:AJ=.AU\/AJ=.DC/\(Bf&&o)=Ab) (d:AJ=.AU\/GZ xs=Y):Kq Bf (.ab (S9 b) o xs) AJ (Fp xs)
 |Dh {o:Bool} {ag:-BE} {xs:-T} {AJ:By} (c:AJ=.AU\/AJ=.DC/\(Bf&&o)=Ab):Kq Bf (.ab (.Dh ag) o xs) AJ (ag.map BE.Hu)
def h2(H:BM z e λt a=>∃BW,Kq Bf t a BW/\Q BW):MB z Bf target e Q:=λs R=>
 H.aG R λv a t b q S y=>ae q λa i q=>by
  cases i with
  |Kr c d=>calc lP R S c d y q|Dh c=>calc lQ R S c y q
end
def RD(e:A2):Bool:=Qs e.ctorIdx 7
def fv(h:RD e=Ab)(env:Env)(x:Aw):foldedSetIterable e env x=pure x:=by cases e<;>first|rfl|delta h
section
variable{z:A5}{s i:AM}{target:A2}{body:-C8}{idx:-Nat}{BW:-T}{Q:Fz->B5->Prop}{AV:Nat->B5->Prop}
def Ys(z:A5)(target:A2)(body:-C8)(idx:-Nat)(AV:B5->Prop)(Q:Fz->B5->Prop)(t:T)(Am:B5):Prop:=∀X Bj w,∃a,WR ((z.aA X Bj).ax Am w) target t a idx/\∀b,Dj ((z.aA X Bj).ax a b) (DJ body)<|Te AV Q
def GC(z:A5)(BW:-T)(AV:Nat->B5->Prop)(i:AM)(S:Tf)(a:AM)(j:Nat)(Am:B5)(w:-Aw×↑As):Prop:=He
 (j<=J BW)
 (Yr z S.aQ i Am w a)
 (S.Br j a.heap)
 (AV j Am)
def lR(h:j<m):m+1-(j+1)<m+1-j:=Rg (I1 h)<|EM j
def Cy.aQ{aQ:-As}(K:Cy B aQ s s1)(Ax:∀b o,b∉aQ->s1.heap.get? b=U o->Ay.get? b=U o)(c:∀a∈aQ,¬B a):Cy B aQ s {s1 with heap:=Ay,toks:=tk}:={by rw[K.1],λa o e n u=>Ax a o u<|K.2 a o e n u,λa h=>CF.at (K.3 a h) λo=>Ax a o λu=>c a u h}
def GB.h3(g:GB z i.heap f)(l:Hh s.heap i.heap):GB z s.heap f:=λa h=>(g a h).imp_right<|l a
def AdV(z:A5)(s:AM)(Q:Fz->B5->Prop)(q:Qv)(s':AM):Prop:=match q with
 |.ok f=>Ef z s Q f s'|.error e=>cameBackBy (Dw z) z.V.A z.env (λZ Z=>False) e s'
def vv{Bj:Dk z.Aa z.env (z.V.Ff aQ)}(R:AY z s)(Cz:CJ z s i)(m:∀b∈aQ,s.heap.get? b=Ai)(p:IC (z.aA _ Bj) aQ i Q Bf d):Ef z s Q Bf d:=
 have j:=R.bq Cz.1
 IC.rec (λc b q h p=>⟨c,b,q,h,p.1.dx (B:=λZ=>False) (tk:=d.toks) {(Dk.bS z).1,z.V.Ht,z.V.wx} (λZ=>.inl) (λZ h=>h.elim) (λZ Z Z e=>e) λZ Z h=>h.elim,p.2.h3 j,Cy.aH (R.cg Cz.1) p.3 (λZ=>.inl) (λa h=>.inr<|.inr<|m a h) λZ=>.inl,by
  have l:=p.4;cases c with
  |BS t=>calc ae l λv e y=>aE y λf y n g=>{v,e,f,y.cy λa h=>.inl<|.inl h,n,g.h3 j}
  |_=>calc l⟩) p
def lS{G:Aw}(h0:AV 0 z.Am)(MC:∀j t Am,BW[j]?=U t->AV j Am->Ys z target body idx (AV<|j+1) Q t Am)(EP:∀Am,AV (J BW) Am->Q .aX Am)(R:AY z s)(Cz:CJ z s i)(S:Tf)(g:Aa7 z Y target BW s.heap G i S):
  G9 (Dw z) z.V.A (.forLoop target G body [] z.env) (AdV z s Q) i:=by
 clear z s i target body idx BW Q AV G _ h0 MC EP R Cz S g;have Bj:Dk z.Aa z.env (z.V.Ff S.aQ):=R.cM g.6;have I:∀a∈S.aQ,¬z.V.X a:=λa h c=>R.bb a c<|g.6 a h;have lT:∀a∈S.aQ,¬z.IB a:=λa h w=>CF.bx (R.aQ a w)<|g.6 a h;have lW:∀a∈S.aQ,(z.aA _ Bj).V.X a/\¬z.Aa.W a/\¬GA z.env a:=λa h=>{.inr h,λc=>I a h<|z.V.wx a c,λc=>I a h<|DS.b4 z a c}
 rw[g.1];calc codeAny_forLoop_any (λn l=>∃j Am w,n=J BW+1-j/\GC (z.aA _ Bj) BW AV i S l j Am w) (λn l H=>cB H λj Am w V0 F=>?_) _ {0,z.Am,(z.Ae,z.AO),rfl,C9 _,{.bk,(R.enter Cz g.6 (g.7 0 _ g.4) Bj),Cy.bk Cz.2.aQ},g.4,h0};have L:=F.2;by_cases C:j<(J BW)
 ·calc g.2.item j l _ _ C F.3 λv Pz N V1 D=>g.2.go j v _ _ _ V1 λE BA WT V2=>?_;have Ax:∀b o,b∉S.aQ->l.heap.get? b=U o->E.get? b=U o:=λb o p e=>V2 b o p<|D b o p e;have RE:AY ((z.aA _ Bj).ax Am w) {l with heap:=E,toks:=N}:=L.2.dx (z:=(z.aA _ Bj).ax Am w) (B:=(·∈S.aQ)) {Bj.1,Bj.2,Bj.3} (λZ h=>h) lW Ax λa Z=>g.7 _ _ WT a;have WW:Cy z.IB S.aQ i {l with heap:=E,toks:=N}:=Cy.aQ L.3 Ax lT;calc ae (g.8 j v E ((z.aA _ Bj).ax Am w).M C (λa h=>h.elim (·.elim (λc=>.inl<|.inl c) λc=>.inr<|.inl c) λc=>(L.1 a c).elim (λc=>.inl<|.inr c) λc=>.inr<|.inr c) (λa o e m u=>WW.2 a o e (λc=>m (c.elim (λc=>.inl<|z.V.wx a c) (·.elim (λc=>.inl<|DS.b4 z a c) .inr))) u) BA) λt V3 Tg=>ae (MC j t Am V3 F.4 _ Bj w) λvw p hf=>CW (p _ v RE Tg) (λZ lX q=>ak q λq r=>?_) bL;have eZ:Cy z.IB S.aQ i lX:=Cy.aH WW r.3.1 (λa h=>.inl<|.inr<|.inl h) az λZ Z=>.inr CR;have lK:GB z i.heap q.2:=λa h=>L.1 a<|r.2 a h;calc Dj.aG (z:=(z.aA _ Bj).ax vw q) (hf q) r.1 λBf LJ Akc vx QM V4 lZ=>?_;have Yt:S.Br (j+1) LJ.heap:=g.2.frame _ _ _ WT λb p o e=>by calc cT (g.5 b p) λRF Dm Ks=>?_;have vy:¬z.Aa.W b:=λc=>RF<|z.V.wx b c;have lY:¬GA z.env b:=λc=>RF<|DS.b4 z b c;exact lZ.3.2 b o (r.3.1.2 b o e lY aS) (λc=>c.elim vy (·.elim lY λc=>(lK b c).elim (Dm rfl) λc=>ak Ks λZ e=>bl c e)) aS
  exact lG (z:=z.aA _ Bj) (w:=q) {lK,r.1,eZ} (λa h=>WW.bq (λa h=>CF.bx<|g.7 _ _ WT a h) a<|r.3.1.bq az a h) eZ V4 lZ (λd y L=>by
   rcases d with d|d<;>rw[d]<;>calc({J BW+1-(j+1),V0⊂lR C,j+1,vx,QM,rfl,C,L,Yt,y})) λf d P=>have P:=vv R Cz g.6 P
    d.elim (λd=>by rw[d.1];calc(rwl d.2 P:Ef z s Q .next LJ)) λd=>ae d λv d e=>by rw[d];exact(rwl e P:Ef z s Q (.ret v) LJ)
 ·have e:=Qy F.1<|bM C;calc g.2.done l _ _ (e∣F.3) λb N D=>ZZ {.aX,Am,w,EP Am<|e∣F.4,L.2.dx (z:=(z.aA _ Bj).ax Am w) (B:=(·∈S.aQ)) {(Dk.bS z).1,z.V.Ht,z.V.wx} (λZ=>.inl) lW D λa x h=>ar x<|I a h,GB.h3 L.1<|R.bq Cz.1,Cy.aH (R.cg Cz.1) (Cy.aQ L.3 D lT) (λZ=>.inl) (λa h=>.inr<|.inr<|g.6 a h) λZ=>.inl,rfl}
def vz(a:RD iter=Ab)(H:MB z Y target iter λa=>∃AV:Nat->B5->Prop,AV 0 z.Am/\(∀j t Am,a[j]?=U t->AV j Am->Ys z target body idx (AV<|j+1) Q t Am)/\∀Am,AV (J a) Am->Q .aX Am):Dj z (Gx<|.For target iter body [] pos) Q:=by
 clear z target iter body idx Q pos _ a H;exactλs R=>
  wpAny_For (CW (H s R) (λf a q=>CW q (λg i p=>M5.rec (λa q K S b=>aE q λa c d e=>lS c d e R K S b) p) bu) bu) (fv a _)
end
section
open AutoSeq1 (wpAny_loadPart')
def AP(n:Nat):Prop:=n<=1000000
section
variable{b:Nat}
abbrev Kt(a b:Nat):-T:=(Cn a<|b-a).map λ(x:Nat)=>T.au x
def vA(h:i<(Kt a b).length):(Kt a b)[i]?=U (.au<|(a:Int)+(i:Int)):=by rw[Bq,H6] at h;rw[Gw,AiS h];calc ah (λx:Int=>U<|T.au x) (by rw[kf];calc Int.natCast_add a i)
def lU(d:∃x p,target=.Name x p)(R:AY z s)(S:CJ z s s1)(f:AP a)(c:AP b)(q:Q (Kt a b))(g:IsRange s1.heap r (a:Int) (b:Int) 1 t u v):Ec z (Pg<|.ref r) (M5 z Bf target s Q) s1:=a4 d λx p d=>by
 have k:∀{n:Nat},AP n->Neg.neg (2^62:Int)<=n/\(n:Int)<2^62:=λ{n} h=>{j5 ∅<|Hr n,ZX (Qw.mpr h) ∅}
 calc wpAny_pyIter_range g (small_one (k f).1 (k f).2 (k c).1 (k c).2) ?_;rw[rangeSize_nat,d,Int.toNat_sub];refine fu R S q (λa o e=>D9 _ e) rfl (bU _) {_,Fn _ rfl} (by rw[Bq,H6]) (LCg.range_walks z.V.Eb.1 (a:Int)<|b-a) (λi v s Q E a j=>Bn j) ?_ (λi h a=>{_,a,d5 rfl rfl}) (λb c=>.inl<|aF c) λi v l q=>{_,vA l,q,rfl}
 calc(Int.add_zero (a:Int)).symm∣Fn _ rfl
def h4{Q:T->By->Prop}(ok:DY z.Aa)(c:z.V.C.BN.names.lookup x=U .globalImplicit)(d:x∈Pt)(A8:SI x=U EN)(f:Tb EN=Y)(a:HQ e=Ab)(R:AY z s)(H:BM z e Q)(k:∀v s' t AJ,Q t AJ->CJ z s s'->BL z s.heap s'.heap t AJ v->Ba (Dw z) z.V.A (Iq EN [v]) P E s'):Ba (Dw z) z.V.A (D4 (.Call (.Name x p) [e] [] pos) z.env) P E s:=
 Call_ (hY ok c d A8 R<|gz f (by rw[gy,a];rfl)<|Rd (H.aG R λv a t b q S y=>Wk<|k v a t b q S y)<|cf a)
def vB(ok:DY z.Aa)(a:∃x p,target=.Name x p)(c:z.V.C.BN.names.lookup ("range":Str)=U .globalImplicit)(d:HQ e=Ab)(H:BM z e λt Z=>∃b:Nat,t=.au b/\AP b/\Q (Kt 0 b)):MB z Bf target (.Call (.Name "range" p) [e] [] pos) Q:=λs R=>
 h4 ok c ∅ (by decide+kernel) (EN:=.type "range") rfl d R H λv c t d q S y=>aE q λb e f q=>ak (e▸y).au λb e=>by rw[e];calc call_range_1<|lU a R (S.aH<|S.2.bp<|.b5 λZ Z e=>D9 _ e) (C9 _) f q<|IsRange.new ..
def vC(ok:DY z.Aa)(h:∃x p,target=.Name x p)(i:z.V.C.BN.names.lookup ("range":Str)=U .globalImplicit)(c:HQ e=Ab)(d:HQ A3=Ab)(H:BM z e λt Z=>∃a:Nat,t=.au a/\BM z A3 λt Z=>∃b:Nat,t=.au b/\(AP a/\AP b)/\Q (Kt a b)):MB z Bf target (.Call (.Name "range" p) [e,A3] [] pos) Q:=λs R=>
 Call_ (hY ok i ∅ (by decide+kernel) R (gz (EN:=.type "range") rfl (by rw[gy,c,gy,d];rfl) (Rd (H.aG R λv c t i q S y=>ae q λa e H=>Rd (H.aG S.2 λa c d l q f j=>Wk (aE q λb a g q=>ak (e▸y).au λb e=>ak (a▸j).au λm a=>by rw[e,a];calc call_range_2<|lU h R ((S.aH f).aH<|f.2.bp<|.b5 λZ Z e=>D9 _ e) g.1 g.2 q<|IsRange.new ..))<|cf d)<|cf c)))
end
def lV:Manifest.owners.lookup (String.ofList ['d','e','s','r','e','v','e','r'].reverse)=U Manifest.sig_reversed:=Sort
def fw:Slot "reversed" "__next__" "reversed.__next__":=
 .of (owner:="reversed") (n:="__next__") (by rw[Vk,Vl];kernel_rfl) (by decide+kernel) (by decide+kernel) (by decide+kernel)
  (by first|calc .inl (by decide+kernel)|exact .inr<|by decide+kernel) (by rw[Vm];kernel_rfl)
def lJ:entryFor table "reversed.__next__"=U Builtin.«reversed.__next__»:=entryFor_of_tree<|Sort
def lO(a:Aw):argsOk "reversed.__next__" {[a],[]}:=by unfold argsOk;rw[signature?_of (id:="reversed.__next__") (n:=['_','_','t','x','e','n','_','_']) (Sort) lV];kernel_rfl
def l0:Slot "reversed" "__iter__" "reversed.__iter__":=
 .of (owner:="reversed") (n:="__iter__") (by rw[Vk,Vl];kernel_rfl) (by decide+kernel) (by decide+kernel) (by decide+kernel)
  (by first|calc .inl (by decide+kernel)|exact .inr<|by decide+kernel) (by rw[Vm];kernel_rfl)
def vD(a:Aw):argsOk "reversed.__iter__" {[a],[]}:=by unfold argsOk;rw[signature?_of (id:="reversed.__iter__") (n:=['_','_','r','e','t','i','_','_']) (Sort) lV];kernel_rfl
def vE:entryFor table "reversed.__iter__"=U Builtin.«dict_keyiterator.__iter__»:=
 entryFor_alias (id':="dict_keyiterator.__iter__") (Sort) (by first|rfl|decide+kernel|(unfold String.splitOn;simp+decide [String.splitOnAux])) (by decide+kernel) (Sort)
def vF:typeLookup (.type "tuple") "__reversed__"=pure Ai:=by rw[Vk,Vl];kernel_rfl
def l1:typeLookup (.type "tuple") "__getitem__"=pure (U<|.builtin "tuple.__getitem__"):=by rw[Vk,Vl];kernel_rfl
def vG:isSubtype (.type "tuple") (.type "dict")=pure Ab:=by rw[Vm];kernel_rfl
def RG(l:As)(i:Int):Obj:={cls:=.type "reversed",data:=.fields #[.ref l,It i]}
section
variable{prog:Gu}{w:FH}{A:EI}{E:Aw->AM->Prop}{s:AM}
def vH(b:HH s.heap l items)(d:(items.size:Int)<2^63)
  (h:Q₁ (.ref s.heap.objs.size) {s with heap:=s.heap.push<|RG l<|(items.size:Int)-1,toks:=s.toks+1+1}):
  G9 (BK prog w) A (.call (.builtin "reversed.__new__") {[.type "reversed",.ref l],[]}) (wants Q₁ E) s:=by
 clear prog w A E s l items Q₁ _ b d h;have c:s.TypeIs (.ref l) "tuple":=ae b λo e a=>{o,e,a.1}
 calc sW ?_;show Ba _ A.in1 (do kg "reversed.__new__" {[.type "reversed",.ref l],[]};again (.builtin "reversed.__new__" {[.type "reversed",.ref l],[]})) _ _ s;calc AL<|Ph (PySem.F.newCall_reversed_1 _)<|Bn {sX PySem.F.plain_reversed_new _,sZ PySem.F.entry_reversed_new ?_};rw[Around.under_plainId PySem.F.plain_reversed_new _];refine AL<|Ph (newClass_reversed _) ?_
 try dsimp only
 calc AL<|Ph (a:=()) (by first|rfl|kernel_rfl) ?_;refine AL<|Ph (a:=()) (by first|rfl|kernel_rfl) ?_
 try dsimp only
 refine AL<|sY c vF ?_
 try dsimp only
 calc AL<|AL<|Vg c vG ?_;simp only [X0,if_false];calc AL<|sY c l1 ?_;calc wpAny_ite_split (λZ=>?_) λf=>ar (by decide+kernel) f;calc Bn ?_;simp only [ZY,X0,if_false];calc AL<|PyProof.Rows.len_tuple b d ?_;calc AL<|Ph (a:=U (items.size:Int)) rfl ?_;dsimp only;calc AL ?_;show Ba _ _ (newObj (.type "reversed")<|.fields #[.ref l,It<|(items.size:Int)-1]) _ _ _;calc Ny<|Bn h
def l2:Slot "reversed" "__init__" "object.__init__":=
 .of (owner:="object") (n:="__init__") (by rw[Vk,Vl];kernel_rfl) (by decide+kernel) (by decide+kernel) (by decide+kernel)
  (by first|calc .inl (by decide+kernel)|exact .inr<|by decide+kernel) (by rw[Vm];kernel_rfl)
def vI:TypeCalled "reversed" "reversed.__new__" "object.__init__":=
 {by decide+kernel,by decide+kernel,{_,_,PySem.F.mro_reversed},PySem.F.made_reversed,by decide+kernel,by rw[Vm];kernel_rfl,l2}
def vL(a:HH s.heap l items)(b:(items.size:Int)<2^63)
  (h:Q (.ref s.heap.objs.size) {s with heap:=s.heap.push<|RG l<|(items.size:Int)-1,toks:=s.toks+1+1}):Ba (BK prog w) A (Iq (.type "reversed") [.ref l]) Q E s:=by
 clear prog w A E s l items Q _ a b h;refine callType_codes (Q₁:=λa c=>a=.ref s.heap.objs.size/\c={s with heap:=s.heap.push<|RG l<|(items.size:Int)-1,toks:=s.toks+1+1}) vI (PySem.F.typeCall_reversed_1 _) PySem.F.entry_object_init
  (vH a b {rfl,rfl}) ?_
 rintro obj c ⟨rfl,rfl⟩
 have d:Shared.TypeIs {s with heap:=s.heap.push<|RG l<|(items.size:Int)-1,toks:=s.toks+1+1} (.ref s.heap.objs.size) "reversed":={_,Fn _ rfl,rfl}
 calc {d,PySem.F.args_object_init_2 _ _,?_};have a:=l2.lookup;have e:=PySem.F.made_reversed;have f:(U "reversed.__new__" !=U "object.__new__")=Y:=by decide
 repeat(any_goals(first|assumption|wp_step))
 calc {rfl,h}
def RH(h:BX)(a l:As)(i:Int):Prop:=∃o,h.get? a=U o/\o.cls=.type "reversed"/\o.data=.fields #[.ref l,It i]
def RH.dj(x:RH s.heap a l i):s.TypeIs (.ref a) "reversed":=ae x λo b a=>{o,b,a.1}
def vM{n i:Nat}(h:i<n):seqIndex? (i:Int) n=U i:=ah (λj:Int=>if 0<=j&&j<n then U j.toNat else Ai) (ai (Rf.mpr<|Hr i):(if(i:Int)<0 then(i:Int)+n else i)=i)^ao (bc {aJ<|Hr i,aJ<|Nx.mpr h})
def vN{n i:Nat}(h:i<n):(n:Int)-1-(i:Int)=((n-1-i:Nat):Int):=(sU (Nat.le_sub_one_of_lt h)^ah (·-(i:Int)) (sU<|DG (C9 i) h)).symm
def vP{i:Nat}{items:Array Aw}{x:Aw}{Q:↥Aw->AM->Prop}(c:RH s.heap d l (i:Int))(f:HH s.heap l items)(e:items[i]?=U x)(g:(items.size:Int)<2^63)
  (h:∀Ay tk,RH Ay d l ((i:Int)-1)->Heap.SameBut d s.heap Ay->Q (U x) {s with heap:=Ay,toks:=tk}):Ba (BK prog w) A (pyNext<|.ref d) Q E s:=by
 clear prog w A E s d _ l i items x Q _ c f e g h;calc aE (id c) λo a A4 b=>?_;refine AL (Vf (Wo c.dj fw
  (MY fw c.dj lJ ?_<|lO _)))
 calc AL<|Ph rfl ?_;calc AL<|Pj a b rfl ?_;calc AL<|Pj a b rfl ?_;show Ba _ _ (if(i:Int)<0 then _ else _) _ _ s;rw[ai<|Rf.mpr<|Hr i];calc AL<|sY (ae f λo a b=>{o,a,b.1}) l1 ?_;calc wpAny_ite_split (λm=>ar m ∅) λZ=>?_;calc AL<|wpAny_mkInt ?_;have j:i<items.size:=by
  by_cases z:i<items.size;·exact z
  ·rw[kb<|bM z] at e;delta e
 calc AL<|Vf<|PyProof.Rows.getItem_tuple f (j5 ∅<|Hr i) (Int.lt_trans (Nx.mpr j) g) (vM j) e ?_;dsimp only;calc AL<|Pj a b rfl ?_;calc AL<|XJ a b (by simp) ?_;calc Bn {x,rfl,Bn<|h _ _ ?_<|Heap.SameBut.update ..};calc⟨_,SM _ a<|Obj.isFreed_of_fields<|Obj.data_mapFields b _,Obj.cls_mapFields ..^A4,by
  rw[Obj.data_mapFields b];simp⟩
def vQ(g:A.handled=Ai)(d:RH s.heap e l (Neg.neg 1))
  (h:∀Ay,Heap.ExtBut e s.heap Ay->Q Ai {s with heap:=Ay}):Ba (BK prog w) A (pyNext<|.ref e) Q E s:=by
 clear prog w A E s e l Q _ g d h;calc aE (id d) λo f A4 c=>?_;refine AL (Vf (Wo (name:=Qo "__next__") d.dj fw
  (MY fw d.dj lJ ?_<|lO _)))
 refine AL<|Ph (a:=(Ir e,[])) rfl ?_
 try dsimp only
 calc AL<|Pj f c (x:=.ref l) rfl ?_;calc AL<|Pj f c (x:=It<|Neg.neg 1) rfl ?_;show Ba _ _ (if(Neg.neg 1:Int)<0 then _ else _) _ _ s;rw[ao ∅];calc AL<|SP ?_;calc AL<|AL<|XJ f c (by simp) ?_;calc XJ (SM (Obj.mapFields (·.setIfInBounds 1 (It<|Neg.neg 1))) f<|Obj.isFreed_of_fields<|Obj.data_mapFields c _) (Obj.data_mapFields c _) (by simp) ?_;calc AL ?_;calc AL ?_;simp only [newExc,newTuple];refine AL<|Ny ?_<|by size_fits
 calc AL (m:=ZK _ _)<|Ph (a:=Pf) (by first|rfl|(simp only [ZK];rfl)) ?_;refine Ny ?_<|by size_fits
 calc kc g ?_;calc AL<|Vg (T:="StopIteration") (b:=Y) {_,Fn _ rfl,rfl} isSubtype_stop ?_;calc Bn<|h _<|(((Heap.SameBut.update ..).trans<|Heap.SameBut.update ..).extBut.push _).push _
def vR(a:RH s.heap b l i)(h:Q (.ref b) s):Ba (BK prog w) A (Pg<|.ref b) Q E s:=by calc wpAny_pyIter_slot a.dj l0<|MY l0 a.dj vE ?_<|vD _;calc Bn {_,rfl,"reversed",_,a.dj,fw.lookup,h}
def vS(j:A.handled=Ai)(I l:As)(m:l≠I)(items:Array Aw)(p:(items.size:Int)<2^63):
  Walks prog w A I [I,l] [I] items.size (λi v=>items[items.size-1-i]?=U v) (λi h=>i<=items.size/\RH h I l ((items.size:Int)-1-(i:Int))/\HH h l items) where
 sub:=λb a=>aF a∣.head _
 frame:=λZ Z Z x b=>{x.1,ae x.2.1 λo a r=>{o,b I (.head _) o a,r},ae x.2.2 λo a r=>{o,b l (.tail _<|.head _) o a,r}}
 item:=λi s Q E Cj x c=>by have e:(items.size:Int)-1-(i:Int)=((items.size-1-i:Nat):Int):=vN Cj;have PA:=x.2.1;rw[e] at PA;have f:items[items.size-1-i]?=U (items[items.size-1-i]'(AiT Cj)):=Wr<|AiT Cj;calc vP PA x.2.2 f p λAy tk g C6=>?_;have A3:((items.size-1-i:Nat):Int)-1=(items.size:Int)-1-((i+1:Nat):Int):=ah (·-1) e.symm^sV ..;rw[A3] at g;exact c _ Ay tk f {Cj,g,ae x.2.2 λo a r=>{o,C6.2 l m^a,r}} λb o a d=>C6.extBut b o (λh=>a<|h∣.head _) d
 done:=λs Q E x c=>by have e:(items.size:Int)-1-(items.size:Int)=Neg.neg 1:=sV ..^(ah (λz=>(items.size:Int)-z)<|Int.add_comm 1 _).trans ((sV ..).symm.trans (ah (·-1)<|Int.sub_self _));have PA:=x.2.1;rw[e] at PA;exact vQ j PA λa q=>c a s.toks λb o a d=>q b o (λh=>a<|h∣.head _) d
 self:=λZ Z Z Z x c=>vR x.2.1 c
end
section
variable{Q:-T->Prop}
def vT(ok:DY z.Aa)(u:∃x q,target=.Name x q)(A:z.V.C.BN.names.lookup ("reversed":Str)=U .globalImplicit)(B:HQ e=Ab)(H:BM z e λt a=>∃xs,t=.aT xs/\Fs xs=Y/\(a=.AU\/a=.DC/\GZ xs=Y)/\Q (Fp xs).reverse):MB z Bf target (.Call (.Name "reversed" p) [e] [] pos) Q:=λs R=>
 h4 ok A ∅ (by decide+kernel) (EN:=.type "reversed") rfl B R H λv s1 t AJ q S y=>a6 q λxs D F c q=>a4 u λx Akd A3=>BL.items (Bf:=Bf) (o:=Ab) (xs:=xs) (Cr:=.aT) R (c.imp_right λc=>{c.1,Pk Bf}) (D▸y) λn AW a p r=>by
  have y:=r (c.imp_right (·.2));have b:HH s1.heap n.a n.Ae.toArray:=a;have f:∃o,s1.heap.get? n.a=U o:=ae b λZ e Z=>{_,e}
  have d:n.Ae.toArray.size=(Fp xs).length:=y.bo;have G:n.Ae.toArray.size<=1000000:=by rw[d,dv,Bq];exact el F
  have g:(n.Ae.toArray.size:Int)<2^63:=ZX (Qw.mpr G) ∅;have j:¬z.M n.a:=λm=>ae (S.2.d3 n.a m) λZ I L=>aE b λZ N P X=>L<|BQ (N.symm^I)▸{P,_,X};rw[AW,A3];calc vL b g ?_;have up:∀c o,s1.heap.get? c=U o->(s1.heap.push<|RG n.a<|(n.Ae.toArray.size:Int)-1).get? c=U o:=λc o e=>D9 _ e;have W:=vS (prog:=z.Aa.De) (w:=z.Aa.w) z.V.Eb.1 s1.heap.objs.size n.a (eK f) n.Ae.toArray g;have st:0<=n.Ae.toArray.size/\RH (s1.heap.push<|RG n.a<|(n.Ae.toArray.size:Int)-1) s1.heap.objs.size n.a ((n.Ae.toArray.size:Int)-1-((0:Nat):Int))/\HH (s1.heap.push<|RG n.a<|(n.Ae.toArray.size:Int)-1) n.a n.Ae.toArray:=
   {C9 _,{_,Fn _ rfl,rfl,by rw[RG,Int.natCast_zero,Int.sub_zero]},ae b λo q w=>{o,up _ o q,w}}
  calc W.self 0 _ _ _ st<|fu R S q up rfl (bU _) {_,Fn _ rfl} (d^X1.symm) W (λi v s Q E a b=>Bn b) st (λi h a=>dy rfl a.2.1) (gB f {λx=>j<|.inl x,λZ x=>j<|.inr x}) λi v l w=>?_;rw[X1] at l;rw[List.getElem?_reverse l,<-d];calc y.dw<|Wm.symm.trans w
end
end
section
open AutoSeq1 (wpAny_loadPart')
def Th(i:Nat):-T->↑T
 |[]=>[]
 |x::xs=>.aT [.au i,x]::Th (i+1) xs
def vW{s:AM}{a:As}(c:s.heap.IsTupleIter a l i)
  (e:s.heap.IsTuple l items)(f:items[i]?=U x)
  (g:∀Ay,Ay.IsTupleIter a l (i+1)->Heap.SameBut a s.heap Ay->Q x {s with heap:=Ay}):
  Ba (BK prog w) A (Builtin.SmallTypes.nextOf<|.ref a) Q E s:=by
 clear prog w A E s a _ l i items x Q _ c e f g;calc aE (id c) λo d A4 b=>?_;obtain⟨m,h,_,p,j⟩:=e;refine AL (Wo (name:=Qo "__next__") c.typeIs PySem.F.slot_tuple_iterator_next
  (MY PySem.F.slot_tuple_iterator_next c.typeIs PySem.F.entry_tuple_iterator_next ?_<|PySem.F.args_tuple_iterator_next_1 _))
 show Ba _ _ (field (.ref a) 0>>=_) _ _ s;calc AL<|Pj d b (x:=.ref l) rfl ?_;rw[ai<|show¬((Ir l==Pf)=Y) from H3];calc AL<|Pj d b (x:=.int i 0) rfl ?_;calc AL<|sJ h j ?_;dsimp only;rw[show items[kh i]?=U x from f];show Ba _ _ (setField (.ref a) 1 _>>=_) _ _ s;calc AL<|XJ d b (by simp)<|Bn {x,rfl,Bn<|g _ ?_<|Heap.SameBut.update ..};calc⟨_,SM _ d<|Obj.isFreed_of_fields<|Obj.data_mapFields b _,Obj.cls_mapFields ..^A4,by
  rw[Obj.data_mapFields b];simp [It]⟩
def vX{b l:As}{i:Nat}{items:Array Aw}{Q:Aw->AM->Prop}(g:A.handled=Ai)
  (c:s.heap.IsTupleIter b l i)(h:s.heap.IsTuple l items)(j:items[i]?=Ai)
  (p:∀Ay e,Heap.ExtBut b s.heap Ay->(∃o,Ay.get? e=U o/\o.cls=.type "StopIteration")->E (.ref e) {s with heap:=Ay}):
  Ba (BK prog w) A (Builtin.SmallTypes.nextOf<|.ref b) Q E s:=by
 clear prog w A E s b l i items Q _ g c h j p;calc aE (id c) λo d A4 f=>?_;obtain⟨t,q,_,u,r⟩:=h;refine AL (Wo (name:=Qo "__next__") c.typeIs PySem.F.slot_tuple_iterator_next
  (MY PySem.F.slot_tuple_iterator_next c.typeIs PySem.F.entry_tuple_iterator_next ?_<|PySem.F.args_tuple_iterator_next_1 _))
 show Ba _ _ (field (.ref b) 0>>=_) _ _ s;calc AL<|Pj d f (x:=.ref l) rfl ?_;rw[ai<|show¬((Ir l==Pf)=Y) from H3];calc AL<|Pj d f (x:=.int i 0) rfl ?_;calc AL<|sJ q r ?_;dsimp only;rw[show items[kh i]?=Ai from j];show Ba _ _ (rule _>>=λZ=>setField (.ref b) 0 _>>=_) _ _ s;calc AL<|SP<|AL<|XJ d f (by simp) ?_;calc AL ?_;simp only [newExc,newTuple];refine AL<|Ny ?_<|by size_fits
 calc AL (m:=ZK _ _)<|Ph (a:=Pf) (by first|rfl|(simp only [ZK];rfl)) ?_;refine Ny ?_<|by size_fits
 calc kc g ?_;calc p _ _ (((Heap.SameBut.update ..).extBut.push _).push _) {_,Fn _ rfl,rfl}
def vK(c:A.handled=Ai)(b l:As)(d:l≠b)(items:Array Aw):
  Draws prog w A b [b,l] items.size (λi v=>items[i]?=U v) (λi h=>h.IsTupleIter b l i/\h.IsTuple l items) where
 live:=λZ Z b=>ae b.1 λo a Z=>{o,a}
 frame:=λZ Z Z c d=>{ae c.1 λo a r=>{o,d b (.head _) o a,r},ae c.2 λo a r=>{o,d l (.tail _<|.head _) o a,r}}
 item:=λi s Q E Cj st e=>by calc vW st.1 st.2 (Wr Cj) λAy f C6=>?_;exact e _ Ay s.toks (Wr Cj) {f,ae st.2 λo a r=>{o,C6.extBut l o d a,r}} C6
 done:=λs Q E a g=>vX c a.1 a.2 (kb<|CE _) g
def vZ{Q:α->AM->Prop}(h:∀a,Q a s):Ba M A (pure x) Q E s:=Bn<|h _
def vY(l:As)(items:Array Aw)(n:Nat)(Dh:↥As)(Am:Array ↥Aw):
  Meets (Builtin.«enumerate.__new__» {[.type "enumerate",.ref l],[]}) (λZ R s=>s.heap.get? l=U {cls:=.type "tuple",dict:=Dh,data:=.seq items n,slots:=Am}/\
   R (.ok<|.ret<|.ref (s.heap.push {cls:=.type "tuple_iterator",data:=.fields #[.ref l,.int 0 0]}).objs.size)
    {s with heap:=(s.heap.push {cls:=.type "tuple_iterator",data:=.fields #[.ref l,.int 0 0]}).push {cls:=.type "enumerate",data:=.fields #[.none,.bool Ab,.ref s.heap.objs.size,It 0,.none,.none]}}):=by
 clear l items n Dh Am _;exact .of_wp λprog w A R s h=>by
   obtain⟨e,g,d,tk,os⟩:=s;calc aC h λa h=>?_;have f:=sub_enumerate;have c:Heap.IsTuple (Shared.heap {e,g,d,tk,os}) l items:={_,a,rfl,n,rfl}
   wp_walk using sO a
   calc wpAny_stack_any λst=>vZ λb=>?_;cases b
   ·wp_walk using sO a,sT c
    exact {_,rfl,h}
   ·wp_walk using sO a,sT c
    calc {_,rfl,h}
def vU{s:AM}{l:As}{items:Array Aw}{Q:Aw->AM->Prop}(e:s.heap.IsTuple l items)
  (h:∀Ay,IsEnum Ay (s.heap.objs.size+1) s.heap.objs.size 0 .none->Ay.IsTupleIter s.heap.objs.size l 0->Ay.objs.size=s.heap.objs.size+2->
   (∀b o,s.heap.get? b=U o->Ay.get? b=U o)->Q (.ref<|s.heap.objs.size+1) {s with heap:=Ay}):
  Ba (BK prog w) A (Iq (.type "enumerate") [.ref l]) Q E s:=by
 clear prog w A E s l items Q _ e h;obtain⟨⟨c,Dh,g,Am⟩,i,A4,n,a⟩:=e;replace A4:c=.type "tuple":=A4;replace a:g=.seq items n:=a;subst A4 a;refine callType_new PySem.F.called_enumerate ∅ (PySem.F.typeCall_enumerate_1 _) (PySem.F.newCall_enumerate_1 _) (λa=>PySem.F.args_object_init_2 a _) PySem.F.entry_enumerate_new
  (vY l items n Dh Am) {i,?_}
 have d:(s.heap.push {cls:=.type "tuple_iterator",data:=.fields #[.ref l,.int 0 0]}).objs.size=s.heap.objs.size+1:=X2 ..;rw[d];have f:IsEnum ((s.heap.push {cls:=.type "tuple_iterator",data:=.fields #[.ref l,.int 0 0]}).push
   {cls:=.type "enumerate",data:=.fields #[.none,.bool Ab,.ref s.heap.objs.size,It 0,.none,.none]}) (s.heap.objs.size+1) s.heap.objs.size 0 .none:=by
  have:=Fn (s.heap.push {cls:=.type "tuple_iterator",data:=.fields #[.ref l,.int 0 0]})
   (o:={cls:=.type "enumerate",data:=.fields #[.none,.bool Ab,.ref s.heap.objs.size,It 0,.none,.none]}) rfl
  rw[d] at this;exact this
 calc {{_,f,rfl},h _ f {_,D9 _<|Fn _ rfl,rfl,rfl} (by rw[X2,d]) λb o x=>D9 _<|D9 _ x}
def l3:∀(xs:-T) (i j:Nat),(Th j xs)[i]?=xs[i]?.map λx=>.aT [.au ((j+i:Nat):Int),x]
 |[],_=>λZ=>rfl|_::_,0=>λZ=>rfl|_::xs,i+1=>λj=>l3 xs i (j+1)^(by rw[El,FO 1 i];rfl)
def l4:∀(xs:-T) (j:Nat),(Th j xs).length=(J xs)
 |[]=>λZ=>rfl|_::xs=>λj=>ah (·+1)<|l4 xs<|j+1
section
variable{z:A5}{Bf:Bool}{target:A2}{s s1:AM}
def l5{BW:-T}{Br:Nat->BX->Prop}{Ay:BX}(p:∃u n q,target=.Tuple u n q)(R:AY z s)(S:CJ z s s1)(q:Q (Th 0 BW))(a:∃o,s1.heap.get? b=U o)(l:¬z.V.X b/\(Bf=Y->b∉z.AO))(y:Bl z.Aa z.M s1.heap BW Ae [])(keep:∀b o,s1.heap.get? b=U o->Ay.get? b=U o)(d:IsEnum Ay (s1.heap.objs.size+1) s1.heap.objs.size 0 .none)(B:CF Ay s1.heap.objs.size)(st:Br 0 Ay)(C:∀i h,Br i h->CF h s1.heap.objs.size)
  (D:Draws z.Aa.De z.Aa.w z.V.A.in1 s1.heap.objs.size [s1.heap.objs.size,b] Ae.toArray.size (λi v=>Ae.toArray[i]?=U v) Br):Ec z (Pg<|.ref<|s1.heap.objs.size+1) (M5 z Bf target s Q) {s1 with heap:=Ay}:=by
 clear z Bf target s s1 Q _ b Ae BW Br Ay _ p R S q a l y keep d B st C D;exact bI p λu bl W E=>by
  rw[E];have f:=S.2;have g:∀b∈[s1.heap.objs.size+1,s1.heap.objs.size],s1.heap.get? b=Ai:=λb a=>(aK a).elim (λe=>e⊂ZU (Ex _)) λa=>aF a⊂bU _;have j:∀b∈[s1.heap.objs.size+1,s1.heap.objs.size],¬z.V.X b/\(Bf=Y->b∉z.AO):=λb a=>{λx=>f.bb b x<|g b a,λZ x=>CF.bx (f.bE b x)<|g b a}
  have Bu:=(WalksT.enumerateD D (s1.heap.objs.size+1) (Wu _) (λm=>(aK m).elim (Wu _) λm=>ar (aF m)<|Ha<|I1<|ak a λo F=>Gv F)<|.head _).toU;refine Bu.self 0 _ _ _ {{_,d},st} {_,q,S.aH<|f.bp<|.b5 keep,{s1.heap.objs.size+1,_,[s1.heap.objs.size+1,s1.heap.objs.size],_,_,_},rfl,(l4 BW 0^(LX.trans y.bo).symm)⊂KTurns.ofWalksU Bu,Bu.self,{{_,d},st},λc A4=>?_,λc a=>R.bq S.1 c<|g c a,λi h a c b=>(aK b).elim (λe=>e▸ak a.1 λZ d=>{_,d,d5 rfl rfl}) λb=>aF b▸C _ _ a.2,λi v RI Df Cj G Ax BA=>?_}
  ·rcases aK A4 with e|A4
   ·exact e⊂{(j _<|.head _).1,(j _<|.head _).2,_,d}
   rcases aK A4 with e|A4
   ·exact e⊂{(j _<|.tail _<|.head _).1,(j _<|.tail _<|.head _).2,ae B λo e Z=>{o,e}}
   ·rw[aF A4];exact {l.1,l.2,ak a λo q=>{o,keep _ o q}}
  ·calc a8 BA λH I AW A3 L=>bP A3 λt x N A3=>ae (y.dw<|Wm.symm.trans N) λw P r=>?_;rw[l3,P,EV];calc {_,rfl,{H,0,I.toList,[]},AW,L,A3⊂.eX {{t,rfl},rfl} (.eX (lN f keep g G Ax r) {rfl,rfl}),rfl,az,λZ=>rfl}
def l6(ok:DY z.Aa)(l:∃w n q,target=.Tuple w n q)(B:z.V.C.BN.names.lookup ("enumerate":Str)=U .globalImplicit)(g:HQ e=Ab)(H:BM z e λt a=>∃b o xs,t=.ab (S9 b) o xs/\((a=.AU\/a=.DC/\(Bf&&o)=Ab)/\(a=.AU\/GZ xs=Y))/\Q (Th 0<|Fp xs)):MB z Bf target (.Call (.Name "enumerate" p) [e] [] pos) Q:=λs R=>
 h4 ok B ∅ (by decide+kernel) (EN:=.type "enumerate") rfl g R H λv s t w q S y=>dV q λb o t D c q=>BL.items (Bf:=Bf) R c.1 (D∣y) λn t a p r=>by
  have r:=r c.2;have I7:∀{o:Obj},s.heap.get? n.a=U o->n.a≠s.heap.objs.size:=λe=>EX<|Gv e;rw[t];cases b with
  |false=>
   have d:s.heap.IsList n.a n.Ae.toArray:=Heap.PlainList.isList a;calc ae d λZ f Z=>call_enumerate_list d λb g j E c=>l5 l R S q {_,f} (p n.a<|.head _) r c g (dy rfl j) {j,d.at λo e=>c _ o e} (λi h a=>dy rfl a.1)<|Draws.list (A:=z.V.A.in1) z.V.Eb.1 s.heap.objs.size n.a (I7 f) n.Ae.toArray
  |true=>
   have d:HH s.heap n.a n.Ae.toArray:=a;have u:¬z.M n.a:=λm=>ae (S.2.d3 n.a m) λZ F G=>aE d λZ I L N=>G<|BQ (I.symm^F)∣{L,_,N};calc ae d λZ f b=>vU a λc g j E d=>l5 l R S q {_,f} {λx=>u<|.inl x,λZ x=>u<|.inr x} r d g (dy rfl j) {j,{_,d _ _ f,b}} (λi h a=>dy rfl a.1)<|vK (A:=z.V.A.in1) z.V.Eb.1 s.heap.objs.size n.a (I7 f) n.Ae.toArray
end
end
def Flow.LO:Flow->Aw
 |.ret v=>v|_=>.none
structure Er where
 FQ:As
 Eg:↑C8
 BN:Dz
 FR:↑Str
 NM:↑Str
 E3:-T
instance:Nonempty Er:={0,[],Yn,[],[],[]}
def Er.Aq(F:Er):-Str:=F.FR++F.NM
def Er.C(F:Er):Ea:={F.Aq.map U,F.BN}
def Er.CA(F:Er):Prop:=Mo
 (∀x∈F.Aq,F.BN.names.lookup x=U .local\/F.BN.names.lookup x=U .cell)
 (F.Aq.Nodup)
 (F.BN.kind=.function)
 (F.BN.isCoroutine=Ab)
 (F.BN.isGenerator=Ab)
def AdJ(Aa:C0)(F:Er)(AF:XZ):Prop:=Pr
 (AF.body=.stmts F.Eg)
 (AF.scope=F.BN)
 (AF.globals=Ed)
 (AF.builtins=Ip)
 (AF.closure=[])
 (codeIn Aa.K AF.code AF.qualname=Y)
 (∀(s:AM) (Ae:-Aw),(∀b o,Aa.Cx.get? b=U o->s.heap.get? b=U o)->J Ae+J F.E3=J F.FR->∃GJ,(∀M:As->Prop,Bl Aa M s.heap F.E3 GJ [])/\BindsTo s AF {Ae,[]} (F.FR.zip<|Ae++GJ))
def HS(Aa:C0)(F:Er):Prop:=Em
 (F.CA)
 (∃p:Obj×XZ,Aa.K.lookup F.FQ=U p.1/\p.1.data=.func p.2/\AdJ Aa F p.2)
inductive Yu(z:A5)(s:AM)(Q:T->Prop)(v:Aw)(s':AM):Prop
 |mk (t:T) (f:-As) (q:Q t) (S:CJ z s s') (y:A9 z.Aa z.V.X s'.heap t v f) (ab:f.Nodup) (new:∀a∈f,s.heap.get? a=Ai)
def Ia(Aa:C0)(k:Nat)(EN:Aw)(Av:-T)(Q:T->Prop):Prop:=∀(z:A5) s Ae,z.Aa=Aa->z.V.k=k->AY z s->Bl z.Aa z.V.X s.heap Av Ae []->Ec z (Iq EN Ae) (Yu z s Q) s
def Er.Gg(F:Er)(Av:-T):B5:=(Av++F.E3).map U++CV (J F.NM) Ai
def dT{l:-(Str×α)}(h:x≠y):((y,c)::l).lookup x=l.lookup x:=by rw[AiW,beq_eq_false_iff_ne.mpr h]
def fx:∀(names:-(Str×Rh)) (n:Nat) (ay:-(Str×As)) (x:Str),(∃c,ay.lookup x=U c)\/names.lookup x=U .cell->∃c,(cellsFrom n names ay).lookup x=U c
 |[]=>λn a x h=>h.elim id dJ|(y,kind)::r=>λn ay x h=>by
  unfold cellsFrom;by_cases q:(kind==NameKind.cell)=Y
  ·rw[ao q];calc fx r _ _ x ?_;by_cases e:x=y;·exact .inl {n,e∣SQ}
   ·rw[dT e];exact h.imp_right λh=>(dT e).symm^h
  ·rw[ai q];calc fx r _ _ x<|h.imp_right λh=>?_;by_cases e:x=y
   ·rw[e,SQ] at h;exact ar (BQ h⊂beq_self_eq_true NameKind.cell) q
   ·calc(dT e).symm^h
section
variable{kindOf:Str->↥Rh}
def l7:∀(bs:-(Str×Aw)) (m cm:Str->↥Aw),(∀p∈bs,p.1≠x)->bindL kindOf bs m x=m x/\bindC kindOf bs cm x=cm x
 |[]=>λZ Z Z=>{rfl,rfl}
 |(n,v)::r=>λm f h=>by
  have a:=λm f=>l7 r m f λp d=>h p<|.tail _ d;have b:x≠n:=λe=>h (n,v) (.head _) e.symm;rw[(a _ f).1,(a m _).2];by_cases c:kindOf n=U .local
  ·rw[ao c,ao c];exact {ai b,rfl}
  ·rw[ai c,ai c];calc {rfl,ai b}
def gC:∀(ns:-Str) (Ae:-Aw) (m cm:Str->↥Aw),ns.Nodup->∀{i:Nat} {v:Aw},ns[i]?=U x->Ae[i]?=U v->
  (kindOf x=U .local->bindL kindOf (ns.zip Ae) m x=U v)/\(kindOf x=U .cell->bindC kindOf (ns.zip Ae) cm x=U v)
 |[],_,_,_,_,_,_,a,_=>dJ a|_::_,[],_,_,_,_,_,_,A8=>dJ A8|n::ns,u::Ae,m,cm,c,i,v,a,A8=>by
  rw[s6];have h:=du c;cases i using Nat.casesOn with
  |zero=>
   have An:n=x:=BQ a;have b:=λm a=>l7 (kindOf:=kindOf) (x:=x) (ns.zip Ae) m a λp f e=>h.1<|An▸rwl e ((AiX f).1);refine {λe=>?_,λe=>?_}
   ·rw[(b _ cm).1,ao<|An⊂e];exact ao An.symm^A8
   ·rw[(b m _).2,ai λd=>nomatch (An▸d).symm.trans e];calc(ao An.symm).trans A8
  |succ i=>calc gC ns Ae _ _ h.2 a A8
end
def Lx(Aa:C0)(X:As->Prop)(s:AM):Prop:=MO
 (∀b o,Aa.Cx.get? b=U o->s.heap.get? b=U o)
 (∀a,X a->CF s.heap a)
 (Aa.W Aa.P->Mr Aa.P s.heap)
 (∀a,X a->Aa.Cx.get? a=Ai)
 (∀a,Aa.W a->X a)
 (Aa.Cx.objs.size<=s.heap.objs.size)
def AY.ba(R:AY z s):Lx z.Aa z.V.X s:={R.1,R.2,R.3,z.V.Ht,z.V.wx,ae R.7 λZ a Z=>z.V.Rx\BY a.lt}
section
variable{Aa:C0}{F:Er}
def gD{d a b k e:Nat}(h:a<=b):d+a+b*k+e<=d+b*(k+1)+e:=G8 (Di (Hb d a<|b*k)\(Du h (d+b*k)\Di (El d (b*k) b^ah (d+·) (Wv b k).symm))) e
def FL.cK(a:FL (k+1) A)(env:Env):FL k (A.deeper env):={a.1,DG (by clear a;show A.depth+1+4*k+8<=A.depth+4*(k+1)+8;calc gD ∅) a.2,DG (by clear a;show A.units+3+100*k+200<=A.units+100*(k+1)+200;calc gD ∅) a.3}
def Ti(F:Er)(s:AM)(env:Env):Prop:=MO
 (env.locals=s.heap.objs.size)
 (env.scope=F.BN)
 (env.cells=cellsFrom (s.heap.objs.size+1) F.BN.names [])
 (env.globals=Ed)
 (env.builtins=Ip)
 (env.frame=U env.locals)
abbrev Ku(F:Er)(Ae:-Aw)(s:AM)(env:Env)(s1:AM):Prop:=InCallC s env.locals (bindL env.kindOf (F.FR.zip Ae) λZ=>Ai) env.cells (bindC env.kindOf (F.FR.zip Ae) λZ=>Ai) s1
def Ti.cP(E:Ti F s env)(I:InCallC s env.locals m env.cells cm s1):∀a,GA env a->s.heap.get? a=Ai:=λa h=>ZU<|h.elim (λe=>e▸rwl E.1 (CE _)) λh=>ak h λx e=>BY<|E.1∣I.above x a (mem_of_lookup e)
def enter(ok:DY Aa)(H:HS Aa F)(st:∀b o,Aa.Cx.get? b=U o->s.heap.get? b=U o)(m:A.depth<U8)(i:J Ae+J F.E3=J F.FR)
  (h:∀env GJ Ay tk,Ti F s env->(∀o AF,s.heap.get? F.FQ=U o->o.data=.func AF->env.code=AF.code)->(∀M:As->Prop,Bl Aa M s.heap F.E3 GJ [])->(Ae++GJ).length=J F.FR->Ku F (Ae++GJ) s env {s with heap:=Ay,toks:=tk}->
   Ba (BK Aa.De Aa.w) (A.deeper env) (DJ F.Eg env) (λf a=>g (.ok<|.ret<|Flow.LO f) a) (λe a=>Ba (BK Aa.De Aa.w) (A.deeper env) (Vn env e) (λZ a=>g (.error e) a) (λZ Z=>False) a) {s with heap:=Ay,toks:=tk}):
  G9 (BK Aa.De Aa.w) A (.call (.ref F.FQ) {Ae,[]}) g s:=aE H.2 λp r j D=>ae (D.7 s Ae st i) λGJ l t=>by
 have Ax:=ok.1.keeps st _ _ r;have d:=D.2;calc codeAny_call_function m Ax j (d⊂H.1.4) (d⊂H.1.5) D.1 (codeRec_of (ok.1.keeps st) D.6) ?_;rw[D.5];calc t _ _ _ _<|wpAny_newFunctionEnv_cells (d⊂H.1.3) (λx u=>d▸(H.1.1 x.1<|CL _ (AiX u).1).imp_right λh=>{h,ak (fx F.BN.names (s.heap.objs.size+1) [] x.1<|.inr h) λc a=>by rw[a];rfl}) λenv a s' I=>?_;refine {(ok.2.keeps st).keeps I.toInCall.keep,codeAny_func<|CW (?_:Ba (BK Aa.De Aa.w) (A.deeper env) (DJ F.Eg env) (λf a=>g (.ok<|.ret<|Flow.LO f) a) (λe a=>Ba (BK Aa.De Aa.w) (A.deeper env) (Vn env e) (λZ a=>g (.error e) a) (λZ Z=>False) a) s') (λf s2 y=>?_) λe a y=>CW y bu bL}
 ·have q:=I.toInCall.same;calc a4 q λAy tk AW=>?_;rw[AW] at I⊢;exact h env GJ Ay tk {a⊂rfl,a⊂d,a▸rwl d rfl,a⊂D.3,a⊂D.4,a⊂rfl} (λo b z B=>a⊂(Data.func.inj ((ah Obj.data (BQ<|z.symm.trans Ax)▸B.symm)^j)▸rfl)) l (by rw[BD,(l λZ=>False).bo];calc i) I
 ·induction f<;>calc y
def gE{i:Nat}(h:F.C.Aq[i]?=U (U x)):F.Aq[i]?=U x:=ae (bD<|Gw.symm.trans h) λy b a=>BQ a∣b
def RL(H:F.CA)(a:FL k A)(B:Lx Aa X s)(E:Ti F s env)(I:Ku F Ae s env s1):DS where
 Aa:=Aa
 C:=F.C
 k:=k
 A:=A
 env:=env
 X a:=X a\/GA env a
 Eb:=a
 BN:=E.2
 Hf:=E.2⊂H.3
 NH:=E.4
 S6:=E.5
 S7:=by show(env.scope.kind==.module&&_)=Ab;rw[E.2,H.3];rfl
 S8 i j x Cj d:=(AiK (bK<|gE Cj) H.2).mp (gE Cj^(gE d).symm)
 Rv x b:=E.3⊂fx F.BN.names _ [] x (.inr b)
 Rw x y c b f:=name_of_addr I.apart (mem_of_lookup b) (mem_of_lookup f)
 Rx:=E.1⊂B.6
 Hg:=.inr (.inl rfl)
 LY x c h:=.inr (.inr {x,h})
 Iz h:=CF.bx (B.2 _<|B.5 _ h) (E.cP I _<|.inl rfl)
 Ms x c h:={λw=>CF.bx (B.2 _<|B.5 _ w)<|E.cP I _<|.inr {x,h},Ha<|I.above x c<|mem_of_lookup h}
 Ht a h:=h.elim (B.4 a) λh=>by
  cases e:Aa.Cx.get? a with
  |none=>rfl|some o=>exact bl (E.cP I a h) (B.1 a o e)
 wx a h:=.inl<|B.5 a h
def vV(H:F.CA)(E:Ti F s env)(I:Ku F Ae s env s1){i:Nat}(b:F.Aq[i]?=U x)(A8:Ae[i]?=U v)(d:J Ae=J F.FR):Ru s1.heap env (bindL env.kindOf (F.FR.zip Ae) λZ=>Ai) x v:=by have G:=gC (kindOf:=env.kindOf) F.FR Ae (λZ=>Ai) (λZ=>Ai) (dH H.2) ((Ri<|d∣bK A8).symm^b) A8;have a:env.kindOf x=F.BN.names.lookup x:=ah (λS:Dz=>S.names.lookup x) E.2;calc(H.1 x<|GK b).elim (λq=>.inl {a^q,G.1<|a^q}) λq=>ak (E.3▸fx F.BN.names (s.heap.objs.size+1) [] x (.inr q)) λc b=>.inr {.inl<|a^q,c,b,G.2 (a^q)∣I.cell x c b}
def vJ(h:(F.Gg Av)[i]?=U (U t)):i<(Av++F.E3).length:=by
 by_cases q:i<(Av++F.E3).length;·exact q
 ·unfold Er.Gg at h;rw[Qz<|Di (Bq _)\bM q] at h;calc nomatch (Vo.mp<|GK h).2
def Bl.h5:∀n:Nat,Bl Aa M h (Fq<|CV n Ai) (CV n .none) []
 |0=>{rfl,rfl}
 |n+1=>.eX {rfl,rfl}<|Bl.h5 n
def vO:Fq (F.Gg Av)=(Av++F.E3)++Fq (CV (J F.NM) Ai):=by unfold Fq Er.Gg;rw[Ee,Fy];calc ah (·++_)<|EW _
def h6(H:F.CA)(a:FL k A)(B:Lx Aa X s)(E:Ti F s env)(I:Ku F (Ae++GJ) s env s1)(j:(Ae++GJ).length=J F.FR)(y:Bl Aa (λa=>X a\/a∈AO) s.heap Av Ae AO)(d:∀M:As->Prop,Bl Aa M s.heap F.E3 GJ [])(g:∀a∈AO,Aa.Cx.get? a=Ai/\¬X a)(ab:AO.Nodup):AY {RL H a B E I,F.Gg Av,(Ae++GJ)++CV (J F.NM) .none,AO} s1:=⟨
 (λb o e=>I.toInCall.keep b o<|B.1 b o e),
 (λa h=>h.elim (λh=>(B.2 a h).at<|I.toInCall.keep a) λh=>h.elim (λe=>e⊂cO I.toInCall.ns) λh=>ak h λx e=>ae (I.cell x a e) λo q l=>{o,q,λw=>a4 w.2 λZ Z e=>nomatch D8 e.symm l}),
 (λw=>a4 (B.3 w) λn c p=>a4 p λt u p=>ak p λo q=>{n,c,t,u,o,I.toInCall.keep _ _ q.1,q.2}),
 (λa h=>{(g a h).1,λc=>c.elim (g a h).2 λc=>CF.bx (y.bE a h)<|E.cP I a c}),
 (ab),
 (by
  have y:=(y.cx<|d _).cx<|Bl.h5<|J F.NM;rw[Ct,Ct,<-vO] at y;calc y.a9 (λa h=>h.elim (·.elim (λh=>.inl<|.inl h) λh=>.inr<|E.cP I a h) λh=>.inl<|.inr h) λa o e Z=>I.toInCall.keep a o e),
 (⟨_,I.toInCall.ns,λi x t m r=>by
  have f:i<(Ae++GJ).length:=by rw[BD,y.bo,(d λZ=>False).bo,<-BD];exact vJ r
  calc {_,Ri f^Dv f,vV H E I (gE m) (Dv f) j}⟩),
 (λx c h=>{_,I.cell x c h})⟩
end
def V5(Q:T->Prop):Fz->B5->Prop
 |.aX,_=>Q .none|.BS t,_=>Q t|_,_=>False
section
variable{Aa:C0}{k:Nat}{F:Er}{X:As->Prop}{s:AM}{A:EI}{Av:-T}{Ae:-Aw}{AO:-As}{P:Fz->B5->Prop}
def Yv(Aa:C0)(X:As->Prop)(AO:-As)(s:AM)(z:A5)(Ay:BX):Prop:=Mo
 (z.Aa=Aa)
 (∀a,X a->z.V.X a)
 (z.AO=AO)
 (∀a,GA z.env a->s.heap.get? a=Ai)
 (∀a o,s.heap.get? a=U o->Ay.get? a=U o)
def l8(ok:DY Aa)(H:HS Aa F)(e:∀z:A5,z.Aa=Aa->z.V.C=F.C->z.V.k=k->z.Am=F.Gg Av->Dj z (DJ F.Eg) P)(B:Lx Aa X s)(b:FL (k+1) A)(g:J Av+J F.E3=J F.FR)(y:Bl Aa (λa=>X a\/a∈AO) s.heap Av Ae AO)(h:∀a∈AO,Aa.Cx.get? a=Ai/\¬X a)(ab:AO.Nodup){c:Qv->AM->Prop}
  (aR:∀(z:A5) Ay tk f s2,Yv Aa X AO s z Ay->Ef z {s with heap:=Ay,toks:=tk} P f s2->c (.ok<|.ret<|Flow.LO f) s2):G9 (BK Aa.De Aa.w) A (.call (.ref F.FQ) {Ae,[]}) c s:=
 enter ok H B.1 b.d (y.bo⊂g) λa Z c d E Z i j I=>
  CW (e {RL H.1 (b.cK a) B E I,F.Gg Av,_,AO} rfl rfl rfl rfl _ (h6 H.1 (b.cK a) B E I j y i h ab)) (λf e p=>aR {RL H.1 (b.cK a) B E I,F.Gg Av,_,AO} c d f e {rfl,λZ=>.inl,rfl,E.cP I,I.toInCall.keep} p) bL
def H8.cj{W:As->Prop}{L:As}{s s1 s2:AM}{B:As->Prop}(h:∀a o,s.heap.get? a=U o->s1.heap.get? a=U o)(hs:s1={s with heap:=s1.heap,toks:=s1.toks})(K:Cy B [] s1 s2)(b:∀a,B a->W a\/s.heap.get? a=Ai)(d:∀a,W a->B a)(f:¬W L):H8 W L s s2:=⟨
 (by rw[K.1,hs]),
 (λa o e n Z=>K.2 a o (h a o e) (λc=>(b a c).elim n λc=>bl c e) aS),
 (λm g=>g.at' λo e=>K.2 _ o (h _ o e) (λc=>(b _ c).elim f λc=>bl c e) aS),
 (λa o w Z Z=>K.3 a<|d a w)⟩
def gF{h Ay:BX}(k:∀a o,h.get? a=U o->Ay.get? a=U o):Hh h Ay:=λa b=>by
 cases e:h.get? a with
 |none=>rfl|some o=>calc bl b<|k a o e
def v3{Q:T->Prop}(ok:DY Aa)(H:HS Aa F)(i:J Av+J F.E3=J F.FR)(j:∀z:A5,z.Aa=Aa->z.V.C=F.C->z.V.k=k->z.Am=F.Gg Av->Dj z (DJ F.Eg) (V5 Q)):Ia Aa (k+1) (.ref F.FQ) Av Q:=λz s Ae l Ax R y=>by
 subst l;calc Ww<|l8 ok H j R.ba (Ax∣z.V.Eb) i (y.a9 (λa h=>.inl<|h.elim id aS) λZ Z e Z=>e) az .nil λb Ay tk f s2 p P=>IC.rec (λc Am q d P=>?_) P;have S:=R.aU (H8.cj p.5 rfl P.3 (λa c=>c.elim (λc=>.inl (rwl p.1 c:z.Aa.W a)) λc=>.inr<|c.elim (p.4 a) λc=>aS<|p.3∣c) (λa w=>.inl (rwr p.1 w:b.Aa.W a)) z.V.Iz)<|p.1∣(P.1.3:b.Aa.W b.Aa.P->Mr b.Aa.P s2.heap);have Bf:=P.4;cases c with
 |aX=>calc Bf⊂{_,[],d,S,{rfl,rfl},.nil,az}|BS t=>calc ae Bf λv e g=>aE g λg y f m=>e⊂{_,g,d,S,A9.cy (λa h=>.inl<|p.2 a h) (p.1▸y:A9 z.Aa b.V.X s2.heap t v g),f,λa h=>(m a h).elim (λc=>aS<|p.3▸c)<|gF p.5 a}|_=>calc d.elim
end
inductive Gh(Q:T->By->Prop)(t:T):Prop
 |bh (h:t.Fc=Y) (q:Q t .AU)
 |Gz (q:Q t.D5 .aM)
section
variable{z:A5}{s s1 s':AM}{t:T}{v:Aw}{AE:-A2}{e:A2}{f:As}{x:Str}{p pos:Pos}{Q:T->By->Prop}
theorem Yu.LO(R:AY z s)(S:CJ z s s1)(y:Yu z s1 (Gh Q) v s'):LU z s Q v s':=y.rec λt f q b y c d=>q.rec
 (λh q=>{t,.AU,q,S.aH b,f,A9.c5 _ h y,c,λa h=>R.bq S.1 a<|d a h})
 λq=>{t.D5,.aM,q,S.aH b,[],A9.CT (λa h=>.inl h) _ (λa h w=>S.2.bb a w<|d a h) y,rfl}
def v5(ok:DY z.Aa)(Ax:Pe z.Aa.K (.ref f)=Y)(b:z.V.C.BN.names.lookup x=U .globalImplicit)(c:(x,.ref f)∈z.Aa.G)(d:(x==("__debug__":Str))=Ab)(g:I5 (e::AE)=Y)(H:HN z (e::AE) Y λa=>Ia z.Aa z.V.k (.ref f) a<|Gh Q):BM z (.Call (.Name x p) (e::AE) [] pos) Q:=λs R=>
 have a:=eT g
 Call_ (hU ok b c d R<|ZV ok.1 Ax (H.aG R λa b c q S y=>{ok.1.keeps S.2.1,ae y λf y e=>CW (q z b a rfl rfl S.2 (e∣y)) (λv a y=>y.LO R S) bu}) (cf a.1)<|eW a.2)
end
def I8(z:A5)(hs:BX)(D:As)(b:Bool)(ay:-T)(s:AM):Prop:=∃Ae,s.heap.PlainList D Ae.toArray/\Dc z hs s.heap ay (Fe b) Ae
def Kv(V:DS)(hs:BX)(D:As):Prop:=He
 (∀a,V.X a->hs.get? a≠Ai)
 (V.X D)
 (¬GA V.env D)
 (¬V.Aa.W D)
def DS.NN(V:DS)(D a:As):Prop:=V.Aa.W a\/a=V.env.locals\/a=D
def Aa8(z:A5)(hs:BX)(D:As)(b:Bool)(AV:-Nat)(s:AM)(ay:-T)(Bu:-As)(s':AM):Prop:=Dy
 (Py z AV s s')
 (I8 z hs D b ay s')
 (Cy (z.V.NN D) Bu s s')
def Kw(z:A5)(D:As)(b:Bool)(AV:-Nat)(run:Env->Sem Unit)(ay:-T)(Q:-T->Prop):Prop:=∀hs s,Kv z.V hs D->Hh hs s.heap->AY z s->I8 z hs D b ay s->Ec z (run z.env) (λZ c=>∃a,Q a/\Aa8 z hs D b AV s a [] c) s
def RM(z:A5)(ifs:-A2)(Q:Bool->Prop):Prop:=(ifs=[]/\Q Y)\/∃e,ifs=[e]/\Mt z e Q
section
variable{B:As->Prop}
def Py.aH(x:Py z AV s s1)(y:Py z b s1 s2)(h:∀j∈b,j∈AV):Py z AV s s2:=λb q R a=>y b q (x b q R a) λj c=>a j<|h j c
def Py.aU(S:CJ z s s1):Py z AV s s1:=λa q R Z=>(AY.aU R S.1 S.2.3).2
def AY.h7(R:AY z s)(d:Kv z.V hs D):∀a,z.V.NN D a->CF s.heap a:=λa h=>R.2 a<|h.elim (z.V.wx a) λh=>h.elim (λe=>e⊂z.V.Hg) λe=>e⊂d.2
def Dc.l9(R:AY z s)(b:H9 z hs)(K:Cy B Bu s s1)(d:∀a,B a->z.V.X a)(g:∀a∈Bu,z.V.X a)(y:Dc z hs s.heap Av AJ Ae):Dc z hs s1.heap Av AJ Ae:=ae y λf y q=>⟨f,y.a9 (λZ h=>.inl h) (λa o e c=>have av:=c.elim (q.av R b a) λc=>c.elim (λc x=>c<|AJ.A6 a x) λc x=>R.d4 e x c
 K.2 a o e (λh=>av<|d a h) λh=>av<|g a h),q⟩
def I8.bg(R:AY z s)(d:Kv z.V hs D)(K:Cy B Bu s s1)(c:∀a,B a->z.V.X a/\a≠D)(f:∀a∈Bu,z.V.X a/\a≠D)(y:I8 z hs D b ay s):I8 z hs D b ay s1:=ae y λb p q=>{b,p.at λo e=>K.2 D o e (λh=>(c D h).2 rfl) λh=>(f D h).2 rfl,q.l9 R d.1 K (λa h=>(c a h).1) λa h=>(f a h).1}
def gG(x:h.PlainList D BW):CF h D:=ak x λZ e=>{_,e,d5 rfl rfl}
def AY.h8(R:AY z s)(d:Kv z.V hs D)(S:CJ z s s1):Cy (z.V.NN D) [] s s1:={S.1.1,λa o e n Z=>S.1.2 a o e (λw=>n<|.inl w) λw=>n<|.inr<|.inl w,λa w=>S.2.h7 d a w}
def v7(i:Fs ay=Y)(H:BM z elt λt a=>∃t',LV b t a t'/\Q (ay++[t'])):Kw z D b [] (λa=>do let _<-Iq (.builtin "list.append") [.ref D,<-D4 elt a]) ay Q:=λhs s d j R y=>ae y λAe l f=>
 AL (H.aG R λv s1 t AJ q S y=>ae q λt' w q=>by
  have m:=l.at λo e=>S.1.2 D o e d.4 λe=>d.3<|.inl e;calc AL<|AiZ m (λAy c C6=>Bn ?_)<|d2 i f.bo;have Ax:∀b o,¬b=D->s1.heap.get? b=U o->Ay.get? b=U o:=λb o n e=>C6.extBut b o n e;have g:Cy (·=D) [] s1 {s1 with heap:=Ay}:={rfl,λa o e n Z=>Ax a o n e,λa e=>e⊂gG c}
  calc⟨_,q,λb w R Z=>AY.dx (z:=z.ax b w) (AY.aU (z:=z.ax b w) R S.1 S.2.3).2 (B:=(·=D)) (Dk.bS z) (λZ h=>h) (λa e=>e⊂{d.2,d.4,d.3}) Ax λa Z e=>e⊂gG c,
   {Ae++[v],by rw[AiY] at c;calc c,(f.eL R S.1 d.1 j (y.Mu S.2 R.bb w).Cf).l9 S.2 d.1 g (λa e=>e⊂d.2) az},Cy.aH (R.h8 d S) g (λa e=>.inl<|.inr<|.inr e) az λZ Z=>.inr CR⟩)
end
def WX(elt:A2)(gens:-Vp)(scope:Dz)(pos:Pos)(d:Nat)(target:A2)(p:Pos)(ifs:-A2)(ay:Aw)(b:Env->Sem Unit):Prop:=Kb
 (∀a env,compTurn (.ListComp elt gens scope pos) d a ay env=(do
  XY p
  match<-pyNext a with
  |none=>pure<|.done .next|some v=>
   sS target a v
   assign target env v
   let mut ok:=Y
   for c in ifs do
    if ok then ok<-isTrue c env (D4 c env)
   if ok then b env
   again (.compLoop (.ListComp elt gens scope pos) d a ay env)))
def Aa9(env:Env)(ifs:-A2):Sem Bool:=forIn ifs Y λc r=>if r=Y then do let ok<-isTrue c env (D4 c env);pure (ForInStep.yield ok) else pure (ForInStep.yield r)
section
variable{prog:Gu}{w:FH}{A:EI}{R:Qv->AM->Prop}{s:AM}
def v8{b:Env->Sem Unit}{env:Env}(H:WX elt gens scope pos d target p ifs ay b)(I:Nat->AM->Prop)
  (d6:∀n s,I n s->Ba (BK prog w) A (pyNext a) (λr c=>match r with
   |none=>R (.ok .next) c|some v=>Ba (BK prog w) A (sS target a v) (λZ f=>Ba (BK prog w) A (assign target env v) (λZ g=>
     Ba (BK prog w) A (Aa9 env ifs) (λa e=>
      if a=Y then Ba (BK prog w) A (b env) (λZ i=>∃m,m<n/\I m i) (λZ Z=>False) e
      else∃m,m<n/\I m e) (λZ Z=>False) g) (λZ Z=>False) f) (λZ Z=>False) c) (λZ Z=>False) s)
  (n:Nat)(h:I n s):G9 (BK prog w) A (.compLoop (.ListComp elt gens scope pos) d a ay env) R s:=by
 clear prog w A R s elt gens scope pos d _ target p ifs ay a b env I n _ H d6 h;calc codeAny_loop rfl I (λn s o=>?_) n h;show Ba _ A ((compTurn (.ListComp elt gens scope pos) d a ay env).onRaise (λx=>do noteFrame x env;theTreesLotGoes x)) _ _ s;calc wpAny_noted ?_;rw[H.1];calc AL<|Rj<|AL<|CW (d6 n s o) (λr c j=>?_) bL;cases r with
 |none=>calc Bn j|some v=>calc AL (CW j (λZ f q=>AL (CW q (λZ g t=>AL (CW t (λa e l=>by
  cases a with
  |false=>calc Bn {rfl,l}|true=>calc AL<|CW l (λZ i u=>Bn {rfl,u}) bL) bL)) bL)) bL)
end
section
variable{z:A5}{hs:BX}{D:As}{g:AM}
def v9(H:RM z ifs Q)(R:AY z s):Ec z (Aa9 z.env ifs) (λa b=>Q a/\CJ z s b) s:=
 H.elim (λH=>by rw[H.1];calc wpAny_tests_nil {H.2,R.bk}) λH=>ae H λe a H=>by rw[a];calc wpAny_tests_one<|H.aG R λb a q S=>{q,S}
def AdO(z:A5)(hs:BX)(D:As)(b:Bool)(AV:-Nat)(n:Nat)(I:Nat->↑T->Prop)(g:AM)(S:Tf)(a:AM)(j:Nat)(ay:-T):Prop:=He
 (j<=n)
 (I j ay)
 (Aa8 z hs D b AV g ay S.aQ a)
 (S.Br j a.heap)
def Aba(z:A5)(D:As)(target:A2)(BW:-T)(s:AM)(S:Tf):Prop:=MO
 (KTurns z.Aa.De z.Aa.w z.V.A target S.I S.AO S.aQ (J BW) S.P S.By S.Br)
 (S.Br 0 s.heap)
 (∀i h,S.Br i h->∀b∈S.aQ,CF h b)
 (∀a∈S.aQ,z.V.X a/\¬z.V.NN D a/\¬GA z.env a)
 (∀a∈S.AO,¬z.V.NN D a)
 (∀i v Ay,i<J BW->(∀a o,s.heap.get? a=U o->¬z.M a->Ay.get? a=U o)->S.P i v Ay->∃t,BW[i]?=U t/\A9 z.Aa z.M Ay t v [])
def Ad0(z:A5)(GD:As->Prop)(a:Dk z.Aa z.env GD)(hs:BX)(D:As)(b:Bool)(AV:-Nat)(s:AM)(ay:-T)(Bu:-As)(s':AM):Prop:=Dy
 (∀Am q,AY (z.ax Am q) s->(∀j∈AV,Am[j]?=U Ai)->AY ((z.aA GD a).ax Am q) s')
 (I8 (z.aA GD a) hs D b ay s')
 (Cy (z.V.NN D) Bu s s')
def V6(z:A5)(target:A2)(idx AV:-Nat)(ifs:-A2)(D:As)(b:Bool)(c:Env->Sem Unit)(ay:-T)(I:-T->Prop)(t:T)(a:B5):Prop:=Dy
 (WR z target t a idx)
 (∀j∈AV,a[j]?=U Ai)
 (∀w,RM (z.ax a w) ifs λd=>if d=Y then Kw (z.ax a w) D b AV c ay I else I ay)
def ma{BW:-T}{ay:-T}{I:Nat->↑T->Prop}
  (H:WX elt gens scope pos d target p ifs Kx emit)(V7:∀j∈idx,z.Am[j]?=U Ai)(mc:∀j∈AV,z.Am[j]?=U Ai)(md:∀j∈idx,∀x,z.V.C.Aq[j]?=U (U x)->z.V.C.BN.names.lookup x=U .local)
  (h0:I 0 ay)(MC:∀j t ay,BW[j]?=U t->I j ay->∃V8,V6 z target idx AV ifs D b emit ay (I<|j+1) t V8)
  (i:Aba z D target BW g S)(r:Kv z.V hs D)(WK:Hh hs g.heap)(QN:AY z g)(y:I8 z hs D b ay g){GD:As->Prop}(RN:Dk z.Aa z.env GD)(Ky:∀a,GD a->z.V.X a/\a∉S.aQ)
  (aR:∀s5 ay,I (J BW) ay->Ad0 z GD RN hs D b (idx++AV) g ay S.aQ s5->Q (.ok .next) s5):G9 (Dw z) z.V.A (.compLoop (.ListComp elt gens scope pos) d (.ref S.I) Kx z.env) Q g:=by
 clear z hs D g elt target gens scope _ pos p d ifs Kx emit idx AV _ b Q BW ay I GD _ S H V7 mc md h0 MC i r WK QN y RN Ky aR;have WZ:∀a,z.V.NN D a->z.V.X a:=λa h=>h.elim (z.V.wx a) λh=>h.elim (λe=>e⊂z.V.Hg) λe=>e⊂r.2;have me:z.L≠D:=λe=>r.3<|.inl e.symm;have mf:∀j∈idx++AV,z.Am[j]?=U Ai:=λj h=>(aN h).elim (V7 j)<|mc j;have tk:∀{Bu:-As} {l LJ:AM},Cy (z.V.NN D) Bu g l->Cy (z.V.NN D) [] l LJ->Cy (z.V.NN D) Bu g LJ:=λx y=>Cy.aH x y (λZ h=>.inl h) (λZ h=>aS h) λZ Z=>.inr CR;have mh:∀a∈S.aQ,z.V.X a/\¬z.Aa.W a/\¬GA z.env a:=λa h=>{(i.4 a h).1,λc=>(i.4 a h).2.1<|.inl c,(i.4 a h).2.2}
 calc v8 H (λn l=>∃j ay,n=J BW+1-j/\AdO z hs D b (idx++AV) (J BW) I g S l j ay) (λn l w=>bP w λj ay V0 w=>?_) _ {0,ay,rfl,C9 _,h0,{λZ Z R Z=>R,y,Cy.bk<|QN.h7 r},i.2};have mi:AY z l:=w.3.1 z.Am (z.Ae,z.AO) QN mf;have mj:∀{Ay:BX} {tk:Nat},(∀b o,b∉S.aQ->l.heap.get? b=U o->Ay.get? b=U o)->I8 z hs D b ay {l with heap:=Ay,toks:=tk}:=λb=>w.3.2.bg mi r (B:=λZ=>False) (Bu:=S.aQ) {rfl,λa o e Z u=>b a o u e,λZ h=>h.elim} (λZ h=>h.elim) λa h=>{(i.4 a h).1,λe=>(i.4 a h).2.1<|.inr<|.inr e}
 by_cases M:j<(J BW)
 ·calc i.1.item j l _ _ M w.4 λv Pz V9 V1 wa=>i.1.go j v _ _ _ V1 λTj BA WT V2=>?_;have Ax:∀b o,b∉S.aQ->l.heap.get? b=U o->Tj.get? b=U o:=λb o F e=>V2 b o F<|wa b o F e;have ml:Py z (idx++AV) l {l with heap:=Tj,toks:=V9}:=λb q R Z=>AY.dx (z:=z.ax b q) R (B:=(·∈S.aQ)) (Dk.bS z) (λZ h=>h) mh Ax λa Z=>i.3 _ _ WT a;have RE:AY z {l with heap:=Tj,toks:=V9}:=ml z.Am (z.Ae,z.AO) mi mf;have WW:=Cy.aQ (tk:=V9) w.3.3 Ax λa h=>(i.4 a h).2.1;calc ae (i.6 j v Tj M (λa o e m=>WW.2 a o e (λc=>m<|.inl<|WZ a c) λc=>m<|.inl (i.4 a c).1) BA) λt V3 Tg=>ak (MC j t ay V3 w.2) λN C=>CW (C.1 _ v RE Tg) (λZ lX E=>ak E λE P=>?_) λZ Z z=>z.elim;have Ja:=P.3.2 md;have wb:=(mj Ax).bg RE r Ja (λa e=>e⊂{z.V.Hg,me}) λZ h=>aS h;have eZ:=tk WW<|Ja.aq [] (λa e=>.inr<|.inl e)<|RE.h7 r;have wc:=(w.3.1.aH ml λZ h=>h).aH P.5 λj h=>CL _ h;have ac:∀{ay:-T} {s:AM},I8 z hs D b ay s↔I8 (z.ax N E) hs D b ay s:=by
   have:(z.ax N E)=(z.ax N (E.1,z.AO)):=by rw[<-(P.4 V7)]
   rw[this];exactλ{Z _}=>Wg
  calc CW (v9 (z:=z.ax N E) (C.3 E) P.1) (λok LJ QM=>aC QM λQM G=>?_) λZ Z z=>z.elim;have mm:=(ac.mp wb).bg P.1 r (B:=λa=>z.Aa.W a\/a=z.L) (Bu:=[]) {G.1.1,λa o e n Z=>G.1.2 a o e (λc=>n<|.inl c) λc=>n<|.inr c,λa c=>G.2.2 a<|WZ a<|c.imp_right .inl} (λa h=>{WZ a<|h.imp_right .inl,λe=>h.elim (λh=>r.4<|e∣h) λh=>me<|h.symm^e}) λZ h=>aS h;have Jb:=tk eZ<|AY.h8 (z:=z.ax N E) P.1 r G;have mn:=wc.aH (Py.aU (z:=z.ax N E) (AV:=idx++AV) G) λZ h=>h;have Yt:=i.1.frame _ _ _ WT λb F o e=>G.1.2 b o (Ja.2 b o e (λc=>i.5 b F<|.inr<|.inl c) aS) (λc=>i.5 b F<|.inl c) λc=>i.5 b F<|.inr<|.inl c;have lt:=lR M;rw[<-V0] at lt;cases ok with
  |false=>calc {_,lt,j+1,ay,rfl,M,QM,{mn,ac.mpr mm,Jb},Yt}|true=>
   exact CW (QM hs LJ r (λa h=>WK a<|Jb.bq (λa h=>CF.bx<|G.2.2 a (i.4 a h).1) a h) G.2 mm) (λZ a c=>ae c λa d c=>{_,lt,j+1,a,rfl,M,d,{mn.aH c.1 λj h=>BH _ h,ac.mpr c.2,tk Jb c.3},i.1.frame _ _ _ Yt λb F o e=>c.3.2 b o e (i.5 b F) aS}) λZ Z z=>z.elim
 ·have e:=Qy w.1<|bM M;calc i.1.done l _ _ (e∣w.4) λc d g=>aR _ ay (e∣w.2) {λb q R c=>AY.dx (w.3.1 b q R c) RN (λa h=>(Ky a h).1) mh g λa x h=>ar h (Ky a x).2,ae (mj g) λc d y=>ae y λf y g=>{c,d,f,y.a9 (λa h=>.inl (by induction b;calc h.imp_left λh=>(Ky a h).1;calc(Ky a h).1)) λZ Z e Z=>e,g},Cy.aQ w.3.3 g λa h=>(i.4 a h).2.1}
end
def Co(P:Dz)(n:Str)(k:Rh):Rh:=if(k==.free&&P.kind==.function&&P.names.lookup n==U .cell)=Y then .cell else k
def WY(S P:Dz):Dz:={S with names:=S.names.map λp=>(p.1,Co P p.1 p.2)}
def wd(S:Dz)(env:Env):relabel S env=WY S env.scope:=by
 calc ah (λl=>({S with names:=l}:Dz))<|FI λp Z=>?_;unfold Co;by_cases q:(p.2==.free&&env.scope.kind==.function&&env.scope.names.lookup p.1==U .cell)=Y
 ·exact(ao q).trans<|by rw[ao q]
 ·exact(ai q).trans<|by rw[ai q]
def mq{g:Str->Rh->Rh}:∀names:-(Str×Rh),(names.map λp=>(p.1,g p.1 p.2)).lookup x=(names.lookup x).map (g x)
 |[]=>rfl|(n,k)::r=>by
  by_cases e:x=n;·rw[e,HI,SQ,SQ];rfl
  ·rw[HI,dT e,dT e];calc mq r
def PB(C:Ea)(S:Dz)(Eh:-Str):Ea:={C.Aq.map (λo=>o.bind λx=>if S.names.lookup x=U .free then U x else Ai)++Eh.map U,WY S C.BN}
def M6(C:Ea)(S:Dz)(Eh:-Str):Prop:=MO
 (S.kind=.function)
 (C.BN.kind=.function)
 (∀y∈S.names,y.2≠.cell/\(y.2=.local->S.names.lookup y.1=U .local)/\(y.2=.free->C.BN.names.lookup y.1=U .cell))
 (∀x∈Eh,S.names.lookup x=U .local)
 (Eh.Nodup)
 ((S.names.map (·.1)).Nodup)
def fy{names:-(Str×Rh)}(h:names.lookup x=U k):(x,k)∈names:=by
 cases names with
 |nil=>delta h|cons p r a=>
  by_cases e:x=p.1;·rw[e,SQ] at h;exact BQ h▸rwr e (.head _)
  ·calc .tail _<|a<|(dT e).symm^h
def h9(env:Env):∀(names:-(Str×Rh)) (ay:-(Str×As)),(∀p∈names,p.2=.free->∃c,env.cells.lookup p.1=U c)->(∀n c,ay.lookup n=U c->env.cells.lookup n=U c)->
  ∃cl,(forIn names ay λ(p:Str×Rh) (a:-(Str×As))=>(if(p.2==NameKind.free)=Y then do let c<-cellOf env p.1;pure (ForInStep.yield ((p.1,c)::a)) else pure (ForInStep.yield a):Sem (ForInStep ↑(Str×As))))=pure cl/\
   (∀n c,cl.lookup n=U c->env.cells.lookup n=U c)/\(∀n,(n,NameKind.free)∈names\/(∃c,ay.lookup n=U c)->∃c,cl.lookup n=U c)
 |[],ay,_,b=>{ay,List.forIn_nil,b,λn h=>h.elim c3 id}
 |(n,Cr)::r,ay,Ag,b=>by
  rw[s7];by_cases q:Cr=.free
  ·calc ak (Ag (n,Cr) (.head _) q) λc A4=>?_;obtain⟨cl,w⟩:=h9 env r ((n,c)::ay) (λp f=>Ag p<|.tail _ f) λi g h=>by
    by_cases e:i=n;·rw[e,SQ] at h;exact e▸rwl (BQ h) A4
    ·exact b i g<|(dT e).symm^h
   refine {cl,?_,w.2.1,λm a=>w.2.2 m ?_}
   ·have e:cellOf env n=pure c:=by unfold cellOf;rw[A4]
    rw[ao<|beq_iff_eq.mpr q,e,pure_bind,pure_bind];exact w.1
   ·by_cases e:m=n;·exact .inr {c,e∣SQ}
    ·exact a.imp (λa=>(aK a).resolve_left λd=>e<|ah SR d) λj=>ak j λg h=>{g,dT e^h}
  ·refine ak (h9 env r ay (λp f=>Ag p<|.tail _ f) b) λcl w=>{cl,?_,w.2.1,λm a=>w.2.2 m<|a.imp_left λa=>(aK a).resolve_left λd=>q (ah Qu d).symm}
   rw[ai λd=>q<|beq_iff_eq.mp d,pure_bind];calc w.1
def Yw(S:Dz)(env:Env)(cl:-(Str×As)):Prop:=Dy
 (closureFor S env=pure cl)
 (∀n c,cl.lookup n=U c->env.cells.lookup n=U c)
 (∀n,(n,NameKind.free)∈S.names->∃c,cl.lookup n=U c)
def mr(h:∀p∈S.names,p.2=.free->∃c,env.cells.lookup p.1=U c):∃cl,Yw S env cl:=aE (h9 env S.names [] h nofun) λc a b d=>{c,(ah (λm:Sem ↑(Str×As)=>m>>=λa=>pure a) a).trans<|pure_bind _ _,b,λn e=>d n<|.inl e}
section
variable{z:A5}{C:Ea}{S:Dz}{d:-Str}{i:Nat}
def gH(h:(PB C S d).Aq[i]?=U (U x)):(i<J C.Aq/\C.Aq[i]?=U (U x)/\S.names.lookup x=U .free)\/(J C.Aq<=i/\d[i-J C.Aq]?=U x):=by
 clear C S d i x _ h;have h:(C.Aq.map (λo=>o.bind λx=>if S.names.lookup x=U .free then U x else Ai)++d.map U)[i]?=U (U x):=h;by_cases q:i<(J C.Aq)
 ·rw[Ri<|(Bq _).symm∣q,Gw] at h;exact ae (bD h) λo d b=>ae (dh b) λy c a=>have a:=bf a
   .inl {q,by rw[d,c,a.2],a.2∣a.1}
 ·rw[Qz<|Di (Bq _)\bM q,Bq,Gw] at h;calc ae (bD h) λy a b=>.inr {bM q,BQ b∣a}
def Yx(z:A5)(L:As):Prop:=He
 (z.V.X L)
 (¬z.Aa.W L)
 (∀x c,z.env.cells.lookup x=U c->c≠L)
 (z.Aa.Cx.objs.size<=L)
def ia(x:Str):(WY S C.BN).names.lookup x=(S.names.lookup x).map (Co C.BN x):=mq S.names
def we(ok:M6 C S d)(h:S.names.lookup x=U .free):(WY S C.BN).names.lookup x=U .cell/\C.BN.names.lookup x=U .cell:=by have q:=(ok.3 _<|fy h).2.2 rfl;calc {?_,q};rw[ia,h];calc ah U<|ao ?_;rw[ok.2,q];rfl
def mu(z:A5)(S:Dz):relabel S z.env=WY S z.V.C.BN:=wd S z.env^ah (WY S) z.V.BN
def wg(ok:M6 z.V.C S d)(i j:Nat)(x:Str)(c:(PB z.V.C S d).Aq[i]?=U (U x))(e:(PB z.V.C S d).Aq[j]?=U (U x)):i=j:=by
 rcases gH c with a|a<;>rcases gH e with b|b
 ·exact z.V.S8 i j x a.2.1 b.2.1
 ·exact nomatch D8 a.2.2.symm (ok.4 x<|GK b.2)
 ·exact nomatch D8 b.2.2.symm (ok.4 x<|GK a.2)
 ·rw[<-s8 a.1,(AiK (bK a.2) ok.5).mp<|a.2^b.2.symm,s8 b.1]
def Ad1(ok:M6 z.V.C S d)(o:Yw S z.env cl)(l:Yx z L):DS where
 Aa:=z.Aa
 C:=PB z.V.C S d
 k:=z.V.k
 A:=z.V.A
 env:=compEnvC S cl L z.env
 X:=z.V.X
 Eb:=z.V.Eb
 BN:=mu z S
 Hf:=ok.1
 NH:=z.V.NH
 S6:=z.V.S6
 S7:=by show(S.kind==.module&&_)=Ab;rw[ok.1];rfl
 S8:=wg ok
 Rv x h:=by
  rw[show(PB z.V.C S d).BN.names.lookup x=_ from ia x] at h;calc ae (bD h) λCr Ag b=>?_;have a:=fy Ag;by_cases q:(Cr==.free&&z.V.C.BN.kind==.function&&z.V.C.BN.names.lookup x==U .cell)=Y
  ·exact o.3 x<|beq_iff_eq.mp (gm<|gm q)∣a
  ·exact ar ((ai q).symm^b) (ok.3 _ a).1
 Rw x y c e f:=z.V.Rw x y c (o.2 x c e) (o.2 y c f)
 Rx:=l.4
 Hg:=l.1
 LY x c h:=z.V.LY x c (o.2 x c h)
 Iz:=l.2
 Ms x c h:={(z.V.Ms x c<|o.2 x c h).1,l.3 x c<|o.2 x c h}
 Ht:=z.V.Ht
 wx:=z.V.wx
abbrev Kz(z:A5)(ok:M6 z.V.C S d)(o:Yw S z.env cl)(l:Yx z L):A5:={Ad1 ok o l,z.Am++CV (J d) Ai,z.Ae++CV (J d) .none,z.AO}
def AY.wh(R:AY z s)(ok:M6 z.V.C S d)(o:Yw S z.env cl)(l:Yx z L)(f:J z.Am=z.V.C.Aq.length)(j:s.heap.Ns L m):AY (Kz z ok o l) s:=⟨
 (R.1),
 (R.2),
 (R.3),
 (R.4),
 (R.5),
 (by
  have y:=R.6.cx<|Bl.h5<|J d;rw[Ct] at y;unfold Fq at*;rw[Ee];calc y),
 (⟨m,j,λi x t p b=>by
  have b:=b;rcases gH p with a|a
  ·rw[Ri<|f⊂a.1] at b;have g:=we ok a.2.2;refine ae R.7 λA Z q=>ae (q i x t a.2.1 b) λv r u=>ak (o.3 x<|fy a.2.2) λc A4=>{v,Ri ((R.6.bo.trans<|Bq _).symm▸rwr f a.1)^r,.inr {.inl<|ah (λS:Dz=>S.names.lookup x) (mu z S)^g.1,c,A4,?_}}
   exact u.elim (λw=>nomatch D8 w.1.symm ((z.fq x).trans g.2)) λw=>ae w.2 λB e w=>BQ (e.symm^o.2 x c A4)∣w
  ·rw[Qz<|f⊂a.1] at b;calc nomatch (Vo.mp<|GK b).2⟩),
 (λx c h=>R.8 x c<|o.2 x c h)⟩
end
section
variable{z:A5}{s E r:AM}{t:T}{G:By}{L D:As}{f:-As}
def Jc(z:A5)(s:AM)(t:T)(G:By)(L D:As)(Bj:Dk z.Aa z.env (z.V.Ff [L]))(r:AM)(f:-As):Prop:=MO
 (CJ z s r)
 (∃m,r.heap.Ns L m)
 (s.heap.get? L=Ai)
 (A9 z.Aa (G.M<|z.aA _ Bj) r.heap t (.ref D) f)
 (E1 s.heap z.AO f G)
 (L∉f)
def H8.gI(K:H8 W L s E)(b:Cy B Bu E r)(i:∀a,B a->W a\/s.heap.get? a=Ai)(g:∀a∈Bu,s.heap.get? a=Ai)(p:¬W L):H8 W L s r:=⟨
 (by rw[b.1,K.1]),
 (λa o e n l=>b.2 a o (K.2 a o e n l) (λc=>(i a c).elim n λc=>bl c e) λc=>bl (g a c) e),
 (λm j=>ae (cO j) λo q Z=>(K.3 m j).at' λh e=>b.2 _ h e (λc=>(i _ c).elim p λc=>bl c q) λc=>bl (g _ c) q),
 (λa o w e c=>by
  by_cases d:B a;·exact b.3 a d
  ·calc CF.at (K.4 a o w e c) λh q=>b.2 a h q d λu=>bl (g a u) e)⟩
def Mr.at(y:Mr P h)(k:∀o,h.get? P=U o->Ay.get? P=U o):Mr P Ay:=a4 y λn c p=>a4 p λt u p=>ak p λo q=>{n,c,t,u,o,k o q.1,q.2}
def Jc.af(q:Q t G)(F:Jc z s t G L D Bj r f)(R:AY z s)(C6:Heap.SameBut L r.heap Ay):LU z s Q (.ref D) {r with heap:=Ay}:=by
 have up:∀a o,a≠L->r.heap.get? a=U o->Ay.get? a=U o:=λa o n e=>C6.extBut a o n e;have b:∀a,z.V.X a->a≠L:=λa x e=>R.bb a x<|e⊂F.3;refine {t,G,q,R.aU (F.1.1.gI (B:=z.Aa.W) (Bu:=[L]) {rfl,λa o e Z u=>up a o (λc=>u<|c∣.head _) e,λa w=>CF.at (F.1.2.2 a<|z.V.wx a w) λo=>up a o<|b a<|z.V.wx a w} (λZ=>.inl) (λa h=>aF h⊂F.3) z.V.Iz) λw=>(F.1.2.3 w).at λo=>up _ o<|b _<|z.V.wx _ w,f,F.4.a9 (λa h=>.inl ?_) _ λa o e c=>up a o (λd=>?_) e,F.5}
 ·cases G with
  |aM=>calc .inl h|_=>exact h.imp_left .inl
 ·calc ak F.2 λm g=>ae (cO g) λl i j=>c.elim (λc=>F.6<|d∣c) λc=>c.elim (λc=>c<|d⊂G.A6 (z:=z.aA _ Bj) L (.inr<|.head _)) λc=>j<|BQ (i.symm^(d▸e))⊂c
def I8.dP{GD:As->Prop}{d:Dk z.Aa z.env GD}{hs:BX}{b:Bool}{ay:-T}(y:I8 (z.aA GD d) hs D b ay r)(EK:hs.get? D≠Ai)(e:¬GD D):∃f,A9 z.Aa ((Fe b).M<|z.aA GD d) r.heap (.Bo (!b) ay) (.ref D) f/\(b=Y/\f=[]\/b=Ab/\f.Nodup)/\∀a∈f,a=D\/hs.get? a=Ai:=ae y λd g y=>ae y λf y c=>by
 cases b with
 |true=>calc {[],{{D,0,d,[]},rfl,g,c∣y,rfl,λa h=>aF h⊂e,λZ=>rfl},.inl {rfl,rfl},az}|false=>calc {D::f,{{D,0,d,f},rfl,g,y,rfl},.inr {rfl,cw {λh=>EK<|c.2 D h,c.1}},λa h=>(aK h).imp_right<|c.2 a}
def KA(z:A5)(elt:A2)(gens:-Vp)(S:Dz)(pos:Pos)(iter:A2)(Q:T->By->Prop):Prop:=∀s,AY z s->∀(a:Aw->As->Qv->AM->Prop),(∀D L Bj r g t G,Q t G->Jc z s t G L D Bj r g->a (.ref D) L (.ok .next) r)->
 ∃cl,closureFor S z.env=pure cl/\Ec z (D4 iter z.env) (λx c=>Ec z (Pg x) (λd e=>Ec z (newList []) (λc h=>Ec z (newFunctionEnv S z.env.globals cl [] z.env.qual Ai .none<|U z.env) (λb i=>
    G9 (Dw z) z.V.A (.compStart (.ListComp elt gens S pos) 0 d c {b with scope:=relabel S z.env}) (a c b.locals) i) h) e) c) s
def mv(ok:M6 C S Eh)(b:J C.Aq<=j)(h:(PB C S Eh).Aq[j]?=U (U x)):(PB C S Eh).BN.names.lookup x=U .local:=by
 rcases gH h with a|a
 ·exact ar a.1<|bz b
 ·calc ia x^?_;rw[ok.4 x<|GK a.2];rfl
def mw(a:J Am=n)(h:n<=j/\j<n+m):(Am++CV m Ai)[j]?=U Ai:=by rw[Qz<|a⊂h.1,ki,ao<|a⊂kj h.1 h.2]
def Abb(z:A5)(S:Dz)(Eh:-Str)(a:A5):Prop:=He
 (a.Aa=z.Aa)
 (a.V.C=PB z.V.C S Eh)
 (a.V.k=z.V.k)
 (a.Am=z.Am++CV (J Eh) Ai)
def mx{target iter:A2}{gens rest:-Vp}{S:Dz}{Eh:-Str}{ifs:-A2}{emit:Aw->Env->Sem Unit}{b:Bool}{idx AV:-Nat}{Q:T->By->Prop}(ok:M6 z.V.C S Eh)(HT:J z.Am=z.V.C.Aq.length)(Tn:gens={target,iter,ifs,0}::rest)(Jd:∀j∈idx++AV,z.V.C.Aq.length<=j/\j<z.V.C.Aq.length+J Eh)(H:∀Kx,WX elt gens S pos 0 target iter.pos ifs Kx<|emit Kx)
  (my:MB z Ab target iter λa=>∃I:Nat->↑T->Prop,I 0 []/\(∀mz,Abb z S Eh mz->∀D j t ay,a[j]?=U t->I j ay->∃V8,V6 mz target idx AV ifs D b (emit<|.ref D) ay (I<|j+1) t V8)/\∀ay,I (J a) ay->Q (.Bo (!b) ay) (Fe b)):KA z elt gens S pos iter Q:=by
 clear z elt target iter gens rest S Eh _ pos ifs emit b idx AV Q _ ok HT Tn Jd H my;exactλs R Je aR=>
  ak (mr (S:=S) (env:=z.env) λp a b=>z.V.Rv p.1<|(ok.3 p a).2.2 b) λcl o=>⟨cl,o.1,CW (my s R) (λx s1 q=>CW q (λit s2 p=>M5.rec (λBW q Cz M B=>aE q λI h0 MC EP=>by
  have Yy:=Cz.2;have QP:=R.bq Cz.1;calc Ny<|AiU (λy a=>(ok.3 y a).1) (λZ h=>ar h CR) (λWU W To=>?_) ok.1;dsimp only at W To⊢;have CZ:(s2.heap.push {cls:=.type "list",dict:=Ai,data:=.seq ([]:-Aw).toArray}).objs.size=s2.heap.objs.size+1:=X2 ..;rw[CZ] at W To⊢;generalize EK:s2.heap.objs.size=D at W To⊢;have en:∀{b o},s2.heap.get? b=U o->b≠D/\b≠D+1:=λe=>have:=Gv e;{EX<|EK∣this,EX<|EK∣I1 this};have old:∀b o,s2.heap.get? b=U o->WU.get? b=U o:=λb o e=>To.extBut b o (en e).2<|D9 _<|D9 _ e;have Jf:WU.PlainList D #[]:={_,To.extBut D _ (EX<|EM _)<|D9 _<|EK∣Fn _ rfl}
  have mA:s2.heap.get? D=Ai:=EK∣bU _;have Yz:s2.heap.get? (D+1)=Ai:=ZU<|EK∣Ex _;generalize YA:({s2 with heap:=WU,toks:=s2.toks+([]:-(Str×Aw)).length}:AM)=E;have Pz:E.heap=WU:=YA∣rfl;have Jg:CJ z s E:=Cz.aH<|Yy.bp<|YA∣.b5 old;have YB:∀a∈M.aQ,a≠D/\a≠D+1:=λa h=>ae (B.7 0 _ B.4 a h) λZ q Z=>en q;have cc:∀a∈(D+1)::D::M.aQ,s.heap.get? a=Ai:=λa h=>(aK h).elim (λe=>e⊂QP _ Yz) λh=>(aK h).elim (λe=>e⊂QP _ mA)<|B.6 a;have N:Dk z.Aa z.env (z.V.Ff ((D+1)::D::M.aQ)):=R.cM cc;have Re:AY (z.aA _ N) E:=R.enter Jg cc (λa h=>Pz.symm▸(aK h).elim (λe=>e⊂cO W) λh=>(aK h).elim (λe=>e⊂gG Jf) λh=>CF.at (B.7 0 _ B.4 a h)<|old a) N;have RF:∀a∈(D+1)::D::M.aQ,¬z.V.X a:=λa h x=>R.bb a x<|cc a h;have mB:=RF (D+1)<|.head _;have Jh:=RF D<|.tail _<|.head _;have l:Yx (z.aA _ N) (D+1):={.inr<|.head _,λw=>mB<|z.V.wx _ w,λx c a e=>mB<|e∣z.V.LY x c a,ae Yy.7 λm a Z=>z.V.Rx\BY (I1<|EK∣a.lt)}
  have QN:=Re.wh (z:=z.aA _ N) ok o l HT<|Pz⊂W;have mC:∀{a},a≠D+1->¬z.V.X a->¬GA (compEnvC S cl (D+1) z.env) a:=λn x c=>c.elim n λc=>ak c λy c=>x<|z.V.LY y _<|o.2 y _ c;have Ji:D≠D+1:=EX<|EM _;have mD:∀b o,s2.heap.get? b=U o->E.heap.get? b=U o:=Pz⊂old;have mE:∀{a} {P:Prop},a∈(D+1)::D::M.aQ->(s2.heap.get? a=Ai->P)->(a∈M.aQ->P)->P:=λh f g=>(aK h).elim (λe=>f<|e⊂Yz) λh=>(aK h).elim (λe=>f<|e⊂mA) g;have WV:Aba (Kz (z.aA _ N) ok o l) D target BW E M:={B.2,B.2.frame _ _ _ B.4 λb Z o e=>mD b o e,B.7,λa h=>{.inr<|.tail _<|.tail _ h,λc=>c.elim (λw=>RF a (.tail _<|.tail _ h)<|z.V.wx a w) λc=>c.elim (YB a h).2 (YB a h).1,mC (YB a h).2<|RF a<|.tail _<|.tail _ h},λa h c=>cT (B.5 a h) λb Z d=>ak d λZ e=>c.elim (λw=>b<|z.V.wx a w) λc=>c.elim (en e).2 (en e).1,λi v b d f g=>B.8 i v b _ d (λa h=>h.elim (·.elim (λc=>.inl<|.inl c) λc=>mE c (λe=>.inr<|.inr e) λc=>.inr<|.inl c) λc=>.inl<|.inr c) (λa o e m u=>f a o (mD a o e) λc=>c.elim (·.elim (λc=>m<|.inl c) λc=>mE c (bl · e) u) λc=>m<|.inr c) g}
  have Bj:Dk z.Aa z.env (z.V.Ff [D+1]):=R.cM λa h=>aF h⊂QP _ Yz;have RN:Dk z.Aa (compEnvC S cl (D+1) z.env) (z.V.Ff [D+1]):={λa h=>h.elim (λe=>.inr<|e⊂.head _) λh=>ak h λy c=>.inl<|z.V.LY y _<|o.2 y _ c,Bj.2,Bj.3}
  have pad:∀j∈idx++AV,(Kz (z.aA _ N) ok o l).Am[j]?=U Ai:=λj h=>mw HT<|Jd j h;have loop:G9 (Dw z) z.V.A (.compLoop (.ListComp elt gens S pos) 0 (.ref M.I) (.ref D)<|compEnvC S cl (D+1) z.env) (Je (.ref D)<|D+1) E:=by
   calc ma (z:=Kz (z.aA _ N) ok o l) (H<|.ref D) (λj h=>pad j<|CL _ h) (λj h=>pad j<|BH _ h) (λj h x=>mv ok (Jd j<|CL _ h).1) h0 (MC (Kz (z.aA _ N) ok o l) {rfl,rfl,rfl,rfl} D) WV ({Re.bb,.inr<|.tail _<|.head _,mC Ji Jh,λw=>Jh<|z.V.wx _ w}) (λZ h=>h) QN {[],Pz⊂Jf,Dc.nil} RN (λa h=>{h.imp_right λh=>(by rw[aF h];calc .head _),λu=>h.elim (RF a<|.tail _<|.tail _ u) λh=>(YB a u).2<|aF h}) λr ay wi F=>?_;have RE:=F.1 _ (_,_) QN pad;calc aE (F.2.dP (λe=>CF.bx (rwr Pz (gG Jf):CF E.heap D) e) λh=>h.elim Jh λh=>Ji<|aF h) λf cD QL Jj=>?_;have DB:∀a∈f,s.heap.get? a=Ai/\a≠D+1:=λa h=>(Jj a h).elim (λe=>{cc a<|e∣.tail _ (.head _),λd=>Ji<|e.symm^d}) λe=>{R.bq Jg.1 a e,λd=>CF.bx (rwr Pz (cO W):CF E.heap (D+1))<|d∣e}
   calc aR D (D+1) Bj r f _ _ (EP ay wi) {R.aU (Jg.1.gI F.3 (λa h=>h.imp_right λh=>h.elim (λe=>cc a<|(show a=D+1 from e)∣.head _) λe=>cc a<|e∣.tail _ (.head _)) (B.6) z.V.Iz) RE.3,ae RE.7 λm a Z=>{m,a},QP _ Yz,?_,?_,λh=>(DB _ h).2 rfl};·induction b<;>exact cD
   ·exact QL.elim (λe=>e.1⊂e.2) λe=>e.1⊂{e.2,λa h=>(DB a h).1}
  rw[B.1,Tn] at*;calc codeAny_compStart_list loop<|B.3 0 _ _ _ WV.2 loop) p) bu) bu⟩
end
section
variable{z:A5}{l target iter:A2}{rest:-Vp}{S:Dz}{pos E p:Pos}{ifs B:-A2}{i:Nat}{b:Bool}
def mF(ok:M6 z.V.C S Eh)(a:RD iter=Ab)(H:KA z l ({target,iter,ifs,0}::rest) S pos iter Q):BM z (.ListComp l ({target,iter,ifs,0}::rest) S pos) Q:=λs R=>
 ae (H s R (λa L=>compPost (Dw z) z.V.A (λZ Z=>False) Ai (LU z s Q) a L) λD L a b g t d q F=>ak F.2 λm c=>{m,c,λa b=>F.af q R b}) λb d w=>by rw[eval_ListComp];calc AiV rfl (fv a _) d ok.1 (λx e f=>(ok.3 x e).2.1 f) w
def wj(f:Lw z.V.C i x)(ok:M6 z.V.C S Eh)(r:RD iter=Ab)(H:KA z l ({target,iter,ifs,0}::rest) S p iter λt a=>∃b t',HR b t a t'/\Q .aX ((I6 b z.Am).set i<|U t')):Dj z (Gx<|.Assign [.Name x E] (.ListComp l ({target,iter,ifs,0}::rest) S p) pos) Q:=by
 clear z l target iter rest S Eh _ pos E p ifs i x Q _ f ok r H;exactλs R=>by
  calc ak ({_,rfl}:∃b,swapsWith (.ListComp l ({target,iter,ifs,0}::rest) S p) (U<|.Name x E) pos.line z.env=pure b) λb G=>?_;cases b with
  |false=>calc Vi ((mF ok r H).aG R λv a t c q S y=>bP q λb a k q=>hO f R S k y q λa P=>P) G|true=>
   rw[exec_Assign_Name_used _ _ _ _ G];refine AL<|Rj<|AL<|ae (H s R (λa L=>compPost (Dw z) z.V.A (λZ Z=>False) (U<|assign (.Name x E) z.env) (λZ a=>Ef z s Q .next a) a L) λD L Bj s5 g t AJ q F=>ak F.2 λm I=>bP q λb t' k q=>?_) λcl M w=>?_
   ·have new:∀a∈[L],s.heap.get? a=Ai:=λa h=>aF h⊂F.3;have j:=λc=>R.bb L c F.3;refine wpAny_assign_Name<|lD f R F.1 k new (λa h=>aF h⊂cO I) Bj F.4 F.5 (λa h c=>F.6<|aF c∣h) λb w N g K W=>{m,I.at' λo e=>W.1.2 L o e (λc=>j<|DS.b4 z L c) aS,λb f=>{_,_,w,q,N.dx (Dk.bS z) (λZ=>.inl) (λa e=>by rw[show a=L from e];calc {.inr<|.head _,λc=>j<|z.V.wx L c,λc=>j<|DS.b4 z L c}) (λa o n e=>f.extBut a o n e) λa c e=>ar (e∣c) j,g,{by rw[K.1],λa o e n u=>f.extBut a o (λd=>bl (d▸F.3) e)<|K.2 a o e n u,λa c=>CF.at (K.3 a c) λo=>f.extBut a o λd=>CF.bx (R.aQ a c)<|d⊂F.3},rfl}}
   ·show Ba _ z.V.A (do let _<-comprehension (.ListComp l ({target,iter,ifs,0}::rest) S p) S z.env _ (newList []) Ab (D4 iter z.env) (U<|assign (.Name x E) z.env)) _ _ s;calc AL<|CW (AiV rfl (fv r _) M ok.1 (λx f X=>(ok.3 x f).2.1 X) w) (λZ a b=>Bn<|Bn b) bu
def wk:WX l [{target,iter,ifs,0}] S pos 0 target iter.pos ifs a (λb=>do let _<-Iq (.builtin "list.append") [a,<-D4 l b]):=⟨λZ Z=>rfl⟩
abbrev Jk(l target iter:A2)(ifs:-A2)(c a:A2)(B:-A2)(S:Dz)(pos:Pos)(d:Aw)(env:Env):Sem Unit:=do
 let x<-D4 a env
 XY a.pos
 let x<-foldedSetIterable a env x
 let _<-runOwn (.compStart (.ListComp l [{target,iter,ifs,0},{c,a,B,0}] S pos) 1 (<-holding [x] (Pg x)) d env) env
def wm:WX l [{target,iter,ifs,0},{a,c,B,0}] S pos 0 target iter.pos ifs d (Jk l target iter ifs a c B S pos d):=by
 clear l target iter a c S pos ifs B d _;calc⟨λe env=>by
  unfold compTurn;simp only [List.getElem?_cons_zero,List.getElem?_cons_succ,bind_assoc,pure_bind,bne_self_eq_false,X0,if_false,EV];calc ah _<|funext λZ=>ah _<|funext λr=>?_;cases r with
  |none=>rfl|some v=>first|rfl|(simp only [bind_assoc,pure_bind];rfl)⟩
def wo:WX l [{target,iter,ifs,0},{a,c,B,0}] S pos 1 a c.pos B d (λa=>do let _<-Iq (.builtin "list.append") [d,<-D4 l a]):=⟨λZ Z=>rfl⟩
def YC(z:A5)(target l:A2)(ifs:-A2)(idx:-Nat)(b:Bool)(ay:-T)(I:-T->Prop)(t:T):Prop:=∃a,WR z target t a idx/\∀w,RM (z.ax a w) ifs λc=>if c=Y then Fs ay=Y/\BM (z.ax a w) l λt a=>∃t',LV b t a t'/\I (ay++[t']) else I ay
def RM.aq(H:RM z ifs Q)(q:∀b,Q b->DH b):RM z ifs DH:=H.imp (λH=>{H.1,q _ H.2}) λH=>ae H λe h H=>{e,h,λs R=>H.aG R λb a p S=>{S,q b p}}
def YC.d6(H:YC z target l ifs idx b ay I t):∃a,V6 z target idx [] ifs D b (λa=>do let _<-Iq (.builtin "list.append") [.ref D,<-D4 l a]) ay I t a:=ae H λa b c=>⟨a,b,λZ h=>ar h CR,λw=>(c w).aq λa q=>by
 cases a with
 |false=>calc q|true=>calc v7 q.1 q.2⟩
def wq(ok:M6 z.V.C S Eh)(c:J z.Am=z.V.C.Aq.length)(d:∀j∈idx,z.V.C.Aq.length<=j/\j<z.V.C.Aq.length+J Eh)(f:MB z Ab target iter λc=>∃I:Nat->↑T->Prop,I 0 []/\(∀a,Abb z S Eh a->∀j t ay,c[j]?=U t->I j ay->YC a target l ifs idx b ay (I<|j+1) t)/\∀ay,I (J c) ay->Q (.Bo (!b) ay) (Fe b)):KA z l [{target,iter,ifs,0}] S pos iter Q:=by clear z l target iter S Eh _ pos ifs b idx Q _ ok c d f;calc mx ok c rfl (λj h=>d j<|Ct idx∣h) (λZ=>wk) λs R=>CW (f s R) (λu b q=>CW q (λw b p=>M5.rec (λb q K S c=>aE q λI g m o=>{b,{I,g,λa r D j t b e h=>(m a r j t b e h).d6,o},K,S,c}) p) bu) bu
def wt
  (d:G9 (BK prog w) A (.compLoop (.ListComp l [g1,{target,iter,ifs,0}] S pos) 1 a ay env) R s)
  (h:Ba (BK prog w) A (Pg a) (λc a=>G9 (BK prog w) A (.compLoop (.ListComp l [g1,{target,iter,ifs,0}] S pos) 1 c ay env) R a) (λZ Z=>False) s):
  G9 (BK prog w) A (.compStart (.ListComp l [g1,{target,iter,ifs,0}] S pos) 1 a ay env) R s:=by
 calc sW ?_;show Ba _ _ ((compStart (.ListComp l [g1,{target,iter,ifs,0}] S pos) 1 a ay env).onRaise (λx=>do noteFrame x env;XY theWindowsPlace)) _ _ s;refine wpAny_notedAt<|AL<|wpAny_askSetting<|wpAny_ite ?_
 split
 ·first
   |calc AL<|Bn<|Bn<|ZJ rfl d
   |exact Bn<|ZJ rfl d
 ·first
   |calc AL<|SP<|AL<|Rj<|AL<|CW h (λc a b=>Bn<|ZJ rfl b) bL
   |(calc AL<|SP ?_;show Ba _ _ (XY iter.pos>>=_) _ _ s;calc AL<|Rj<|AL<|CW h (λc a b=>Bn<|ZJ rfl b) bL)
def I8.mG(h:GZ ay=Y)(y:I8 z hs D Ab ay s):∃Ae,s.heap.PlainList D Ae.toArray/\Bl z.Aa z.M s.heap ay Ae []:=ae y λa p y=>ae y λf y Z=>{a,p,Bl.cI h y∣y}
def I8.mH(y:∃Ae,s.heap.PlainList D Ae.toArray/\Bl z.Aa z.M s.heap ay Ae []):I8 z hs D Ab ay s:=ae y λa p y=>{a,p,[],y,E1.nil _}
def wu{ay:-T}{Q:-T->Prop}(r:RD A=Ab)(w:GZ ay=Y)(M:∀j∈idx,z.Am[j]?=U Ai)(N:∀j∈idx,∀x,z.V.C.Aq[j]?=U (U x)->z.V.C.BN.names.lookup x=U .local)
  (P:MB z Ab G A λa=>∃I:Nat->↑T->Prop,I 0 ay/\(∀X Bj j t ay,a[j]?=U t->I j ay->YC (z.aA X Bj) G l B idx Ab ay (I<|j+1) t)/\∀ay,I (J a) ay->GZ ay=Y/\Q ay):
  Kw z D Ab idx (Jk l target iter ifs G A B S pos<|.ref D) ay Q:=by
 clear z l target iter G A S _ pos ifs B idx D ay Q _ r w M N P;exactλhs s f WK R y=>
  AL (CW (P s R) (λJl s1 q=>AL (Rj (AL (Ph (fv r _ Jl) (AL (Lp (CW q (λit s2 p=>AL (wpAny_runOwn (M5.rec (λBW q Cz W d=>aE q λI h0 MC EP=>by have g:Dk z.Aa z.env (z.V.Ff W.aQ):=R.cM d.6;have HW:∀Am q,AY (z.ax Am q) s->AY ((z.aA _ g).ax Am q) s2:=λa q R=>R.enter (z:=z.ax a q) (AY.aU (z:=z.ax a q) R Cz.1 Cz.2.3) d.6 (d.7 0 _ d.4) g;have QN:AY (z.aA _ g) s2:=HW z.Am (z.Ae,z.AO) R;have H:∀a∈W.aQ,¬z.V.X a:=λa h x=>R.bb a x<|d.6 a h;have WZ:∀a,z.V.NN D a->z.V.X a:=λa h=>h.elim (z.V.wx a) λh=>h.elim (λe=>e⊂z.V.Hg) λe=>e⊂f.2;rw[d.1];calc(λa=>wt a<|d.3 0 _ _ _ d.4 a) ?_;calc ma (z:=z.aA _ g) (AV:=[]) wo M (λZ h=>ar h CR) N h0 (λj t a e h=>(MC _ g j t a e h).d6) {d.2,d.4,d.7,λa h=>{.inr h,λc=>H a h<|WZ a c,λc=>H a h<|DS.b4 z a c},λa h c=>(d.5 a h).1<|WZ a c,λi v b r f g=>d.8 i v b _ r (λa h=>h.elim (·.elim (λc=>.inl<|.inl c) λc=>.inr<|.inl c) λc=>.inl<|.inr c) (λa o e m u=>f a o e λc=>c.elim (·.elim (λc=>m<|.inl c) u) λc=>m<|.inr c) g} {QN.bb,.inl f.2,f.3,f.4} (λZ h=>h) QN (.mH (ae (y.mG w) λb g y=>{b,g.at λo e=>Cz.1.2 D o e f.4 λe=>f.3<|.inl e,y.a9 (λa h=>h.elim (·.elim (λc=>.inl<|.inl c) λc=>.inr<|d.6 a c) λc=>.inl<|.inr c)<|R.Fd Cz.1 (λZ=>.inl) az})) (Dk.bS z) (λa h=>{.inl h,λu=>H a u h}) λb L c F=>Bn {L,(EP L c).2,λa q R w=>F.1 a q (HW a q R) λj h=>w j<|Ct idx∣h,.mH<|F.2.mG (EP L c).1,Cy.aH (R.h8 f Cz) F.3 (λZ=>.inl) (λa h=>.inr<|.inr<|d.6 a h) λZ=>.inl}) p))) bL))))))) bL)
end
structure Tp where
 f1:↑As
 g:↑As
 f2:-As
instance:Nonempty Tp:={[],[],[]}
def BI(Aa:C0)(M:As->Prop)(h:BX)(up:T->(As->Prop)->BX->↑As->Prop)(t:T)(u:Aw)(AO:-As)(c:Tp):Prop:=Dy
 (AO=c.f1++(c.g++c.f2))
 (A9 Aa M h t u c.g)
 (∀{Df Ay L0 M7},(∀a,Df a->M a\/h.get? a=Ai)->Mq M (c.f1++c.f2) h Ay->A9 Aa Df Ay L0 u M7->up L0 Df Ay (c.f1++(M7++c.f2)))
section
variable{up:T->(As->Prop)->BX->↑As->Prop}{AO:-As}
def mI{b:-As}(q:a∈bG++b):a∈bG++(c++b):=(aN q).elim (CL _) λq=>BH _<|BH _ q
def fz{b:-As}(q:a∈c):a∈bG++(c++b):=BH _<|CL _ q
def BI.a9{d:As->Prop}(L:BI Aa M h up t u AO c)(b:∀a,d a->M a\/h.get? a=Ai)(l:Hh h f)(Ax:Mq M AO h f):BI Aa d f up t u AO c:=
 {L.1,A9.a9 b _ (λa o e q=>Ax a o e<|q.imp_left λq=>L.1⊂fz q) L.2,λg i r=>L.3 (λa q=>(g a q).elim (b a) λe=>.inr<|l a e) (λa o e q=>i a o (Ax a o e<|q.imp_left λq=>L.1⊂mI q)<|q.imp_right λq=>q.imp_left λq w=>(b a w).elim q λj=>bl j e) r}
def BI.cK(L:BI Aa M h up (.ab Cr Y xs) u AO c)(Ax:Cr.at Aa h n)(cN:c.g=Cr.Gf n++n.f)(p:u=.ref n.a)(F:AaO Aa M h xs n.Ae n.f j x i):∃s,BI Aa M h (λy=>up<|.ab Cr Y<|xs.set j y) x i.v AO s:=a8 F.3 λg f2 t w z=>by
 calc {{c.f1++(Cr.Gf n++i.f),g,f2++c.f2},by rw[L.1,cN,F.2,t];simp only [Dr],w,λ{Df Ay L0 M7} l b r=>?_};have DZ:=z l (λa o e q=>b a o e<|q.imp_left λq=>(aN q).elim (λq=>CL _<|BH _<|BH _ q) λq=>BH _<|CL _ q) r;rw[fi F.1] at DZ;have m:=L.3 l (λa o e q=>b a o e<|q.imp_left λq=>(aN q).elim (λq=>CL _<|CL _ q) λq=>BH _<|BH _ q) (L0:=.ab Cr Y<|xs.set j L0) {{n with f:=i.f++(M7++f2)},p,Cr.fh.mp<|DR.bg (λa A d e=>b a d e<|.inl<|CL _<|BH _<|CL _ A) (λa d e q=>b a d e<|.inr<|.inr q) Ax,DZ,ah (·++(i.f++(M7++f2))) Cr.gp};simp only [Dr] at m⊢;calc m
end
def GF(z:A5)(h:BX)(t:T)(CM:T->B5)(u:Aw)(c:Tp):Prop:=Em
 (BI z.Aa z.M h (λy b c a=>Bl z.Aa b c (Fq<|CM y) z.Ae a) t u z.AO c)
 (∀y (j:Nat) t',(CM y)[j]?=U (U t')->∃b,z.Am[j]?=U (U b))
inductive wy(z:A5)(s:AM)(Q:T->(T->B5)->Prop)(u:Aw)(s':AM):Prop
 |mk (t:T) (CM:T->B5) (c:Tp) (q:Q t CM) (S:CJ z s s') (P:GF z s'.heap t CM u c)
def F2(z:A5)(e:A2)(Q:T->(T->B5)->Prop):Prop:=∀s,AY z s->Ec z (D4 e z.env) (wy z s Q) s
section
variable{z:A5}{u:Aw}{Cr:DR}
def F2.aG(H:F2 z e Q)(R:AY z s)(k:∀u s' t CM c,Q t CM->CJ z s s'->GF z s'.heap t CM u c->P u s'):Ba (Dw z) z.V.A (D4 e z.env) P E s:=
 CW (H s R) (λu a p=>p.rec<|k u a) bL
def GF.bg(P:GF z s.heap t CM u c)(R:AY z s)(S:CJ z s s1):GF z s1.heap t CM u c:=⟨P.1.a9 (λZ=>.inl) (R.bq S.1)<|R.Fd S.1 (λZ=>.inl) λa h=>(R.4 a h).2,P.2⟩
def gL{x:Str}(b:z.V.C.Aq[i]?=U (U x))(h:(x==("__debug__":Str))=Ab)(l:(x==("__classdict__":Str))=Ab)(a:HP z.Am i=U t)(q:Q t λy=>z.Am.set i<|U y):F2 z (.Name x pos) Q:=λs R=>
 Wj (eP R b (cz a) l λv A8=>ak (R.6.focus<|fm<|cz a) λc F=>a8 F.3 λg f2 m o p=>by
  have AW:=BQ<|F.1.symm^A8;calc {t,_,{c.f,g,f2},q,R.bk,{F.2^ah (c.f++·) m,AW∣o,λ{Df Ay L0 M7} w Ax r=>?_},λy j t' e=>?_};·have r:=p w Ax r;rw[<-AW,fi F.1] at r;show Bl _ _ _ (Fq<|z.Am.set i<|U L0) _ _;exact(show Fq (z.Am.set i<|U L0)=_ from XO)⊂r
  ·by_cases d:i=j;·exact {t,d∣cz a}
   ·calc {t',(SN d).symm^e}) h
theorem GF.Ap{G:Prop}(P:GF z h (.ab Cr Y xs) CM u c)(d:xs[j]?=U x)(k:∀(n:Iy) w b,u=.ref n.a->Cr.at z.Aa h n->n.Ae[j]?=U w->handedIn w=Y->GF z h x (λy=>CM<|.ab Cr Y<|xs.set j y) w b->G):G:=
 a6 P.1.2 λn a c y e=>ak (y.focus d) λi F=>ak (P.1.cK c e a F) λb L=>k n i.v b a c F.1 (a8 F.3 λZ Z Z q Z=>q.gx) {L,λy=>P.2 _}
def Ad2(t:T)(CM:T->B5)(a:DR->↥Nat)(Q:T->(T->B5)->Prop):Prop:=∃Cr xs,t=.ab Cr Y xs/\∃j x,(a Cr=U j/\xs[j]?=U x)/\Q x λy=>CM<|.ab Cr Y<|xs.set j y
def Ad3(n:Nat):DR->↥Nat
 |.DM c as=>if HM c n=Y then F1 as n else Ai|_=>Ai
def wz(ok:DY z.Aa)(b:My o=Y)(H:F2 z o λt CM=>Ad2 t CM (Ad3 n) Q):F2 z (.Attribute o (En n) pos) Q:=by
 clear z pos Q o n _ ok b H;exactλs R=>
  Attribute_any_ (H.aG R λu s1 t CM c q S P=>bP q λCr xs e q=>bP q λj x a q=>GF.Ap (e∣P) a.2 λm w d AW Ax A8 f g=>by
   cases Cr with
   |DM c as=>calc aC (c8 a.1) λAg h=>AW▸lg ok S.2 Ag h Ax A8 f λtk=>{x,_,d,q,S.aH<|S.2.bp .cb,g}
   |_=>(injection a.1<;>subst_vars)) (by rw[arm_eval_Attribute,dS b])
def wA(hs:Px slice=Ab)(H:F2 z value λt a=>∃xs,t=.ab .Bo Y xs/\BM z slice λd Z=>∃i:Int,d=.au i/\∃x,(0<=i/\i<2^63/\xs[i.toNat]?=U x)/\Q x λy=>a<|.ab .Bo Y<|xs.set i.toNat y):F2 z (.Subscript value slice pos) Q:=λs R=>
 j3 (H.aG R λu o t p c q S P=>ae q λc e H=>H.aG S.2 λc o d m q a y=>ae q λi f q=>ae q λx b q=>GF.Ap (GF.bg (e∣P) S.2 a) b.2.2 λn w g c d e l h=>ak (f▸y).au λf j=>by rw[c,j];calc SH (Heap.PlainList.isList d).typeIs sN.lookup (j4 (Heap.PlainList.isList d) b.1 b.2.1 (by rw[Wm];calc e) {x,_,g,q,(S.aH a).aH<|a.2.bp .cb,h})<|eS hs _ _)
def wB(hs:Px slice=Ab)(H:F2 z value λt a=>∃ag xs,t=.ab (.Dh ag) Y xs/\BM z slice λb Z=>∃k j,(Mw b=U k/\I4 k ag=Y/\CK ag k=U j)/\∃x,xs[j]?=U x/\Q x λy=>a<|.ab (.Dh ag) Y<|xs.set j y):F2 z (.Subscript value slice pos) Q:=λs R=>
 j3 (H.aG R λu o t p c q S P=>bP q λc o e H=>H.aG S.2 λo p b m q a y=>bP q λk j b q=>ae q λx d q=>GF.Ap (Cr:=.Dh c) (GF.bg (e∣P) S.2 a) d λn w f c d e l g=>ae d.2.cC λh j i=>by rw[c];calc SH {h,j,i.1} slot_dict_getitem.lookup (k7 d.2 (y.aI b.1) b.2.1 b.2.2 e (z.bw ∅) λb=>{x,_,f,q,(S.aH a).aH<|a.2.bp .cb,g})<|eS hs _ _)
def AY.mut(R:AY z s)(q:Dk z.Aa z.env GD)(g:∀a,GD a->z.V.X a)(EK:D∈z.AO)(Ax:∀a o,a≠D->s.heap.get? a=U o->Ay.get? a=U o)(r:CF Ay D)(hs:∀(i:Nat) (t:T),h[i]?=U (U t)->∃j,z.Am[i]?=U (U j))(own:∀a∈f,z.Aa.Cx.get? a=Ai/\¬GD a)(ab:f.Nodup)(y:Bl z.Aa (λa=>GD a\/a∈f) Ay (Fq h) z.Ae f):AY ((z.aA GD q).ax h (z.Ae,f)) {s with heap:=Ay,toks:=tk}/\Ez z s {s with heap:=Ay,toks:=tk}:=by
 clear z s GD D Ay tk h f _ R q g EK Ax r hs own ab y;have l:∀a,z.V.X a->a≠D:=λa x e=>(R.4 D EK).2<|e∣x;have p:=λa x=>l a<|DS.b4 z a x;calc⟨⟨λb o e=>Ax b o (λd=>bl (rwr d ((R.4 D EK).1):z.Aa.Cx.get? b=Ai) e)<|R.1 b o e,λa x=>CF.at (R.2 a<|g a x) λo=>Ax a o<|l a<|g a x,λw=>(R.3 w).at λo=>Ax _ o<|l _<|z.V.wx _ w,own,ab,y,
   ae R.7 λm A w=>{m,A.at' λo e=>Ax _ o (p _<|.inl rfl) e,λi x t B C=>ak (hs i t C) λj E=>ae (w i x j B E) λv F G=>{v,F,G.gA (λZ=>id) λc a w=>IsCell.at w λo=>Ax c o<|p c<|.inr {x,a}}},λx c a=>ak (R.8 x c a) λv w=>{v,IsCell.at w λo=>Ax c o<|p c<|.inr {x,a}}⟩,
  ⟨rfl,λa o e n Z=>Ax a o (λd=>n<|.inr<|.inr<|d⊂EK) e,λa w=>by
   by_cases d:a=D;·exact d⊂r
   ·calc(R.aQ a w).at λo=>Ax a o d⟩⟩
end
section
variable{z:A5}{s s0 s1:AM}{hs:BX}{CM:T->B5}{u v:Aw}{c:Tp}{g f:-As}{t t' y:T}{A:By}{D:As}{l:BX}{tk:Nat}{xs:-T}{Q:Fz->B5->Prop}
def GF.enter(P:GF z s1.heap t CM u c)(b:AY z s1)(S:CJ z s1 s)(d:∀a∈g,s1.heap.get? a=Ai)(i:Dk z.Aa z.env (z.V.Ff g)):GF (z.aA _ i) s.heap t CM u c:={P.1.a9 (λa h=>h.elim (·.elim (λh=>.inl<|.inl h) λh=>.inr<|d a h) λh=>.inl<|.inr h) (b.bq S.1)<|b.Fd S.1 (λZ=>.inl) λa h=>(b.4 a h).2,P.2}
def BL.gM(k:HR Ab t A t')(R:AY z s)(b:H9 z hs)(y:BL z hs s.heap t A v):∃g,RC z hs s.heap t' v g:=ae y λf y a=>ae (A9.cL (a.av R b) k y a) λg Z w=>{g,w}
def RC.mL(y:RC z hs l t v g)(i:Dk z.Aa z.env (z.V.Ff g)):A9 z.Aa (z.aA _ i).M l t v g:=y.1.cy λa h=>.inl (h.elim (·.elim (λh=>.inl<|.inl h) .inr) λh=>.inl<|.inr h)
def AY.c0(R:AY z s)(j:D∈z.AO)(Ax:∀a o,a≠D->s.heap.get? a=U o->l.get? a=U o)(b:D∉f):Mq z.M f s.heap l:=λa o e q=>Ax a o (λd=>q.elim (λq=>b<|d∣q) λq=>q.elim (λq=>q<|.inr<|d⊂j) λq=>ae (R.bE D j) λZ w n=>n<|BQ (w.symm^(d▸e))⊂q) e
def wC(C:AY z s0)(K:Ez z s0 s)(E:∀a∈g,s0.heap.get? a=Ai)(i:Dk z.Aa z.env (z.V.Ff g))(R:AY (z.aA _ i) s)(P:GF (z.aA _ i) s.heap t CM u c)(j:D∈c.g)(Ax:∀a o,a≠D->s.heap.get? a=U o->l.get? a=U o)(N:CF l D)(ab:f.Nodup)(sub:∀a∈f,a∈c.g\/a∈g)(r:A9 z.Aa (z.aA _ i).M l y u f)(q:Q .aX (CM y)):Ef z s0 Q .next {s with heap:=l,toks:=tk}:=by have F:=P.1.1;have mem:∀a,a∈c.g->a∈z.AO:=λa h=>F⊂fz h;have Ep:∀a,a∈c.f1++c.f2->a∈z.AO:=λa h=>F⊂mI h;have w:=cH (rwl F R.5:(c.f1++(c.g++c.f2)).Nodup);have G:=cH w.2.1;have I:∀{a},a∈g->a∈z.AO->False:=λ{a} h q=>CF.bx (C.bE a q)<|E a h;have H:∀a,a∈c.f1++(f++c.f2)->a∈z.AO\/a∈g:=λa h=>(aN h).elim (λh=>.inl<|Ep a<|CL _ h) λh=>(aN h).elim (λh=>(sub a h).imp_left<|mem a) λh=>.inl<|Ep a<|BH _ h;have S:D∉c.f1++c.f2:=λh=>(aN h).elim (λh=>w.2.2 D h D (CL _ j) rfl) λh=>G.2.2 D j D h rfl;have L:∀a,(z.V.X a\/a∈c.f1++(f++c.f2))->(z.aA _ i).M a:=λa h=>h.elim (λh=>.inl<|.inl h) λh=>(H a h).elim .inr λh=>.inl<|.inr h;have ib:(c.f1++(f++c.f2)).Nodup:=cv {w.1,cv {ab,G.2.1,λa B b d e=>(sub a B).elim (λh=>G.2.2 a h b d e) λh=>I h<|e⊂Ep b (BH _ d)},λa B b d e=>(aN d).elim (λd=>(sub b d).elim (λh=>w.2.2 a B b (CL _ h) e) λh=>I h<|e∣Ep a (CL _ B)) λd=>w.2.2 a B b (BH _ d) e};have WJ:=P.1.3 (Df:=λa=>z.V.X a\/a∈c.f1++(f++c.f2)) (L0:=y) (M7:=f) (λa h=>.inl<|L a h) (R.c0 (mem D j) Ax S)<|r.cy λa h=>.inl<|L a h;have W:=R.mut (GD:=z.V.X) (tk:=tk) (Dk.bS z) (λZ=>.inl) (mem D j) Ax N (P.2 y) (λa h=>(H a h).elim (C.4 a) λh=>C.ly<|E a h) ib WJ;calc {.aX,CM y,(z.Ae,c.f1++(f++c.f2)),q,W.1,λa h=>(H a h).imp_right<|E a,Cy.CG K (q:=(z.Ae,z.AO)) .bk W.2,rfl}
def ID(z:A5)(s0:AM)(g:-As)(i:Dk z.Aa z.env (z.V.Ff g))(s:AM)(CM:T->B5)(u:Aw)(c:Tp)(Cr:DR)(xs:-T)(n:Iy):Prop:=VM
 (AY (z.aA _ i) s)
 (GF (z.aA _ i) s.heap (.ab Cr Y xs) CM u c)
 (u=.ref n.a)
 (Cr.at z.Aa s.heap n)
 (Bl z.Aa (z.aA _ i).M s.heap xs n.Ae n.f)
 (c.g=Cr.Gf n++n.f)
 (∀a∈g,s0.heap.get? a=Ai)
 (∀a∈g,a∉Cr.Gf n++n.f)
 ((Cr.Gf n++n.f).Nodup)
 (∀a∈Cr.Gf n,a∈z.AO)
variable{Cr PC:DR}{x:-T}{n:Iy}{ws:-Aw}{i:Dk z.Aa z.env (z.V.Ff g)}
def ID.of{G:Prop}(d:AY z s0)(b:∀a∈g,s0.heap.get? a=Ai)(R:AY (z.aA _ i) s)(P:GF (z.aA _ i) s.heap (.ab Cr Y xs) CM u c)(k:∀n,ID z s0 g i s CM u c Cr xs n->G):G:=a6 P.1.2 λn e f y i=>
 have m:=λa h=>P.1.1⊂fz (i▸h)
 k n {R,P,e,f,y,i,b,λa h q=>CF.bx (d.bE a<|m a q)<|b a h,i∣dH (gk (P.1.1▸R.5:(c.f1++(c.g++c.f2)).Nodup)),λa h=>m a<|CL _ h}
variable(m:ID z s0 g i s CM u c Cr xs n)(j:D∈Cr.Gf n)(p:Heap.SameBut D s.heap l)
include m j p
def ID.c0(b:D∉f):Mq (z.aA _ i).M f s.heap l:=m.1.c0 (m.10 _ j) (λa o n e=>p.extBut a o n e) b
def ID.eY:Bl z.Aa (z.aA _ i).M l xs n.Ae n.f:=m.5.a9 (λZ=>.inl)<|m.c0 j p λh=>(dI m.9) D j D h rfl
def ID.gN{t:T}{v:Aw}(y:A9 z.Aa (z.aA _ i).M s.heap t v g):A9 z.Aa (z.aA _ i).M l t v g:=y.bg<|m.c0 j p λh=>m.8 _ h<|CL _ j
def ID.eU(E:AY z s0)(K:Ez z s0 s)(Ax:PC.at z.Aa l {n.a,n.d,ws,f})(w:PC.Gf {n.a,n.d,ws,f}=Cr.Gf n)(sub:∀a∈f,a∈n.f\/a∈g)(ab:f.Nodup)(r:Bl z.Aa (z.aA _ i).M l x ws f)(q:Q .aX (CM<|.ab PC Y x)):Ef z s0 Q .next {s with heap:=l,toks:=tk}:=
 have B:=cH m.9
 wC (y:=.ab PC Y x) (f:=Cr.Gf n++f) (D:=D) E K m.7 i m.1 m.2 (m.6⊂CL _ j) (λa o n e=>p.extBut a o n e) (DR.bE Ax D<|w⊂j) (cv {B.1,ab,λa C b F e=>(sub b F).elim (λh=>B.2.2 a C b h e) λh=>m.8 b h<|e∣CL _ C}) (λa h=>(aN h).elim (λh=>.inl<|m.6⊂CL _ h) λh=>(sub a h).imp_left λh=>m.6⊂BH _ h) {{n.a,n.d,ws,f},m.3,Ax,r,ah (·++f) w.symm} q
end
section
variable{prog:Gu}{w:FH}{A:EI}{E:Aw->AM->Prop}{s:AM}
def wD{f:Array Aw->Array Aw}{BW:Array Aw}{n:Nat}:∃a,Obj.mapSeq f {cls:=.type "list",data:=.seq BW n}={cls:=.type "list",data:=.seq (f BW) a}:={_,rfl}
def mM{l:As}{BW:Array Aw}{n:Nat}(f:Array Aw->Array Aw)(a:s.heap.get? l=U {cls:=.type "list",data:=.seq BW n}):(s.heap.update l<|Obj.mapSeq f).PlainList l (f BW):=ak (wD (f:=f) (BW:=BW) (n:=n)) λb e=>{b,by rw[SM _ a (by rw[e];rfl),e]}
def wF{l b:As}{BW a:Array Aw}{Q:Aw->AM->Prop}(e:s.heap.PlainList l BW)(f:s.heap.PlainList b a)(c:BW.size+a.size<=H5)
  (g:∀Ay,Ay.PlainList l (BW++a)->Heap.SameBut l s.heap Ay->Q .none {s with heap:=Ay}):Ba (BK prog w) A (Iq (.builtin "list.extend") [.ref l,.ref b]) Q E s:=by calc ak e λn d=>ak f λh i=>?_;calc call_meets PySem.F.slot_list_extend {_,d,rfl} PySem.F.entry_list_extend (PySem.F.args_list_extend_2 _ _) (PySem.AutoSeq1.list_extend_list_list_0 l BW n b a h (extend_door c) (CD _ _\c)<|Ml c) {d,i,g _ (mM (λx=>x++a) d)<|Heap.SameBut.update ..}
def wG{l:As}{BW:Array Aw}{y:Aw}{Q:Aw->AM->Prop}(b:s.heap.PlainList l BW)(c:BW[BW.size-1]?=U y)(d:BW.size<=H5)
  (e:∀Ay,Ay.PlainList l (BW.eraseIdxIfInBounds<|BW.size-1)->Heap.SameBut l s.heap Ay->Q y {s with heap:=Ay}):Ba (BK prog w) A (Iq (.builtin "list.pop") [.ref l]) Q E s:=by calc ak b λn a=>call_meets PySem.F.slot_list_pop {_,a,rfl} PySem.F.entry_list_pop (PySem.F.args_list_pop_1 _) (PySem.MeetsSeq.list_pop_last l BW n y c d) {a,e _ (mM (λx=>x.eraseIdxIfInBounds<|BW.size-1) a)<|Heap.SameBut.update ..}
end
def wH{BW:Array Aw}(h:BW.size≠0):(BW.eraseIdxIfInBounds<|BW.size-1).toList=BW.toList.dropLast:=by unfold Array.eraseIdxIfInBounds;rw[dif_pos<|Nat.sub_lt (AiJ h) Nat.one_pos,Array.toList_eraseIdx,<-Wt,List.eraseIdx_length_sub_one]
section
variable{z:A5}{o e:A2}{d pos l p:Pos}{Q:Fz->B5->Prop}{s s1 i:AM}
def Ez.fo(R:AY z s)(a:CJ z s s1)(b:CJ z s1 i):Ez z s i:=R.cg<|a.1.aH b.1
def wI(w:My o=Y)(x:(d.endLine==pos.line)=Y)(A:HQ e=Ab)(H:F2 z o λt a=>∃xs,t=.ab .Bo Y xs/\BM z e λt b=>∃t',HR Ab t b t'/\Fs xs=Y/\Q .aX (a<|.Bo Y<|xs++[t'])):Dj z (Gx<|.Expr (.Call (.Attribute o "append" d) [e] [] pos) l) Q:=by
 clear z o e d pos l Q _ w x A H;exactλs R=>
  wpAny_Expr (s9 (dS w _ _ _) (by rw[cf A];rfl) x (H.aG R λu s1 t CM c q j P=>ae q λxs B H=>a6 (rwl B P.1.2:A9 z.Aa z.M s1.heap (.ab .Bo Y xs) u c.g) λN C a0 Z Z=>by have D:=(Heap.PlainList.isList a0).typeIs;rw[<-C] at D;calc {"list","list.append",PySem.F.plainAttrs_list,slot_list_append,type_list_append,D,λc a=>by rw[C] at a;cases a;calc ak a0 λn e=>{_,e,rfl},?_};calc j6 (by rfl)<|j7<|spliced_cons<|H.aG j.2 λv i t AJ q r y=>spliced_nil<|aE q λt' k G q=>ak (y.gM k r.2 j.2.bb) λg y=>?_;have Bj:=j.2.cM y.3;calc ID.of R (λa h=>R.bq j.1 a<|y.3 a h) (j.2.enter r y.3 (A9.bE _ y.1) Bj) (GF.enter (B▸P) j.2 r y.3 Bj) λn m=>?_;rw[m.3];calc AiZ m.4 (λAy E C6=>?_)<|d2 G m.5.bo;rw[AiY] at E;calc m.eU (PC:=.Bo) (.head _) C6 (f:=n.f++g) (tk:=i.toks) R (Ez.fo R j r) E rfl (λa h=>aN h) (cv {(hP m.9),y.2,λa I b L e=>m.8 b L<|e∣.tail _ I}) ((m.eY (.head _) C6).cx<|Bl.Cf<|m.gN (.head _) C6<|y.mL Bj) q)) z.V.S7 (dk rfl _ _ _)
def wL(x:My o=Y)(A:(d.endLine==pos.line)=Y)(B:HQ e=Ab)(H:F2 z o λt a=>∃xs,t=.ab .Bo Y xs/\Fs xs=Y/\BM z e λt b=>∃r Al,t=.ab .Bo r Al/\(GZ Al=Y/\NC Al=Y/\Fs Al=Y)/\Q .aX (a<|.Bo Y<|xs++Al)):Dj z (Gx<|.Expr (.Call (.Attribute o "extend" d) [e] [] pos) l) Q:=by
 clear z o e d pos l Q _ x A B H;exactλs R=>
  wpAny_Expr (s9 (dS x _ _ _) (by rw[cf B];rfl) A (H.aG R λu s1 t CM c q j P=>aE q λxs C I H=>a6 (rwl C P.1.2:A9 z.Aa z.M s1.heap (.ab .Bo Y xs) u c.g) λW D a0 Z Z=>by have E:=(Heap.PlainList.isList a0).typeIs;rw[<-D] at E;calc {"list","list.extend",PySem.F.plainAttrs_list,PySem.F.slot_list_extend,PySem.F.type_list_extend,E,λc a=>by rw[D] at a;cases a;calc ak a0 λn e=>{_,e,rfl},?_};calc j6 (by rfl)<|j7<|spliced_cons<|H.aG j.2 λv i t AJ q w y=>spliced_nil<|a8 q λr Al L A4 q=>a6 (rwl L y:BL z s1.heap i.heap (.ab .Bo r Al) AJ v).Dg λnb N S b Z=>ae b λX b Z=>?_;have b:=Bl.cI A4.1 b▸b;have Bj:=j.2.cM az;calc ID.of R az (j.2.enter w az az Bj) (GF.enter (C▸P) j.2 w az Bj) λn m=>?_;rw[m.3,N];calc wF m.4 S (by rw[LX,LX,m.5.bo,b.bo,Qt];calc EL (el I) (el A4.2.2)\∅) λAy G C6=>?_;rw[List.append_toArray] at G;calc m.eU (PC:=.Bo) (.head _) C6 (f:=n.f++[]) (tk:=i.toks) R (Ez.fo R j w) G rfl (λa h=>aN h) ((Ct n.f).symm▸(hP m.9):) ((m.eY (.head _) C6).cx<|(Bl.c5 A4.2.1 b).a9 (λZ=>.inl)<|m.c0 (.head _) C6 λh=>aS h) q)) z.V.S7 (dk rfl _ _ _)
def Bl.take{M:As->Prop}{Aa:C0}{h:BX}(xs:-T):∀{Al:-T} {Ae:-Aw} {f:-As},Bl Aa M h (xs++Al) Ae f->∃g,Bl Aa M h xs (Ae.take<|J xs) g/\g.Sublist f:=by
 cases xs with
 |nil=>calcλ{Z _ f} Z=>{[],{rfl,rfl},ZO f}
 |cons x xs a=>calcλy=>aE y λc e b j=>ae (a j) λg m q=>{c.f++g,by rw[e.1];calc {{c.v,_,c.f,g},{rfl,rfl},b,m},e.2⊂q.append_left c.f}
def mN{P E:Aw->AM->Prop}(D:My o=Y)(G:(d.endLine==pos.line)=Y)(H:F2 z o λt a=>∃xs x,t=.ab .Bo Y (xs++[x])/\(x.EO=Y/\x.Fc=Y/\Fs (xs++[x])=Y)/\∀v s',Ef z s (λc b=>c=.aX/\b=a (.Bo Y xs)) .next s'->(∀M:As->Prop,A9 z.Aa M s'.heap x v [])->P v s')(R:AY z s):Ba (Dw z) z.V.A (D4 (.Call (.Attribute o "pop" d) [] [] pos) z.env) P E s:=
 Call_method0 (dS D _ _ _) G (H.aG R λu s1 t CM c q b P=>a8 q λxs x I j q=>by
  have Bj:=R.cM az;calc ID.of R az (R.enter b az az Bj) (GF.enter (I▸P) b.2 b.2.bk az Bj) λn m=>?_;have r:=m.4;have g:=m.5.bo;rw[BD,Pl] at g;rw[m.3];calc {"list","list.pop",PySem.F.plainAttrs_list,PySem.F.slot_list_pop,PySem.F.type_list_pop,((Heap.PlainList.isList r).typeIs),λc a=>by cases a;calc ak r λn e=>{_,e,rfl},?_};calc a8 (m.5.Cq<|List.getElem?_concat_length ..) λy W L w Z=>?_;calc j6 (by rfl)<|Bn<|wG r (by rw[LX,g,kk,Wm];calc L) (d2 j.2.2 m.5.bo) λAy B C6=>?_;have AW:n.Ae.toArray.eraseIdxIfInBounds (n.Ae.toArray.size-1)=(n.Ae.take<|J xs).toArray:=by rw[<-sz,wH (by rw[LX,g];calc kl _),List.dropLast_eq_take,g,kk]
  rw[AW] at B;calc ae (Bl.take xs<|m.eY (.head _) C6) λN S C=>q _ _ (m.eU (PC:=.Bo) (.head _) C6 (f:=N) (tk:=s1.toks) R (R.cg b.1) B rfl (λa h=>.inl<|C.subset h) ((hP m.9).sublist C) S {rfl,rfl}) λM=>A9.c5 _ j.2.1<|((A9.cI _ j.1 w)▸w).bg<|m.c0 (.head _) C6 λh=>aS h)
def wM{j:Nat}{x:Str}(f:Lw z.V.C j x)(m:My o=Y)(r:(d.endLine==pos.line)=Y)(H:F2 z o λt a=>∃xs x,t=.ab .Bo Y (xs++[x])/\(x.EO=Y/\x.Fc=Y/\Fs (xs++[x])=Y)/\Q .aX ((a<|.Bo Y xs).set j<|U x)):Dj z (Gx<|.Assign [.Name x p] (.Call (.Attribute o "pop" d) [] [] pos) l) Q:=λs R=>
 Vi (mN m r (λd A=>(H.aG A λu i t j c q S P=>a8 q λl y e h q=>⟨t,j,c,⟨l,y,e,h,λv d P c=>IC.rec (λE d w b P=>by rw[b.1,b.2] at P;calc ft (z:=z.ax _ w) (g:=[]) P.1 (Dk.bS z) (λZ h=>h) f az .nil (c _) λi B D g N=>{.aX,_,B,q,D,λa h=>(g.1 a h).elim (P.2 a) aS,Cy.CG P.3 P.2<|Ez.hJ P.1 N.1,rfl}) P⟩,S,P⟩)) R) (dk rfl _ _ _)
end
def Hv(ag:-BE)(k:BE):-BE:=(CK ag k).elim (ag++[k]) λZ=>ag
def Gi{α:Type}(o:↥Nat)(Ae:-α)(v:α):-α:=o.elim (Ae++[v]) λi=>Ae.set i v
def Tq{β:Type}(o:↥Nat)(l:-β)(up:β->β)(nw:β):-β:=o.elim (l++[nw]) λZ=>l.map up
section
variable{d:Type}{key:d->BE}{val:d->Aw}{up:d->d}{nw:d}{k:BE}{v:Aw}
def mP:∀{ag:-BE},CK ag k=Ai↔k∉ag
 |[]=>{λZ=>c3,λZ=>rfl}
 |a::ag=>by
  rw[gu];by_cases q:k=a;·rw[ao q];exact {nofun,λh=>ar (q∣.head _) h}
  ·rw[ai q,AiO];calc mP.trans {λh m=>(aK m).elim q h,λh m=>h<|.tail _ m}
def mQ{ag:-BE}{a:BE}(h:a∈Hv ag k):a∈ag\/a=k:=by
 unfold Hv at h;cases e:CK ag k with
 |none=>rw[e] at h;calc(aN h).imp_right aF|some i=>rw[e] at h;calc .inl h
def mR:∀{l:-d},(∀b,key b≠k->up b=b)->k∉l.map key->l.map up=l
 |[]=>λZ Z=>rfl|b::l=>λh n=>by rw[HI,h b λe=>n<|e∣.head _,mR h λm=>n<|.tail _ m]
def mS:∀{l:-d} {i:Nat},(∀b,key (up b)=key b)->(∀b,key b=k->val (up b)=v)->(∀b,key b≠k->up b=b)->(l.map key).Nodup->CK (l.map key) k=U i->(l.map up).map key=l.map key/\(l.map up).map val=(l.map val).set i v
 |b::l,i,Ag,c,a,ab,e=>by
  have ab:=du ab;have e:(if k=key b then U 0 else(CK (l.map key) k).map (·+1))=U i:=e;by_cases q:k=key b;·rw[ao q] at e;rw[<-BQ e,HI (f:=up),mR a<|q⊂ab.1];exact {ah (·::l.map key)<|Ag b,ah (·::l.map val)<|c b q.symm}
  ·rw[ai q] at e;calc ae (bD e) λj AW A3=>?_;have g:=mS Ag c a ab.2 AW;rw[<-A3,HI (f:=up),a b λe=>q e.symm];calc {ah (key b::·) g.1,ah (val b::·) g.2}
def mT{l:-d}(Ag:∀b,key (up b)=key b)(a:∀b,key b=k->val (up b)=v)(c:∀b,key b≠k->up b=b)(f:key nw=k)(g:val nw=v)(ab:(l.map key).Nodup):(Tq (CK (l.map key) k) l up nw).map key=Hv (l.map key) k/\(Tq (CK (l.map key) k) l up nw).map val=Gi (CK (l.map key) k) (l.map val) v:=by
 unfold Tq Hv Gi;cases e:CK (l.map key) k with
 |none=>calc {by show(l++[nw]).map key=l.map key++[k];rw[Ee,<-f];rfl,by show(l++[nw]).map val=l.map val++[v];rw[Ee,<-g];rfl}|some i=>calc mS Ag a c ab e
def mW{l:-d}{c:Bool}(h:c=(CK (l.map key) k).isSome):(if c=Y then l.map up else l++[nw])=Tq (CK (l.map key) k) l up nw:=by
 rw[h];unfold Tq;cases CK (l.map key) k with
 |none=>rfl|some i=>rfl
def ic{p:d->Bool}(a:∀b,p b=Y↔key b=k):∀l:-d,l.any p=(CK (l.map key) k).isSome
 |[]=>rfl|b::l=>by
  show(p b||l.any p)=(if k=key b then U 0 else(CK (l.map key) k).map (·+1)).isSome;by_cases q:k=key b;·rw[ao q,(a b).mpr q.symm];rfl
  ·rw[ai q,QA.mpr λh=>q ((a b).mp h).symm,ic a l,Bool.false_or,j2]
def ie{α c:Type}{f:c->BE}(i:∀a b,f a=f b->a=b){g:α->c}{l:-α}(h:(l.map g).Nodup):(l.map λa=>f<|g a).Nodup:=by rw[((Fy ..).symm)];calc List.Pairwise.map _ (λa b n e=>n<|i a b e) h
end
section
variable{Aa:C0}{s:AM}{ag:-BE}{a:As}{Ae:-Aw}{k:BE}{j v:Aw}{A:EI}{Q:Unit->AM->Prop}{E:Aw->AM->Prop}
def mX{op:Sem Unit}(D:Eo Aa s.heap ag a Ae)(Ax:NI Aa s.heap k j)(C:I4 k ag=Y)(F:J ag<=1000000)
  (G:∀(y:Str) (tk:Tok) (d:-(Str×Aw)),j=.str y tk->s.heap.DictOf (PySem.strKind Aa.De Aa.w) a d->J d<=H5->(∀Ay t,Ay.DictOf (PySem.strKind Aa.De Aa.w) a (stored d y v)->Heap.SameBut a s.heap Ay->Q () {s with heap:=Ay,toks:=t})->Ba (BK Aa.De Aa.w) A op Q E s)
  (H:∀(AN:-Fo) (c:As) (xs:-(-Fo×As×Aw)),j=.ref c->(M0 Aa).is s.heap AN c->s.heap.DictOfH (M0 Aa) a xs->J xs<=H5->(∀Ay t,Ay.DictOfH (M0 Aa) a (storedH xs AN c v)->Heap.SameBut a s.heap Ay->Q () {s with heap:=Ay,toks:=t})->Ba (BK Aa.De Aa.w) A op Q E s)
  (q:∀Ay tk,Eo Aa Ay (Hv ag k) a (Gi (CK ag k) Ae v)->Heap.SameBut a s.heap Ay->Q () {s with heap:=Ay,toks:=tk}):Ba (BK Aa.De Aa.w) A op Q E s:=by
 have o:J ag<=H5:=by rw[Qt];exact F\∅
 refine D.aI Ax C (λx t d D h AW Z=>?_) λAN c xs D h AW A4 Z=>?_
 ·calc bI (id D.1) λZ Z Z r=>?_;have ab:=ie (f:=BE.s) (λZ Z=>BE.s.inj) (g:=SR) r.2.2.2.2.2;calc G x t d AW D.1 (by rw[D.2,Bq] at o;calc o) λAy tk u hs=>q Ay tk (.inl {stored d x v,?_}) hs;have A3:stored d x v=Tq (CK (d.map λp=>BE.s p.1)<|.s x) d (λj=>if j.1=x then(j.1,v) else j) (x,v):=mW<|ic (λb=>bB.trans {ah BE.s,BE.s.inj}) d;have w:=mT (key:=λp:Str×Aw=>BE.s p.1) (val:=λp=>p.2) (up:=λj=>if j.1=x then(j.1,v) else j) (nw:=(x,v)) (k:=.s x) (v:=v) (l:=d) (λb=>by by_cases c:b.1=x<;>simp only [c,if_true,if_false]) (λb e=>by rw[ao<|BE.s.inj e]) (λb n=>ai λe=>n<|ah BE.s e) rfl rfl ab;rw[<-A3] at w;have i:Hv ag k=(stored d x v).map λp=>BE.s p.1:=by rw[h,D.2];exact w.1.symm
  exact {u,i,by rw[h,D.2,D.3];exact w.2.symm,λp z=>(mQ (rwr i (dM {p,z,rfl}):BE.s p.1∈Hv ag k)).elim (λm=>ae (b0 (rwl D.2 m:BE.s p.1∈d.map λp=>BE.s p.1)) λb B e=>BE.s.inj e∣D.4 b B) λe=>by rw[<-e] at h;rw[BE.s.inj h];calc(h▸rwr e Ax:NI Aa s.heap (.s x) j).2}
 ·calc bI (id D.1) λZ Z Z r=>?_;calc H AN c xs AW A4 D.1 (by rw[D.2,Bq] at o;calc o) λAy tk u hs=>q Ay tk (.inr {storedH xs AN c v,?_}) hs;have A3:storedH xs AN c v=Tq (CK (xs.map λp=>BE.t p.1)<|.t AN) xs (putAt AN v) (AN,c,v):=mW<|(j2.trans List.isSome_find?).trans<|ic (λb=>bB.trans {ah BE.t,BE.t.inj}) xs;have w:=mT (key:=λp:-Fo×As×Aw=>BE.t p.1) (val:=λp=>p.2.2) (up:=putAt AN v) (nw:=(AN,c,v)) (k:=.t AN) (v:=v) (l:=xs) (λb=>by unfold putAt;by_cases c:b.1=AN<;>simp only [c,if_true,if_false]) (λb e=>by unfold putAt;rw[ao<|BE.t.inj e]) (λb n=>ai λe=>n<|ah BE.t e) rfl rfl (ie (f:=BE.t) (λZ Z=>BE.t.inj) (g:=SR) r.2.2.2.2.2);rw[<-A3] at w;have i:Hv ag k=(storedH xs AN c v).map λp=>BE.t p.1:=by rw[h,D.2];exact w.1.symm
  calc {u,i,by rw[h,D.2,D.3];exact w.2.symm,λp z=>(mQ (rwr i (dM {p,z,rfl}):BE.t p.1∈Hv ag k)).elim (λm=>ae (b0 (rwl D.2 m:BE.t p.1∈xs.map λp=>BE.t p.1)) λb B e=>BE.t.inj e∣D.4 b B) λe=>by rw[<-e] at h;rw[BE.t.inj h];calc(h▸rwr e Ax:NI Aa s.heap (.t AN) j).2}
def wN(D:Eo Aa s.heap ag a Ae)(Ax:NI Aa s.heap k j)(h:I4 k ag=Y)(d:J ag<=1000000)(i:A.units+1<IJ)(q:∀Ay tk,Eo Aa Ay (Hv ag k) a (Gi (CK ag k) Ae v)->Heap.SameBut a s.heap Ay->Q () {s with heap:=Ay,toks:=tk}):Ba (BK Aa.De Aa.w) A (Vq (.ref a) j v) Q E s:=
 mX D Ax h d (λy a l e f d c=>e⊂wpAny_setItem_pairs fp f (λa g b=>c a _ g b) d) (λa b h e j f d c=>e⊂wpAny_setItem_heap i j f (λa g b=>c a _ g b) d) q
def mK(D:Eo Aa s.heap ag a Ae)(Ax:NI Aa s.heap k j)(h:I4 k ag=Y)(d:J ag<=1000000)(i:A.units+1<IJ)(q:∀Ay tk,Eo Aa Ay (Hv ag k) a (Gi (CK ag k) Ae v)->Heap.SameBut a s.heap Ay->Q () {s with heap:=Ay,toks:=tk}):Ba (BK Aa.De Aa.w) A (dictSet a j v) Q E s:=
 mX D Ax h d (λy a l e f d c=>e⊂wpAny_dictSet_pairs fp f (λa g b=>c a _ g b) d) (λa b h e j f d c=>e⊂wpAny_dictSet_heap (ta i) j f (λa g b=>c a _ g b) d) q
def Bl.gP{M:As->Prop}{h:BX}{xs:-T}{f g:-As}{x:T}{o:↥Nat}(y:Bl Aa M h xs Ae f)(r:A9 Aa M h x v g)(B:∀i,o=U i->i<J xs)(u:f.Nodup)(z:g.Nodup)(d:∀a∈g,a∉f):∃p,Bl Aa M h (Gi o xs x) (Gi o Ae v) p/\p.Nodup/\∀a∈p,a∈f\/a∈g:=by
 cases o with
 |none=>calc⟨f++g,by have:=y.cx<|Bl.Cf r;calc this,cv {u,z,λa m b l e=>d b l<|e∣m},λa h=>aN h⟩|some i=>
  calc ak (y.focus<|Dv<|B i rfl) λc F=>?_;calc a4 F.3 λC f2 w=>?_;have q:=F.2^ah (c.f++·) w.1;have t:=cH<|q∣u;have Ey:∀a∈c.f,a∈f:=λa h=>q⊂CL _ h;have Ep:∀a∈f2,a∈f:=λa h=>q⊂BH _ (BH _ h);calc {c.f++(g++f2),w.2.2 (λZ=>.inl) (λZ Z e Z=>e) r,cv {t.1,cv {z,(gk t.2.1),λa m b l e=>d a m<|e⊂Ep b l},λa m b l e=>(aN l).elim (λl=>d b l<|e∣Ey a m) λl=>t.2.2 a m b (BH _ l) e},λa h=>(aN h).elim (λh=>.inl<|Ey a h) λh=>(aN h).elim .inr λh=>.inl<|Ep a h}
end
section
variable{prog:Gu}{w:FH}{A:EI}{E:Aw->AM->Prop}{s:AM}
def wQ{k:Int}{t:Tok}{v:Aw}{Q:Unit->AM->Prop}(a:s.heap.PlainList l items)
  (b:0<=k)(c:k<2^63)(g:k<items.size)
  (d:∀Ay,Ay.PlainList l (items.setIfInBounds k.toNat v)->Heap.SameBut l s.heap Ay->Q () {s with heap:=Ay}):
  Ba (BK prog w) A (Vq (.ref l) (.int k t) v) Q E s:=by
 clear prog w A E s l _ items k t v Q _ a b c g d;have e:=a.isList;calc ak (id a) λo f=>?_;unfold Vq
 try with_reducible refine Lp ?_
 first|calc AL (Bn ?_)|skip
 calc AL<|wpAny_sequenceKey e.typeIs ∅ ?_;refine AL (Wo (name:=Qo "__setitem__") e.typeIs slot_list_setitem
  (MY slot_list_setitem e.typeIs entry_list_setitem ?_<|args_list_setitem _ _ _))
 show Ba _ _ (Builtin.List.listSubscript? (.int k t)>>=_) _ _ s;calc AL<|wpAny_listSubscript_int (fitsIndex_of b c) ?_;clear c;calc ak (Ai0 b) λj i=>?_;subst i;have m:j<items.size:=Nx.mp g;calc AL<|AL<|wpAny_seqItemAt f rfl (Bn ?_);rw[(Wr m)];have h:(s.heap.update l (Obj.mapSeq (·.setIfInBounds j v))).PlainList l (items.setIfInBounds j v):=by exact {_,(SM (Obj.mapSeq (·.setIfInBounds j v)) f rfl)}
 refine AL<|wpAny_setSeqItemAt f rfl ?_
 first
  |calc AL<|Bn<|Bn ⟨.none,rfl,Bn<|d _ h<|Heap.SameBut.update ..⟩
  |calc Bn ⟨.none,rfl,Bn<|d _ h<|Heap.SameBut.update ..⟩
end
section
variable{z:A5}
def RC.mZ(R:AY z s0)(y:RC z s0.heap s1.heap t v b)(Bj:Dk z.Aa z.env (z.V.Ff b))(d:AY (z.aA _ Bj) s1)(S:CJ (z.aA _ Bj) s1 s):A9 z.Aa (z.aA _ Bj).M s.heap t v b:=(y.mL Bj).bg λa o e w=>
 have c:¬z.V.X a:=w.elim (λh x=>R.bb a x<|y.3 a h) λw=>w.elim (λw x=>w<|.inl<|.inl x) λw x=>d.d4 e (.inl x) w
 S.1.2 a o e (λh=>c<|z.V.wx a h) λh=>c<|h⊂z.V.Hg
def wR{i:Int}(b:0<=i)(Ag:i<2^63)(d:i.toNat<J xs)(m:ID z s0 f Bj s CM u c .Bo xs n)(j:AY z s0)(K:Ez z s0 s)(l:f.Nodup)(y:A9 z.Aa (z.aA _ Bj).M s.heap x v f)(p:BL (z.aA _ Bj) hs s.heap (.au i) mk GV)(q:Q .aX (CM<|.Bo Y<|xs.set i.toNat x)):Ec z (Vq u GV v) (λZ a=>Ef z s0 Q .next a) s:=ak p.au λtk e=>by rw[m.3,e];calc wQ m.4 b Ag (by rw[LX,m.5.bo,<-AiN b];calc Nx.mpr d) λAy g C6=>?_;rw[List.setIfInBounds_toArray] at g;calc aE (Bl.gP (o:=U i.toNat) (v:=v) (m.eY (.head _) C6) (m.gN (.head _) C6 y) (λi e=>BQ e∣d) (gk m.9) l λa r h=>m.8 a r<|BH _ h) λB t w A=>m.eU (PC:=.Bo) (ws:=Gi (U i.toNat) n.Ae v) (.head _) C6 (tk:=s.toks) j K g rfl A w t q
def mY(Ag:Mw d=U CB)(f:I4 CB ag=Y)(g:J ag<=1000000)(m:ID z s0 b Bj s CM u c (.Dh ag) xs n)(j:AY z s0)(K:Ez z s0 s)(l:b.Nodup)(y:A9 z.Aa (z.aA _ Bj).M s.heap x v b)(p:BL (z.aA _ Bj) hs s.heap d mk GV)(q:Q .aX (CM<|.ab (.Dh<|Hv ag CB) Y<|Gi (CK ag CB) xs x)):Ec z (Vq u GV v) (λZ a=>Ef z s0 Q .next a) s:=by have D:=m.4;rw[m.3];calc wN D.2 (p.aI Ag) f g (z.bw ∅) λb tk r c=>aE (Bl.gP (o:=CK ag CB) (v:=v) (m.eY (.head _) c) (m.gN (.head _) c y) (λi e=>m.5.bo▸rwr D.2.bj (bK<|gv e)) (gk m.9) l λa t h=>m.8 a t<|BH _ h) λC w A B=>m.eU (PC:=.Dh<|Hv ag CB) (ws:=Gi (CK ag CB) n.Ae v) (.head _) c (tk:=tk) j K {D.1,r} rfl B A w q
inductive YD(a x:T)(R:T->Prop):T->Prop
 |Bo {i:Int} {xs:-T} (Ax:a=.au i) (b:0<=i) (Ag:i<2^63) (c:i.toNat<J xs) (r:R (.Bo Y<|xs.set i.toNat x)):YD a x R (.ab .Bo Y xs)
 |Dh {ag:-BE} {CB:BE} {xs:-T} (Ag:Mw a=U CB) (d:I4 CB ag=Y) (e:J ag<=1000000) (r:R (.ab (.Dh<|Hv ag CB) Y<|Gi (CK ag CB) xs x)):YD a x R (.ab (.Dh ag) Y xs)
def mU(A4:WN value=Ab)(H:BM z value λg i=>∃t',HR Ab g i t'/\∀X Bj,F2 (z.aA X Bj) o λt a=>BM (z.aA X Bj) j λl Z=>YD l t' (λy=>Q .aX<|a y) t):Dj z (Gx<|.Assign [.Subscript o j pos'] value pos) Q:=by
 clear z o j value pos pos' Q _ A4 H;exactλs R=>
  Ai1 (H.aG R λv s1 g i q d y=>ae q λt' k H=>ak (y.gM k d.2 R.bb) λp y=>by
   have Bj:Dk z.Aa z.env (z.V.Ff p):=R.cM y.3;have e:=R.enter d y.3 (A9.bE _ y.1) Bj;calc F2.aG (z:=z.aA _ Bj) (H _ Bj) e λu s2 t CM c H f P=>BM.aG (z:=z.aA _ Bj) H f.2 λGV w l mk q b x=>?_;have A:=f.aH b;have K:Ez z s w:=Cy.aH (R.cg d.1) (AY.cg (z:=z.aA _ Bj) e A.1) (λa h=>.inl h) az λZ h=>.inl h;have B:A9 z.Aa (z.aA _ Bj).M w.heap t' v p:=RC.mZ R y Bj e A;have C:=P.bg f.2 b;cases q with
   |Bo Ax D Ag E r=>calc ID.of R y.3 b.2 C λn m=>wR D Ag E m R K y.2 B (Ax∣x) r|Dh Ag F G r=>calc ID.of R y.3 b.2 C λn m=>mY Ag F G m R K y.2 B x r) (dk A4 _ _ _)
end
section
variable{prog:Gu}{w:FH}{A:EI}{s:AM}{K:Gd}{R:Qv->AM->Prop}{x C:As}
def wW{v:Aw}{AE a:-LS}{n d:Nat}(X:K.In s.heap)
  (I:InstAt s.heap x i C (U<|Wn AE n))(j:i.dict=U f)(l:plainOver K C=Y)(m:takerIn K C name=U Ai)(o:(clsIn K C).any (·.hasDict)=Y)
  (g:(getL name AE).isSome=Y)(e:(putL name (PyData.keyHash w.params name) (.str name s.toks) v AE,putN name AE n)=(a,d))(p:J a<=1000)
  (h:∀Ay,Ay.get? f=U (Wn a d)->Heap.SameBut f s.heap Ay->R (.ok<|.ret .none) {s with heap:=Ay,toks:=s.toks+1}):
  G9 (BK prog w) A (.call (.builtin "object.__setattr__") {[.ref x,.str name tk,v],[]}) R s:=by
 clear prog w A s K R x C f _ i name tk v AE a n d _ X I j l m o g e p h;calc osa_open X I l m λb=>ae (any_some o) λcd A4 y=>?_;calc aC (Prod.mk.inj e) λAW A3=>?_;have q:Obj.putName name (PyData.keyHash w.params name) (.str name s.toks) v (Wn AE n)=Wn a d:=by rw[putName_dict,AW,A3]
 obtain⟨B,r,F,EK⟩:=I;obtain⟨G,H,L,M⟩:=i;dsimp only at r j EK;subst r j;have D:=EK;have t:(s.heap.update f<|Obj.putName name (PyData.keyHash w.params name) (.str name s.toks) v).get? f=U (Wn a d):=by rw[SM _ D (by rw[q];rfl),q]
 calc AL<|Bn<|AL<|AL<|tb B<|AL<|(tc X A4).here ?_;rw[y];calc Bn<|AL<|Bn<|AL ?_;calc AL<|AL<|wpAny_askSetting<|Bn<|AL<|wpAny_mkText<|AL<|tb D ?_;have c:(!AE.toArray.any (·.key.isStr name)&&AE.toArray.any (·.refKey))=Ab:=by
  rw[<-Ai2,<-Ai2];unfold getL at g
  split at g
  ·rename_i E u;rw[Ai3.mpr {E,List.mem_of_find?_eq_some u,List.find?_some u}];rfl
  ·split at g
   ·delta g
   ·rename_i z;rw[km] at z;rw[z,Pk]
 show Ba _ _ (if aRefKeyMayBeTheName name AE.toArray=Y then _ else _) _ _ _;rw[aRefKeyMayBeTheName_at,c];calc wpAny_updatePart D ?_;calc AL<|wpAny_lookBehind t (pastItsLine_dict (by rw[LX,Qt];calc p\∅)) ?_;calc Bn<|h _ t<|Heap.SameBut.update ..
end
def PD(as:-Nat)(n:Nat):-Nat:=(F1 as n).elim (as++[n]) λZ=>as
def mV:∀{as:-Nat},F1 as n=Ai↔n∉as
 |[]=>{λZ=>c3,λZ=>rfl}
 |a::as=>by
  rw[hZ];by_cases q:n=a;·rw[ao q];exact {nofun,λh=>ar (q∣.head _) h}
  ·rw[ai q,AiO];calc mV.trans {λh m=>(aK m).elim q h,λh m=>h<|.tail _ m}
def wX(h:as.Nodup):(PD as n).Nodup:=by
 unfold PD;cases e:F1 as n with
 |none=>calc cv {h,ZT ..,λa c b d f=>mV.mp e<|aF d▸rwl f c}|some i=>calc h
def mJ:∀{as:-Nat},F1 as n=U i->i<(J as)
 |a::as,h=>by
  rw[hZ] at h;by_cases q:n=a;·rw[ao q] at h;exact BQ h∣F0 _
  ·rw[ai q] at h;calc ae (bD h) λj a b=>b∣Wx (mJ a)
def mO(as:-Nat):∀{AE:-LS},QF as AE->J AE=J as:=by
 cases as with
 |nil=>calcλ{a} y=>ah J y|cons k as a=>calcλ{b} y=>a6 y λe b Z Z y=>ah J b^ah (·+1) (a y)
def wK(as:-Nat):∀{AE:-LS},QF as AE->AE.any (·.refKey)=Ab:=by
 cases as with
 |nil=>calcλ{a} y=>y⊂rfl|cons k as a=>exactλ{b} y=>a6 y λe b c Z y=>ak c λd c=>by rw[b,List.any_cons,a y,Bool.or_false];unfold DictEntry.refKey;rw[c]
section
variable{v:Aw}
def Ad4(n:Nat)(as:-Nat)(AE a:-LS)(v:Aw):Prop:=Dy
 (QF (PD as n) a)
 (a.map (·.val)=Gi (F1 as n) (AE.map (·.val)) v)
 (J a<=J as+1)
def wZ(f:n<17)(as:-Nat):∀{AE:-LS},QF as AE->Ad4 n as AE (putL (En n) KC (.str (En n) tk) v AE) v:=by
 cases as with
 |nil=>
  intro AE y;rw[show AE=[] from y];calc {{(_,[]),rfl,{tk,rfl},f,rfl},rfl,CE _}
 |cons c as l=>
  calcλ{AE} g=>a6 g λe AW Ax d y=>?_;clear g;have w:=l y;have h:F1 (c::as) n=if n=c then U 0 else(F1 as n).map (·+1):=rfl;have j:putL (En n) KC (.str (En n) tk) v (e.1::e.2)=if e.1.key.isStr (En n)=Y then {e.1 with val:=v}::e.2 else e.1::putL (En n) KC (.str (En n) tk) v e.2:=rfl;have CB:e.1.key.isStr (En n)=Y↔n=c:=ak Ax λo a=>by rw[a];exact {λz=>k9 _ _ f d (eq_of_beq z).symm,λz=>z∣beq_self_eq_true (En n)}
  subst AW;by_cases q:n=c;·have a:=h^ao q;have m:=j^ao (CB.mpr q);rw[m];exact {by unfold PD;rw[a];exact {({e.1 with val:=v},e.2),rfl,Ax,d,y},by rw[a];rfl,Ml (Di (ah (·+1)<|mO as y))}
  ·have a:=h^ai q;rw[(j^ai λz=>q<|CB.mp z)];refine {?_,?_,GX w.3}
   ·have w:=w.1;unfold PD at w⊢;rw[a];cases b:F1 as n with
    |none=>rw[b] at w;calc {(e.1,putL (En n) KC (.str (En n) tk) v e.2),rfl,Ax,d,w}|some i=>rw[b] at w;exact {(e.1,putL (En n) KC (.str (En n) tk) v e.2),rfl,Ax,d,w}
   ·have w:=w.2;unfold Gi at w⊢;rw[a];cases b:F1 as n with
    |none=>rw[b] at w;calc ah (e.1.val::·) w|some i=>rw[b] at w;calc ah (e.1.val::·) w
def wY(name:Str)(y:QF as AE):(getL name AE).isSome=Y:=by unfold getL;rw[wK as y];cases AE.find? λe=>e.key.isStr name<;>rfl
end
def wU(l:Nat)(env:Env):swapsWith value (U<|.Attribute o x p) l env=pure Ab:=by cases value<;>rfl
section
variable{z:A5}{o value:A2}{pos b:Pos}{n:Nat}
def Ad5(n:Nat)(x:T)(R:T->Prop)(t:T):Prop:=∃c as xs,t=.ab (.DM c as) Y xs/\(HM c n=Y/\J as<=100)/\R (.ab (.DM c<|PD as n) Y<|Gi (F1 as n) xs x)
def wV(ok:DY z.Aa)(H:BM z value λC D=>∃t',HR Ab C D t'/\∀X Bj,F2 (z.aA X Bj) o λt a=>Ad5 n t' (λy=>Q .aX<|a y) t):Dj z (Gx<|.Assign [.Attribute o (En n) b] value pos) Q:=by
 clear z o value pos b n Q _ ok H;exactλs R=>
  Ai4 (H.aG R λv s1 C D q l y=>ae q λt' k H=>ak (y.gM k l.2 R.bb) λE y=>by
   have Bj:Dk z.Aa z.env (z.V.Ff E):=R.cM y.3;have p:=R.enter l y.3 (A9.bE _ y.1) Bj;calc F2.aG (z:=z.aA _ Bj) (H _ Bj) p λu s2 t CM c q j P=>dV q λg as xs S x r=>?_;have K:Ez z s s2:=Cy.aH (R.cg l.1) (AY.cg (z:=z.aA _ Bj) p j.1) (λa h=>.inl h) az λZ h=>.inl h;have W:A9 z.Aa (z.aA _ Bj).M s2.heap t' v E:=RC.mZ R y Bj p j;calc ID.of (Cr:=.DM g as) R y.3 j.2 (S∣P) λf m=>bI m.4 λBI F G I=>?_;have cl:=ok.6 g BI I.1;have L:z.Aa.K.In s2.heap:=ok.1.keeps j.2.1;have A:=wZ (KC:=PyData.keyHash z.Aa.w.params<|En n) (tk:=s2.toks+1) (v:=v) (lb x.1) as I.5;have N:=cH m.9;have B:f.d∈(DR.DM g as).Gf f:=.tail _<|.head _;have wJ:f.a≠f.d:=λe=>(tO N.1)<|e∣.head _;rw[m.3];calc set_plain (s:=s2) L ({I.2,rfl,rfl,I.3}:InstAt s2.heap f.a (instObj BI f.d) BI (U<|Wn F.toList G)) cl.3<|wW (s:={s2 with toks:=s2.toks+1}) (AE:=F.toList) (n:=G) L {I.2,rfl,rfl,I.3} rfl cl.4 (by unfold takerIn;rw[ok.7 g BI n I.1 x.1];rfl) cl.2 (wY _ I.5) rfl (A.3\(GX x.2\∅)) λAy wO C6=>?_;have C6:Heap.SameBut f.d s2.heap Ay:=C6;calc aE (Bl.gP (o:=F1 as n) (v:=v) (m.eY B C6) (m.gN B C6 W) (λi e=>m.5.bo∣(by rw[I.4,Bq,mO as I.5];calc mJ e)) N.2.1 y.2 λa b h=>m.8 a b<|BH _ h) λa b c d=>ID.eU (s:=s2) m (PC:=.DM g<|PD as n) (ws:=Gi (F1 as n) f.Ae v) B C6 (tk:=s2.toks+1+1) R K {BI,_,_,I.1,C6.extBut _ _ wJ I.2,wO,by rw[I.4];calc A.2.symm,A.1,wX I.6,I.7} rfl d c b r) (wU _ _)
end
def T.Dg:T->T
 |.ab k Y xs=>if k.S1=Y then .ab k Y xs else .ab k Y (Fp xs)|t=>t
def WO(GY:T->T):Prop:=∀(Aa:C0) (M:As->Prop) (h:BX) t v g,A9 Aa M h t v g->g.Nodup->∃b,b.Sublist g/\∀Df:As->Prop,(∀a,Df a->M a/\(a∈g->a∈b))->A9 Aa Df h (GY t) v b
def w0:WO T.D5:=λc M h t v g y d=>{[],ZO g,λc b=>A9.CT (λa h=>.inl (b a h).1) t (λa h w=>aS<|(b a w).2 h) y}
def m1:WO T.Dg:=λj M h t v g y ab=>by
 have same:∃b,b.Sublist g/\∀Df:As->Prop,(∀a,Df a->M a/\(a∈g->a∈b))->A9 j Df h t v b:={g,.refl _,λb d=>y.cy λa h=>.inl (d a h).1}
 cases (t)with
 |ab k o xs=>
  cases o with
  |false=>calc same|true=>
   show∃b,b.Sublist g/\∀Df:As->Prop,(∀a,Df a->M a/\(a∈g->a∈b))->A9 j Df h (if k.S1=Y then .ab k Y xs else .ab k Y (Fp xs)) v b;by_cases c:k.S1=Y;·rw[ao c];exact same
   ·rw[ai c];exact a6 y λn e a y b=>have i:=cH (b∣ab)
     {k.Gf n,b⊂AiH _ _,λc d=>{{n with f:=[]},e,k.fh.mp a,y.CT (λa h=>.inl (d a h).1) λa h w=>i.2.2 a ((d a w).2<|b⊂BH _ h) a h rfl,(Ct _).symm^ah (·++[]) k.gp}}
 |_=>calc same
section
variable{z:A5}{s:AM}{i:Nat}{t:T}{Q:Fz->B5->Prop}{run:Env->Sem Flow}
def Ad6(z:A5)(h:BX)(i:Nat)(t:T)(v:Aw)(c:Tp):Prop:=S0
 (z.Ae[i]?=U v)
 (z.AO=c.f1++(c.g++c.f2))
 (A9 z.Aa z.M h t v c.g)
 (∀{Df:As->Prop} {L0 YE M7},(∀a,Df a->z.M a)->A9 z.Aa Df h L0 YE M7->Bl z.Aa Df h (Fq<|z.Am.set i<|U L0) (z.Ae.set i YE) (c.f1++(M7++c.f2))/\(L0=.none->Bl z.Aa Df h (Fq<|z.Am.set i Ai) (z.Ae.set i YE) (c.f1++(M7++c.f2))))
 (∀a∈c.f1,a∉c.g)
 (∀a∈c.f2,a∉c.g)
 (c.g.Nodup)
 (∀b,b.Sublist c.g->(c.f1++(b++c.f2)).Nodup)
def AY.m2(R:AY z s)(d:HP z.Am i=U t):∃v c,Ad6 z s.heap i t v c:=by
 clear z s i t _ R d;exact ak (R.6.focus<|fm<|cz d) λc F=>a8 F.3 λg d p u j=>by have b:=F.2^ah (c.f++·) p;have l:=cH<|b∣R.5;have m:=cH l.2.1;calc {c.v,{c.f,g,d},F.1,b,u,λo r=>{(show Fq (z.Am.set i _)=_ from XO).symm∣j (λa h=>.inl<|o a h) (λZ Z e Z=>e) r,λe=>(show Fq (z.Am.set i Ai)=_ from XO).symm∣j (λa h=>.inl<|o a h) (λZ Z e Z=>e) (e▸r)},λa h q=>l.2.2 a h a (CL _ q) rfl,λa h q=>m.2.2 a q a h rfl,m.1,λx w=>(b▸R.5).sublist<|List.Sublist.append_left (w.append_right d) c.f}
def AY.m3(f:WO GY)(R:AY z s)(e:HP z.Am i=U t):∃l,(∀a∈l,a∈z.AO)/\AY (z.ax (z.Am.set i<|U<|GY t) (z.Ae,l)) s:=by
 clear z s i t GY _ f R e;exact a4 (R.m2 e) λv c L=>ae (f z.Aa z.M s.heap t v c.g L.3 L.7) λb o y=>by
  have mem:∀a∈c.f1++(b++c.f2),a∈z.AO:=λa h=>L.2▸(aN h).elim (CL _) λh=>BH _<|(aN h).elim (λh=>CL _<|o.subset h)<|BH _;have A:∀a∈c.g,a∈z.AO:=λa h=>L.2⊂fz h;have p:=(L.4 (Df:=λa=>z.V.X a\/a∈c.f1++(b++c.f2)) (λa h=>h.imp_right<|mem a)<|y _ λa h=>{h.imp_right<|mem a,λq=>h.elim (λx=>ar x (R.4 a<|A a q).2) λh=>(aN h).elim (λh=>ar q<|L.5 a h) λh=>(aN h).elim id λh=>ar q<|L.6 a h}).1;rw[fi L.1] at p;calc⟨c.f1++(b++c.f2),mem,R.1,R.2,R.3,λa h=>R.4 a<|mem a h,L.8 b o,p,ae R.7 λm B w=>⟨m,B,λj x u r C=>by
   by_cases d:i=j;·exact w j x t r<|d∣cz e
   ·calc w j x u r<|(SN d).symm.trans C⟩,R.8⟩
def w1(b:WO GY)(c:HP z.Am i=U t)(H:∀w,Dj (z.ax (z.Am.set i<|U<|GY t) w) run Q):Dj z run Q:=λs R=>ae (R.m3 b c) λd b e=>CW (H (z.Ae,d) s e) (λc d p=>Ef.aH (Ez.bk R) (λa h=>.inl<|b a h) p) bu
def w2(b:WO GY)(H:Dj z run λc a=>∃t,HP a i=U t/\Q c (a.set i<|U<|GY t)):Dj z run Q:=λs R=>H.aG R λf i c j q h o=>ae h λt d h=>ae (AY.m3 b o.1 d) λe b g=>{c,_,(q.1,e),h,g,λa h=>o.2 a<|b a h,o.3,o.4}
def w3{x:Str}(f:Lw z.V.C i x)(r:z.V.C.Aq[j]?=U (U y))(A:(y==("__debug__":Str))=Ab)(B:(y==("__classdict__":Str))=Ab)(o:HP z.Am j=U t)(q:Q .aX ((z.Am.set j Ai).set i<|U t)):Dj z (Gx<|.Assign [.Name x pos'] (.Name y p) pos) Q:=by
 clear z i t Q j x y p pos' pos _ f r A B o q;exactλs R=>
  Vi (Wj (eP R r (cz o) B λv i=>a4 (R.m2 o) λW c L=>by
   have b:∀a∈c.g,a∈z.AO:=λa h=>L.2▸fz h;have mem:∀a∈c.f1++([]++c.f2),a∈z.AO/\a∉c.g:=λa h=>(aN h).elim (λh=>{L.2▸CL _ h,L.5 a h}) λh=>{L.2▸BH _ (BH _ h),L.6 a h}
   have Bj:Dk z.Aa z.env (z.V.Ff c.g):={λa h=>.inl<|DS.b4 z a h,λa h=>h.elim (z.V.Ht a) λh=>(R.4 a<|b a h).1,λa h=>.inl<|z.V.wx a h}
   have D:∀a,(z.V.Ff c.g a\/a∈c.f1++([]++c.f2))->z.M a:=λa h=>h.elim (·.imp_right (b a)) λh=>.inr (mem a h).1;have E:=(L.4 (Df:=λa=>z.V.Ff c.g a\/a∈c.f1++([]++c.f2)) D (L0:=.none) (YE:=.none) (M7:=[]) {rfl,rfl}).2 rfl;have F:AY ((z.aA _ Bj).ax (z.Am.set j Ai) (z.Ae.set j .none,c.f1++([]++c.f2))) s:=⟨R.1,λa h=>h.elim (R.2 a) λh=>R.bE a<|b a h,R.3,λa h=>{(R.4 a (mem a h).1).1,λq=>q.elim (R.4 a (mem a h).1).2 (mem a h).2},L.8 []<|ZO _,E,ae R.7 λm G w=>⟨m,G,λl x u f e=>by
    have e:(z.Am.set j Ai)[l]?=U (U u):=e;by_cases d:j=l;·rw[d,ke<|d▸(bK<|cz o)] at e;cases e
    ·calc ae (w l x u f<|(SN d).symm^e) λv H I=>{v,SN d^H,I}⟩,R.8⟩
   calc ft (z:=(z.aA _ Bj).ax (z.Am.set j Ai) (z.Ae.set j .none,c.f1++([]++c.f2))) F {(Dk.bS z).1,z.V.Ht,z.V.wx} (λZ=>.inl) f (λa h=>{.inr h,(R.4 a<|b a h).2}) L.7 ((BQ<|L.1.symm^i)▸L.3.cy λa h=>.inl<|D a h) λc w P S N=>{_,_,w,q,P,λa h=>.inl<|(S.1 a h).elim (λh=>(mem a h).1)<|b a,Ez.hJ R N.1,rfl}) A) (dk rfl _ _ _)
end
def RP(b:Bool)(xs:-α):-α:=if b=Y then xs.reverse else xs
def YF(C:Ea)(a7:Bool)(a:-A2)(n:Nat)(b:Pos)(value:A2)(xs:-(Nat×Str)):Prop:=∀env:Env,env.scope=C.BN->swappedStores [.Tuple a n b] value env=pure (if a7=Y then U (xs.map (·.2)) else Ai)
def m4:∀xs:-(Nat×Str),Kp M A E env xs ((xs.map (·.2)).map λn=>bindName env n)
 |[]=>rfl|e::xs=>{(_,_),rfl,λv Q s q=>wpAny_bindName q,m4 xs}
section
variable{z:A5}{s s1:AM}{t:T}{v:Aw}{b:Bool}{Av:-T}{xs:-(Nat×Str)}{Q:Fz->B5->Prop}
def Bl.a7:∀{Av:-T} {Ae:-Aw} {f:-As},Bl Aa M h Av Ae f->∃a,a.Perm f/\Bl Aa M h Av.reverse Ae.reverse a
 |[],_,f,y=>{[],y.2⊂.nil,y.1⊂{rfl,rfl}}
 |t::Av,_,f,⟨c,y⟩=>ae y.2.2.a7 λa p q=>⟨a++c.f,y.1.2⊂List.perm_append_comm.trans (p.append_left c.f),by
  rw[y.1.1];rw[kn (as:=c.Ae),kn (as:=Av)];calc q.cx<|Bl.Cf y.2.1⟩
def Ad7(z:A5)(s s1:AM)(A:EI)(E:Aw->AM->Prop)(xs:-(Nat×Str))(Av:-T)(b:Bool)(v:Aw)(n:Iy):Prop:=He
 (v=.ref n.a)
 (HH s1.heap n.a n.Ae.toArray)
 (J n.Ae=J Av)
 (∀(a7:Bool) (Q:Fz->B5->Prop) (P:Unit->AM->Prop) {Ay:BX} {DB:-(Aw->Sem Unit)},Q .aX (Ko (I6 b z.Am) (RP a7 xs)<|RP a7 Av)->Heap.ExtBut s1.heap.objs.size s1.heap Ay->Kp (Dw z) A E z.env (RP a7 xs) DB->(∀s',Ef z s Q .next s'->P () s')->Ba (Dw z) A (assignInOrder DB<|RP a7 n.Ae) P E {s1 with heap:=Ay})
def m5(R:AY z s)(S:CJ z s s1)(y:BL z s.heap s1.heap t AJ v)(k:HR b t AJ (.ab .aT o Av))(l:J xs=J Av)(m:∀e∈xs,Lw z.V.C e.1 e.2):∃n,Ad7 z s s1 A E xs Av b v n:=by
 clear z s s1 t v o _ b Av xs A E _ AJ R S y k l m;exact ae y λf y r=>ae (A9.cL (r.av S.2 R.bb) k y r) λg Z y=>a6 y.1 λn AW D d cN=>by
  have F:n.f=g:=by
   cases o with
   |true=>calc(show g=n.f from cN).symm|false=>exact cN.1.symm
  rw[F] at d;calc {n,AW,D,d.bo,λa7 Q P {Ay DB} q u G p=>?_};have up:∀a o,s1.heap.get? a=U o->Ay.get? a=U o:=λa o e=>u a o (EX<|Gv e) e;have B:CJ (z.cL b) s {s1 with heap:=Ay}:=CJ.aH (z:=z.cL b) {S.1,S.2.I6 b}<|(S.2.I6 b).bp<|.b5 up;have d:∃c,(∀a,a∈c↔a∈g)/\c.Nodup/\Bl z.Aa (λa=>(z.cL b).M a\/a∈g) s1.heap (RP a7 Av) (RP a7 n.Ae) c:=by
   cases a7 with
   |false=>calc {g,λZ=>Wg,y.2,d}|true=>exact ae d.a7 λc i j=>{c,λZ=>i.mem_iff,i.nodup_iff.mpr y.2,j}
  calc aE d λc i ab j=>?_;have new:∀a∈c,s.heap.get? a=Ai:=λa h=>y.3 a<|(i a).mp h;have Bj:Dk z.Aa z.env (z.V.Ff c):=R.cM new;have H:=(R.I6 b).enter (z:=z.cL b) B new (λa h=>CF.at (j.bE a h)<|up a) Bj;calc lH (z:=z.cL b) _ Bj H (by induction a7;calc l;calc X1^l.trans X1.symm) (j.a9 (λa h=>.inl (h.elim (·.elim (λh=>.inl<|.inl h) λh=>.inr<|(i a).mp h) λh=>.inl<|.inr h)) λa o e Z=>up a o e) ab (λa h x=>R.bb a x<|new a h) (λe h=>m e (by induction a7;calc h;calc List.mem_reverse.mp h)) G λs' w W=>p s' {_,_,w,q,W.1,λa h=>(W.2 a h).elim (λh=>by induction b;calc .inl h;calc aS h) λh=>.inr<|new a h,?_,rfl};calc W.4 (λa=>Ez z s a) (R.cg B.1) λI L e v u K N=>Cy.aH K N.1.1 (λa h=>.inl<|.inr<|.inl h) az λZ Z=>.inr CR
def m6{d:-A2}{value:A2}(A4:WN value=Ab)(h:WS d xs)(i:YF z.V.C a7 d n j value xs)(f:∀e∈xs,Lw z.V.C e.1 e.2)(H:BM z value λt a=>∃b o Av,HR b t a (.ab .aT o Av)/\J xs=J Av/\Q .aX (Ko (I6 b z.Am) (RP a7 xs)<|RP a7 Av)):Dj z (Gx<|.Assign [.Tuple d n j] value pos) Q:=by
 clear z xs Q a7 d n j pos value _ A4 h i f H;exactλs R=>by
  have a:=lL (M:=Dw z) (A:=z.V.A) (E:=λZ Z=>False) (env:=z.env) h;have l:=i z.env z.V.BN;cases a7 with
  |false=>
   calc Assign_Tuple (H.aG R λv d t e q S y=>dV q λb o d k c q=>ak (m5 (A:=z.V.A) (E:=λZ Z=>False) R S y k c f) λm W=>by rw[W.1];calc sR z.V.Eb.1 W.2 (by rw[a.1,LX,W.3,c]) a.2 λb g=>W.4 Ab Q _ q g a.3 λa P=>P) (by unfold td;calc dk A4 _ _ _) l
  |true=>
   calc Assign_Tuple_swapped (H.aG R λv a t d q S y=>dV q λb o a k c q=>ak (m5 (A:=z.V.A) (E:=λZ Z=>False) R S y k c f) λm W=>by rw[W.1,Bq,show(J xs)=m.Ae.toArray.size by rw[LX,W.3,c]];have st:=m4 (M:=Dw z) (A:=z.V.A) (E:=λZ Z=>False) (env:=z.env) xs.reverse;rw[Ai5] at st;calc unpackItems_tuple z.V.Eb.1 W.2 λa g=>W.4 Y Q _ q g st λa P=>P) (by unfold td;calc dk A4 _ _ _) l
end
def KD:-T->↥↑Str
 |[]=>U []|t::Av=>t.VJ.bind λx=>(KD Av).map (x::·)
def w4{t:T}(h:t.VJ=U x):t=.aZ x:=by cases t<;>first|delta h;rfl|delta h
section
variable{z:A5}{o a d:A2}{g pos:Pos}
def ig{h:BX}:Eo Aa (h.push {cls:=.type "dict",data:=.dict #[]}) [] h.objs.size []:=.inl {[],{{_,#[],0,Fn _ rfl,{rfl,rfl,rfl},rfl,λe b=>ar b<|Ai6 e,.nil,.nil},rfl,rfl,λp c=>ar c CR}}
def ih(ok:DY z.Aa)(R:AY z s):(s.heap.objs.size==MZ)=Ab:=ak ok.3 λo b=>beq_eq_false_iff_ne.mpr λe=>EX (Gv<|R.1 _ _ b) e.symm
def w5(ok:DY z.Aa)(q:Q (.ab (.Dh []) Y []) .AU):BM z (.Dict [] [] pos) Q:=λs R=>
 wpAny_Dict_empty {_,_,q,R.bp<|.b5 λZ Z e=>D9 _ e,[s.heap.objs.size],{{s.heap.objs.size,0,[],[]},rfl,{ih ok R,ig},{rfl,rfl},rfl},ZT ..,λb c=>aF c⊂bU _}
def ij(w:My o=Y)(A:(g.endLine==pos.line)=Y)(Ag:HQ a=Ab)(B:HQ d=Ab)(H:BM z o λt m=>∃ag C xs,t=.ab (.Dh ag) C xs/\BM z a λE Z=>∃CB,(Mw E=U CB/\I4 CB ag=Y)/\BM z d λa f=>(Mx ag xs CB).elim (Q a f) λx=>Q x m):BM z (.Call (.Attribute o "get" g) [a,d] [] pos) Q:=by
 clear z o a d g pos Q _ w A Ag B H;exactλs R=>
  Call_method2 (dS w _ _ _) (by rw[cf Ag,cf B];rfl) A (H.aG R λv1 s1 t m q b G=>cB q λag C xs X H=>by
   subst X;calc a6 G.Dg λAke I w6 Z Z=>ae (Eo.cC<|Rk w6) λL M N=>?_;rw[I];calc {"dict","dict.get",PySem.F.plainAttrs_dict,PySem.F.slot_dict_get,PySem.F.type_dict_get,{L,M,N.1},λc a=>by delta a;calc {L,M,N.2.1},?_};calc method2_meetsIn PySem.F.slot_dict_get PySem.F.entry_dict_get<|H.aG b.2 λv2 s2 E Z q h QL=>ae q λCB Ax H=>H.aG h.2 λl p DN f q r P=>?_;have S:=h.aH r;calc a6 (G.bg b.2 S.1 R.bb).Dg λn e D y Z=>?_;rw[(Ai7<|I.symm^e)];refine ae (Eo.cC D.2) λKs w7 RQ=>{{Ks,w7,RQ.1},PySem.F.args_dict_get_3 _ _ _,uU D.1 D.2 (BL.aI (QL.bg h.2 r.1 b.2.bb) Ax.1) Ax.2 (z.bw ∅) λtk=>?_}
   have Br:CJ z s {p with toks:=tk}:=(b.aH S).aH<|r.2.bp .cb;unfold Mx at q;cases W:CK ag CB with
   |none=>rw[W] at q;calc {_,_,q,Br,P.fj<|R.bq (b.aH h).1}|some i=>
    rw[W] at q;cases An:xs[i]?with
    |none=>
     have j:(xs[i]?).elim (Q DN f) (λx=>Q x m):=q;rw[An] at j;calc {_,_,j,Br,Eq.subst (motive:=BL z s.heap p.heap DN f) (show l=(n.Ae[i]?).getD l by rw[(Ws<|y.bo⊂List.getElem?_eq_none_iff.mp An)];rfl) (P.fj<|R.bq (b.aH h).1)}
    |some x=>
     have j:(xs[i]?).elim (Q DN f) (λx=>Q x m):=q;rw[An] at j;calc ae (y.dw An) λu a b=>{_,_,j,Br,Eq.subst (motive:=BL z s.heap p.heap x m) (show u=(n.Ae[i]?).getD l by rw[a];rfl) b})
def m7:∀{xs:-T} {Bm:-Str} {Ae:-Aw} {AO:-As},KD xs=U Bm->Bl Aa M h xs Ae AO->StrsAre Ae Bm
 |[],Bm,Ae,AO,e,y=>BQ e▸rwr y.1 .nil|t::Av,Bm,Ae,AO,e,⟨c,y⟩=>ae (dh e) λx a e=>ae (bD e) λi d e=>ak ((rwl (w4 a) y.2.1:A9 Aa M h (.aZ x) c.v c.f).1.1) λa b=>by rw[<-e,y.1.1,b];calc .cons x a<|m7 d y.2.2
def m8(k:Str){Ae:-Aw}{ns:-Str}(h:StrsAre Ae ns):∀(j:Nat) (Ag:j<J Ae) (b:j<J ns),isStrOf k Ae[j]=(ns[j]==k):=by
 cases h with
 |nil=>calcλZ h=>ar h<|I2 _|cons n t r c=>
  intro j;cases j using Nat.casesOn with
  |zero=>calcλZ Z=>rfl|succ j=>calcλa b=>c j (MU a)<|MU b
def w8(p:My o=Y)(r:(g.endLine==pos.line)=Y)(Ag:HQ a=Ab)(H:BM z o λt Z=>∃u xs Bm,t=.ab .Bo u xs/\KD xs=U Bm/\BM z a λa Z=>∃x,a=.aZ x/\(J Bm<=1000000/\x∈Bm)/\Q (.au (Bm.idxOf x:Nat)) .AU):BM z (.Call (.Attribute o "index" g) [a] [] pos) Q:=by
 clear z o a g pos Q _ p r Ag H;exactλs R=>
  s9 (dS p _ _ _) (by rw[cf Ag];rfl) r (H.aG R λv1 s1 t m q j w=>dV q λu xs Bm D E H=>by subst D;calc a6 w.Dg λS A h Z Z=>?_;rw[A];have h:=h;calc {"list","list.index",PySem.F.plainAttrs_list,PySem.F.slot_list_index,PySem.F.type_list_index,(Heap.PlainList.isList h).typeIs,λc a=>by delta a;calc ak h λn e=>{_,e,rfl},?_};calc PySem.P.index_list<|H.aG j.2 λv2 s2 FN Z q l G=>aE q λx d B q=>a6 (w.bg j.2 l.1 R.bb).Dg λn e I y Z=>?_;rw[(Ai7<|A.symm^e)];calc ak (BL.aZ<|d∣G).1 λtk L=>ae y λf y Z=>?_;have i:=m7 E y;have b:=List.idxOf_lt_length_iff.mpr B.2;calc ak I λc M=>?_;rw[L];calc {n.Ae.toArray,c,isStrOf x,Bm.idxOf x,by rw[LX,i.length];exact b,M,λy N=>eq_isStrOf x tk i y<|AiM.mpr N,ZX (Qw.mpr<|BY b\B.1) ∅,by rw[Ai8,m8 x i _ _ b];exact beq_iff_eq.mpr<|List.getElem_idxOf b,λm W C=>by rw[Ai8,m8 x i m _<|DQ C b];calc List.not_of_lt_findIdx C,_,_,q,(j.aH l).aH<|l.2.bp .cb,BL.d1})
end
section
variable{env:Env}
def ik
  (d:attributeBase o name env (D4 o env)=D4 o env)
  (e:((SG pos<|Qr args env).all (λx=>!x.1)&&(backToKw pos<|te [] env).all (λx=>x.1.isSome)&&decide (J args+([]:-Vr).length+(if([]:-Vr).isEmpty then 0 else 1)<30))=Y)
  (g:(apos.endLine==pos.line)=Y)
  (h:Ba (BK prog w) A (D4 o env) (λa b=>∀pl:Sem Bool,Ba (BK prog w) A (getMethod a name pl) (λf c=>Ba (BK prog w) A (callWith pos f.1 f.2 (SG pos<|Qr args env) []) Q E c) E b) E s):
  Ba (BK prog w) A (D4 (.Call (.Attribute o name apos) args [] pos) env) Q E s:=by
 rw[arm_eval_Call,d];calc AL<|CW h (λa b i=>?_) bu;calc AL<|Rj ?_;have j:methodCallForm (J args+([]:-Vr).length) (SG pos<|Qr args env) (backToKw pos<|te [] env)=Y:=e;have l:methodCallPos Y o env apos pos=pure pos:=by unfold methodCallPos;rw[g];rfl
 unfold methodCall;rw[j];calc AL<|Lp<|CW (i _) (λf c m=>AL<|Ph l m) bu
end
def KG(Aa:C0)(c:Nat)(name:Str)(f:As):Prop:=Dy
 (∀C,ND c=U C->H4 Aa.K (.ref C) name=U (U<|.ref f))
 (isFn Aa.K (.ref f)=Y)
 (Pe Aa.K (.ref f)=Y)
def Tr(name:Str)(as:-Nat):Bool:=as.all λk=>En k !=name
def m9:∀{as:-Nat} {AE:-LS},QF as AE->Tr name as=Y->getL name AE=U Ai
 |[],_,y=>λZ=>(show _=[] from y)⊂rfl|k::as,_,⟨e,y⟩=>λh=>by
  have h:=bQ<|show((En k !=name)&&Tr name as)=Y from h;have a:=m9 y.2.2.2 h.2;calc ak y.2.1 λtk Ax=>?_;have z:¬e.1.key.isStr name=Y:=by rw[Ax];exactλq=>bne_iff_ne.mp h.1<|eq_of_beq q
  have b:e.1.refKey=Ab:=by unfold DictEntry.refKey;rw[Ax]
  rw[y.1];unfold getL at a⊢;rw[j1 (p:=λx:LS=>x.key.isStr name) z,List.any_cons,b,Bool.false_or];calc a
def nc(Ag:I5 AE=Y)(a:J AE<29):((SG pos<|Qr AE env).all (λx=>!x.1)&&(backToKw pos<|te [] env).all (λx=>x.1.isSome)&&decide (J AE+([]:-Vr).length+(if([]:-Vr).isEmpty then 0 else 1)<30))=Y:=
 bc {bc {Rl.mpr λx b=>(EJ _).mpr<|km _∣List.any_eq_false.mp (eW Ag) x b,rfl},aJ<|I1 a}
section
variable{z:A5}{o:A2}{AE:-A2}{b pos:Pos}{c:Nat}{name:Str}{bt:As}
def BL.w9(R:AY z s)(d:H9 z hs)(y:BL z hs s.heap t AJ v):A9 z.Aa z.V.X s.heap t.D5 v []:=ae y λf y e=>A9.CT (λa h=>.inl<|AJ.A6 a h) t (e.av R d) y
def nd(ok:DY z.Aa)(H:KG z.Aa c name bt)(R:AY z s)(f:Tr name as=Y)(y:A9 z.Aa M s.heap (.ab (.DM c as) h xs) v AO)(q:P (.ref bt,[v]) s):Ba (Dw z) z.V.A (getMethod v name pl) P E s:=
 a6 y λn e a Z Z=>bI a λb g m I=>ak R.cc λi F=>by rw[e];calc method_inst F ok.1 ({I.2,rfl,rfl,I.3}:InstAt s.heap n.a (instObj b n.d) b (U<|Wn g.toList m)) (ok.6 c b I.1).1 (H.1 b I.1) H.2 (m9 I.5 f)<|e∣q
inductive Ts(z:A5)(Q:-T->Prop):-A2->Prop
 |nil (q:Q []):Ts z Q []
 |cons {e:A2} {AE:-A2} (h:HN z (e::AE) Y Q):Ts z Q (e::AE)
def xa(ok:DY z.Aa)(H:KG z.Aa c name bt)(h:My o=Y)(i:(b.endLine==pos.line)=Y)(d:I5 AE=Y)(j:J AE<29)(l:BM z o λt Z=>∃as m xs,t=.ab (.DM c as) m xs/\Tr name as=Y/\Ts z (λa=>Ia z.Aa z.V.k (.ref bt) (t.D5::a)<|Gh Q) AE):BM z (.Call (.Attribute o name b) AE [] pos) Q:=by
 clear z o AE b pos c name bt Q _ ok H h i d j l;exactλs R=>
  ik (dS h _ _ _) (nc d j) i (l.aG R λb c t h q e p i=>dV q λh m i r u G=>ae p λf y x=>nd ok H e.2 u (r∣y) (by
   have aR:∀{Ae:-Aw} {s2:AM} {Av:-T},Ia z.Aa z.V.k (.ref bt) (t.D5::Av) (Gh Q)->CJ z c s2->Dc z c.heap s2.heap Av .aM Ae->Ec z (Iq (.ref bt)<|[b]++Ae) (LU z s Q) s2:=λ{b c d} q a g=>
    ae g λd g f=>CW (q z c _ rfl rfl a.2 {{_,b,[],[]},{rfl,rfl},((p.bg e.2 a.1 R.bb).w9 a.2 R.bb),f∣g}) (λv A y=>y.LO R<|e.aH a) bu
   cases (G)with
   |nil w=>calc callWith_K0 (ok.1.keeps e.2.1) H.3<|aR w e.2.bk Dc.nil|cons G=>
    have d:=eT d;calc ZV ok.1 H.3 (G.aG e.2 λb c d q a g=>{ok.1.keeps a.2.1,aR q a g}) (cf d.1)<|eW d.2))
end
def Fg(c x:Nat):Nat:=2*(x+1)+c
def il(c x:Nat):Fg c x%2=c%2:=Nat.mul_add_mod ..
def nf(h:c<2):x+1=Fg c x/2:=by unfold Fg;rw[Nat.mul_add_div ∅,Vs h]
def ip:HM (Fg c x) k=HM c k:=by unfold HM;rw[il]
def FL.xb(a:FL (k+2) A)(v:As)(Ae:-Aw):FL (k+1) (A.under<|.builtin "type.__call__" {.ref v::Ae,[]}):={a.1,DG (by clear a;show A.depth+1+4*(k+1)+8<=A.depth+4*(k+2)+8;calc gD ∅) a.2,DG (by clear a;show A.units+1+100*(k+1)+200<=A.units+100*(k+2)+200;calc gD ∅) a.3}
section
variable{BI:As}
inductive Jm(c x:Nat)(Q:T->Prop):Fz->B5->Prop
 |mk {Am:B5} (as:-Nat) (xs:-T) (h:HP Am 0=U (.ab (.DM (Fg c x) as) Y xs)) (q:Q (.ab (.DM c as) Y xs)):Jm c x Q .aX Am
def xc(ok:DY Aa)(A4:ND c=U BI)(t:c<2)(H:HS Aa F)(E:(T.none::Av).length+J F.E3=J F.FR)(u:∀(x:Nat) (z:A5),z.Aa=Aa->z.V.C=F.C->z.V.k=k->z.Am=F.Gg (.ab (.DM (Fg c x) []) Y []::Av)->Dj z (DJ F.Eg) (Jm c x Q))(G:H4 Aa.K (.ref BI) "__init__"=U (U<|.ref F.FQ))(M:isFn Aa.K (.ref F.FQ)=Y):Ia Aa (k+2) (.ref BI) Av Q:=λz s Ae xd Ax R y=>by
 subst xd;calc aE R.eN λm xe N keep=>call_cls xe ok.1 N (ok.6 c BI A4).5 G M λx d Ay FA Ib ng B=>?_;have KK:IA z s {s with heap:=Ay}:=keep FA Ib λp a=>.tail _<|.tail _ a;have i:=R.bp KK;have j:=Ib _<|.head _;have l:=Ib _<|.tail _<|.head _;have fresh:∀b,d<=b->b≠z.L->z.Aa.Cx.get? b=Ai->s.heap.get? b=Ai:=λb u a c=>by
  cases e:s.heap.get? b with
  |none=>rfl|some o=>exact ar (ng (b,o)<|gq.mpr {e,a,c})<|bz u
 have new:∀a∈[x,d],s.heap.get? a=Ai/\z.Aa.Cx.get? a=Ai:=λa h=>(aK h).elim (λe=>e⊂{fresh x (BY B) j.2.1 j.2.2,j.2.2}) λh=>aF h⊂{fresh d (CE _) l.2.1 l.2.2,l.2.2};have cD:Bl z.Aa (λa=>z.V.X a\/a∈[x,d]) Ay Av Ae []:=y.a9 (λa h=>h.imp_right λh=>(new a h).1)<|R.Fd i.1 (λZ h=>h) az;have xf:Bl z.Aa (λa=>z.V.X a\/a∈[x,d]) Ay (.ab (.DM (Fg c x) []) Y []::Av) (.ref x::Ae) [x,d]:={{.ref x,Ae,[x,d],[]},{rfl,rfl},{{x,d,[],[]},rfl,{BI,#[],0,by unfold ND;rw[il];calc A4,j.1,l.1,rfl,rfl,.nil,λZ=>nf t},{rfl,rfl},rfl},cD}
 calc l8 ok H (u x) i.2.ba (FL.xb (Ax∣z.V.Eb) _ _) E xf (λa h=>{(new a h).2,λc=>R.bb a c (new a h).1}) (cw {λh=>(Ha B)<|aF h,ZT ..}) λr YG tk f s2 p P=>IC.rec (λFt Am q A P=>?_) P;have D:H8 z.Aa.W z.L s {s with heap:=YG,toks:=tk}:=i.1.aH<|.b5 p.5;have S:=R.aU (D.gI P.3 (λa w=>w.elim (λw=>.inl (rwl p.1 w:z.Aa.W a)) λw=>.inr<|w.elim (λw=>R.bq i.1 a<|p.4 a w) λw=>(new a<|p.3∣w).1) az z.V.Iz)<|p.1∣(P.1.3:r.Aa.W r.Aa.P->Mr r.Aa.P s2.heap);cases A with
 |mk as xs RI A=>
  rw[show f=.next from P.4];calc {rfl,a8 (P.1.6.Cq<|fm<|cz RI) λv g Z w sub=>a6 w λab Z a xg cN=>bI a λxh AE xi I=>?_};calc {_,g,A,S,{ab,ah Ir (Qx<|I.7 (Ai9 2 (F0 x)\CD ..)^(nf t).symm).symm,{xh,AE,xi,by rw[<-I.1];unfold ND;rw[il],I.2,I.3,I.4,I.5,I.6,λq=>ar t<|bz q},p.1∣(xg.a9 (λa h=>.inl<|.inl<|p.2 a h) λZ Z e Z=>e:Bl r.Aa z.V.X s2.heap xs ab.Ae ab.f),cN},P.1.5.sublist sub,λa h=>(P.2 a<|sub.subset h).elim (λm=>(new a<|p.3∣m).1)<|R.bq D a}
end
section
variable{z:A5}{Q:Fz->B5->Prop}
def F2.aq(H:F2 z e P)(q:∀t CM,P t CM->a t CM):F2 z e a:=λs R=>H.aG R λu a t b c h S P=>{t,b,c,q t b h,S,P}
def Ez.xj(R:AY z s)(K:Ez z s s1)(y:A9 z.Aa z.M s.heap t v []):A9 z.Aa z.V.X s1.heap t.D5 v []:=
 have b:∀a,z.IB a->z.M a:=λa w=>w.elim (λw=>.inl<|z.V.wx a w) λw=>w.imp_left (DS.b4 z a)
 A9.CT (λa h=>.inl<|.inl h) t az (y.bg λa o e c=>K.2 a o e (λw=>c.elim aS λc=>c.elim (λc=>c<|b a w) λc=>ae (R.aQ a w) λZ d f=>f<|BQ (d.symm^e)⊂c) CR)
def xk{Q:-T->Prop}(R:AY z s)(p:LU z s (λt a=>∃BW,Kq Bf t a BW/\Q BW) v s1):Ec z (Pg v) (M5 z Bf target s Q) s1:=p.rec λt a q S y=>ae q λa k q=>by
 cases k with
 |Kr c d=>calc lP R S c d y q|Dh c=>calc lQ R S c y q
def xl(ok:DY z.Aa){name:Str}{as:-Nat}{d:Bool}{g:-T}(H:KG z.Aa c name bt){o:A2}
  (r:z.V.C.Aq[u]?=U (U x))(m:(x==("__debug__":Str))=Ab)(w:(x==("__classdict__":Str))=Ab)(A:My o=Y)(B:(D.endLine==E.line)=Y)(F:(G.endLine==I.line)=Y)(i:HP z.Am u=U (.ab (.DM c as) d g))(L:Tr name as=Y)(N:(T.ab (.DM c as) d g).EO=Y)
  (W:F2 z o λt a=>∃Al b,t=.ab .Bo Y (Al++[b])/\(b.EO=Y/\b.Fc=Y/\Fs (Al++[b])=Y)/\Ia z.Aa z.V.k (.ref bt) [(T.ab (.DM c as) d g).D5,b.D5] (Gh λt b=>∃BW,Kq Y t b BW/\∃AV:Nat->B5->Prop,AV 0 (a<|.ab .Bo Y Al)/\(∀j t Am,BW[j]?=U t->AV j Am->Ys z target body idx (AV<|j+1) Q t Am)/\∀Am,AV (J BW) Am->Q .aX Am)):
  Dj z (Gx<|.For target (.Call (.Attribute (.Name x MA) name D) [.Call (.Attribute o "pop" G) [] [] I] [] E) body [] pos) Q:=by
 clear z Q c u name x bt as d g _ target o MA D G E I pos body idx _ ok H r m w A B F i L N W;exactλs R=>
  wpAny_For (ik (dS rfl _ _ _) (nc rfl (by show 1<29;decide)) B (Wj (eP R r (cz i) w λv A8 pl=>ae (R.b6 (hs:=s.heap) (cz i) A8) λf l Z=>by
   have l:A9 z.Aa z.M s.heap (.ab (.DM c as) d g) v []:=A9.cI _ N l∣l;calc nd ok H R L l<|ZV ok.1 H.3 (Rd (mN A F (W.aq λt CM h=>a8 h λAl b AW A3 q=>{Al,b,AW,A3,λv2 s1 P X=>Wk {ok.1.keeps<|P.rec λZ Z Z Z P=>P.1.1,?_}}) R)<|cf rfl) (cf rfl) rfl;calc IC.rec (λFt KH p h P=>?_) P;rw[h.2] at P;have cD:=Ez.xj R P.3 l;calc CW (q (z.ax _ p) s1 [v,v2] rfl rfl P.1 {{_,_,[],[]},{rfl,rfl},cD,{_,_,[],[]},{rfl,rfl},A9.CT (AO:=[]) (λa h=>.inl h) _ az<|X _,rfl,rfl}) (λAkf s2 y=>?_) bL;calc CW (xk (z:=z.ax _ p) (target:=target) P.1<|y.LO P.1 P.1.bk) (λit s3 sp=>M5.rec (λBW q K S xm=>aE q λAV h0 i m=>?_) sp) bL;calc ko (lS (z:=z.ax _ p) h0 i m P.1 K S xm) λxn s4 y=>?_;cases xn with
   |ok f=>calc Ef.aH P.3 P.2 y|error e=>calc y) m)) (fv rfl _)
end
def Tt(C:Ea)(i:Nat)(x:Str):Prop:=Dy
 (C.Aq[i]?=U (U x))
 ((x==("__debug__":Str))=Ab)
 ((x==("__classdict__":Str))=Ab)
inductive KI(Am:B5)(i j:Nat)(R:B5->Prop):Prop
 |mk {ag:-BE} {xs:-T} {a:T} {CB:BE} (Ag:HP Am i=U (.ab (.Dh ag) Y xs)) (b:HP Am j=U a) (DT:Mw a=U CB) (DW:I4 CB ag=Y) (CH:J ag<=1000000) (r:R (Am.set i<|U<|.ab (.Dh<|Hv ag CB) Y<|Gi (CK ag CB) xs<|.Bo Ab [])):KI Am i j R
section
variable{z:A5}{s:AM}{i:Nat}{A d g:Pos}
def nh{P:B5->Prop}(q:Tt z.V.C i x)(B:Tt z.V.C j y)(h:KI z.Am i j P)(R:AY z s)(F:s.heap.PlainList b #[])(nb:¬z.M b):Ec z (assign (.Subscript (.Name x A) (.Name y d) g) z.env<|.ref b) (λZ a=>Ef z s (λc a=>c=.aX/\P a) .next a) s:=by
 clear z s i j x y _ A d g b P _ q B h R F nb;cases h with
 |mk Ag L DT DW CH r=>
 rw[assign_Subscript];calc AL<|Lp<|F2.aG (gL q.1 q.2 q.3 Ag (Q:=λt a=>t=_/\a=λy=>z.Am.set i<|U y) {rfl,rfl}) R λu s1 t CM c e D G=>?_;calc AL<|Lp<|BM.aG (kV B.1 B.2 B.3 L (Q:=λt a=>t=_/\a=.DC) {rfl,rfl}) D.2 λGV s2 FN AJ A3 H I=>AL<|Rj<|AL<|Lp ?_;have E:=D.aH H;have Bj:=R.cM az;rw[e.1,e.2] at G;rw[A3.1,A3.2] at I;calc ID.of R az (R.enter E az az Bj) (GF.enter G D.2 H az Bj) λn m=>?_;have N:A9 z.Aa (z.aA _ Bj).M s2.heap (.Bo Ab []) (.ref b) []:={{b,0,[],[]},rfl,(F.at λo e=>E.1.2 b o e (λw=>nb<|.inl<|z.V.wx b w) λl=>nb<|.inl<|l⊂z.V.Hg),{rfl,rfl},rfl,λa h w=>(rwl (show a=b from aF h) w:(z.aA _ Bj).M b).elim (·.elim (λc=>nb<|.inl c) aS) λc=>nb<|.inr c,λZ=>rfl}
 have S:BL (z.aA _ Bj) s1.heap s2.heap _ .DC GV:=ae I λf W X=>{f,W.cy λa h=>.inl (h.imp_left (·.elim id aS)),X}
 calc CW (mY DT DW CH m R (R.cg E.1) .nil N S {rfl,r}) (λZ a p=>wpAny_release p) bu
def xo{E F G I:Pos}(Ag:Tt z.V.C L N)(W:Tt z.V.C X RN)(r:Tt z.V.C j y)(H:KI z.Am L j λa=>KI a X j<|Q .aX):
  Dj z (Gx<|.Assign [.Tuple [.Subscript (.Name N xp) (.Name y E) F,.Subscript (.Name RN G) (.Name y xq) xr] n I] (.Tuple [.List [] ni,.List [] QM] m nj) pos) Q:=by
 clear z j L X y N RN _ Q n m xp E F G _ xq xr ni QM I nj pos _ Ag W r H;exactλs R=>by
  have HT:∀{p:Pos} {P:T->Prop},P (.Bo Y [])->BM z (.List [] p) λt a=>∃t',LV Ab t a t'/\P t':=λq=>hW (b:=Ab)<|dQ {rfl,_,.bh rfl,q};have A8:BM z (.Tuple [.List [] ni,.List [] QM] m nj) λt a=>t=.aT [.Bo Y [],.Bo Y []]/\a=.AU:=eR (b:=Ab)<|c7 rfl (HT<|c7 rfl (HT<|dQ {rfl,rfl,rfl}));refine Assign_Tuple (A8.aG R λv s1 t AJ e S y=>?_) (by unfold td;calc dk rfl _ _ _)<|by exact ite_self _
  rw[e.1,e.2] at y;calc ae y λf y hf=>a6 y λab e u Jn cN=>aE Jn λnk Ls v1 xt=>aE xt λnq NB v2 Jo=>a6 v1 λB a1 Jp nr g1=>a6 v2 λl a2 a3 nt g2=>?_;have Ep:l.a∈f:=cN.1▸rwr Ls.2 (BH _<|NB.2▸CL _ (g2▸.head _));have nu:∀a∈f,¬z.M a:=λa h w=>(R.d3 a w).bx<|hf.2 a h;have d7:ab.Ae.toArray=#[.ref B.a,.ref l.a]:=by rw[Ls.1,NB.1,Jo.1,a1,a2]
  have u:HH s1.heap ab.a #[.ref B.a,.ref l.a]:=d7∣u;rw[e];calc sR z.V.Eb.1 u rfl rfl λAy Jq=>?_;have up:∀a o,s1.heap.get? a=U o->Ay.get? a=U o:=λa o e=>Jq a o (EX<|Gv e) e;have nv:CJ z s {s1 with heap:=Ay}:=S.aH<|S.2.bp<|.b5 up;have ls:∀n:Iy,DR.at z.Aa s1.heap n .Bo->n.Ae=[]->Ay.PlainList n.a #[]:=λn q e=>ak q λc q=>{c,up _ _<|e∣q}
  have QP:=ls l a3 nt.1;calc sQ<|CW (nh Ag r H nv.2 (ls B Jp nr.1)<|nu _<|cN.1▸rwr Ls.2 (CL _<|g1▸.head _)) (λZ s3 P=>IC.rec (λFt KH w h P=>?_) P) bL;have D:=nu _ Ep;calc sQ<|CW (nh (z:=z.ax KH w) W r h.2 P.1 (QP.at λo e=>P.3.2 _ o e (λw=>D<|w.elim (λw=>.inl<|z.V.wx _ w) λw=>w.imp_left<|DS.b4 z _) CR) λq=>q.elim (λx=>D<|.inl x) λq=>(P.2 _ q).elim (λq=>D<|.inr q) λe=>ak QP λZ q=>bl e q) (λZ s4 Jr=>assignInOrder_nil ?_) bL;calc Ef.fk R nv<|Ef.aH P.3 P.2<|Jr.rec λZ a q h o=>{_,a,q,(h.1▸h.2:Q _ a),o}
end
section
variable{z:A5}{f pos:Pos}{u:Nat}{Q:Fz->B5->Prop}
def xu{j:Nat}(b:Tt z.V.C i x)(A:HP z.Am i=U .QE)(F:j=0\/j=1)(A4:WN value=Ab)(H:BM z value λt Z=>∃n:Nat,t=.au n/\Q .aX z.Am):Dj z (Gx<|.Assign [.Subscript (.Name x MA) (.Constant (.int (j:Int)) u L1) f] value pos) Q:=by
 clear z i x value MA L1 _ f pos u Q j _ b A F A4 H;exactλs R=>
  Ai1 (H.aG R λv s1 t AJ q g I=>ae q λn L q=>Wj (eP g.2 b.1 (cz A) b.3 λM r=>ae (g.2.b6 (hs:=s1.heap) (cz A) r) λZ G Z=>have B:=G.1.2;ak (rwl L I:BL z s.heap s1.heap (.au n) AJ v).au λtk N=>by
   rw[show M=.ref z.Aa.P from G.1.1,N];calc BM.aG (eQ (c:=.au (j:Int)) rfl (Q:=λt a=>t=.au j) rfl) g.2 λW s2 FN X A3 D xv=>ak (rwl A3 xv:BL z s1.heap s2.heap (.au j) X W).au λAkg xw=>a4 (D.2.3 B) λJs nk y=>a4 y λt1 Ls y=>?_;rw[xw];have aR:∀{Ay:BX},Mr z.Aa.P Ay->Heap.SameBut z.Aa.P s2.heap Ay->Ef z s Q .next {s2 with heap:=Ay}:=λ{b} r f=>
    have S:=(g.aH D).aH (D.2.aU ⟨rfl,λa o e w l=>f.extBut a o (λd=>w<|d⊂B) e,λm a=>a.sameBut f λd=>z.V.Iz<|d⊂B,λa o w e c=>by
     by_cases d:a=z.Aa.P;·exact a4 r λn c p=>a4 p λt u q=>aE q λa b c Z=>d⊂{a,b,d5 c rfl}
     ·calc {o,f.extBut a o d e,c}⟩ λZ=>r)
    {_,_,(z.Ae,z.AO),q,S.2,.bk,R.cg S.1,rfl}
   rcases F with h|h
   ·subst h;exact wpAny_setItem_list y ∅ ∅ (by show((0:Nat):Int)<2;decide) λa E b=>aR {n,nk,_,_,E} b
   ·subst h;calc wpAny_setItem_list y ∅ ∅ (by show((1:Nat):Int)<2;decide) λa E b=>aR {Js,n,_,_,E} b) b.2) (dk A4 _ _ _)
def xx{Q:T->By->Prop}(ok:DY z.Aa)(H:∀X Bj,BM (z.aA X Bj) YH λC Z=>∃CB,Mw C=U CB/\BM (z.aA X Bj) D λt a=>∃t',HR Ab t a t'/\t'.Fc=Y/\Q (.ab (.Dh [CB]) Y [t']) .AU):BM z (.Dict [U YH] [D] pos) Q:=by
 clear z YH D pos Q _ ok H;exactλs R=>by
  have m:CJ z s {s with heap:=s.heap.push {cls:=.type "dict",data:=.dict #[]}}:=R.bp .c6;have p:∀a∈[s.heap.objs.size],s.heap.get? a=Ai:=λa h=>aF h⊂bU _;have Bj:Dk z.Aa z.env (z.V.Ff [s.heap.objs.size]):=R.cM p;have j:=R.enter m p (λa h=>aF h⊂{_,Fn _ rfl,d5 (c:="dict") rfl rfl}) Bj;calc wpAny_Dict_any rfl rfl (Wy _ _) (by show 1<=15;decide) ?_;calc evalPairs_cons<|BM.aG (z:=z.aA _ Bj) (H _ Bj) j λGV s1 C mk q g F=>ae q λCB Ax H=>AL<|BM.aG (z:=z.aA _ Bj) H g.2 λG s2 t AJ q i y=>aE q λt' k I q=>AL<|Rj<|Bn<|evalPairs_nil ?_;have r:=g.aH i;have x:¬z.V.X s.heap.objs.size:=λc=>R.bb _ c<|bU _;calc ak (BL.gM (z:=z.aA _ Bj) k i.2 g.2.bb y) λA y=>?_;have E:s.heap.objs.size∉A:=λh=>CF.bx (g.2.2 _<|.inr<|.head _)<|y.3 _ h;unfold storeAll;rw[s7];calc AL<|AL<|mK (ig.bg (λo e=>r.1.2 _ o e (λw=>x<|z.V.wx _ w) λl=>x<|l⊂z.V.Hg) λb o e c=>r.1.2 b o e (λw=>j.d4 e (.inl<|z.V.wx b w) c) λl=>j.d4 e (.inl<|l⊂z.V.Hg) c) (BL.aI (z:=z.aA _ Bj) (BL.bg (z:=z.aA _ Bj) g.2 i.1 j.bb F) Ax) rfl (C9 _) (z.bw ∅) λAy tk L C6=>Bn<|Bn ?_;have up:∀a o,a≠s.heap.objs.size->s2.heap.get? a=U o->Ay.get? a=U o:=λa o n e=>C6.extBut a o n e;have bx:∀a,z.V.X a->a≠s.heap.objs.size:=λa c e=>x<|e∣c;calc {_,_,q,R.aU ((m.1.aH r.1).gI (B:=z.Aa.W) (Bu:=[s.heap.objs.size]) {rfl,λa o e Z u=>up a o (λc=>u<|c∣.head _) e,λa w=>CF.at (i.2.2 a<|.inl<|z.V.wx a w) λo=>up a o<|bx a<|z.V.wx a w} (λZ=>.inl) p z.V.Iz) λw=>(i.2.3 w).at λo=>up _ o<|bx _<|z.V.wx _ w,s.heap.objs.size::A,{{s.heap.objs.size,0,[G],A},rfl,{ih ok R,L},Bl.Cf<|A9.c5 _ I<|y.1.bg λa o e c=>up a o (λd=>c.elim (λc=>E<|d∣c) λc=>c.elim (λc=>c<|.inl<|.inl<|.inr<|d∣.head _)<|i.2.d4 e<|.inr<|d∣.head _) e,rfl},cw {E,y.2},λa h=>(aK h).elim (λe=>e⊂bU _) λh=>R.bq m.1 a<|AY.bq (z:=z.aA _ Bj) j g.1 a<|y.3 a h}
end
def NP(xs:-α)(BP Cj:↥Int):-α:=(xs.drop<|QB BP<|J xs).take<|kms_hi Cj (J xs)-QB BP (J xs)
def Fh(xs:-α)(BP Cj:↥Nat):-α:=let Al:=xs.drop<|BP.getD 0;Cj.elim Al λk=>Al.take<|k-BP.getD 0
def xy(k l n:Nat):min k n-min l n=k-l\/(n-l<=min k n-min l n/\n-l<=k-l):=by
 rcases kp l n with h|h
 ·rw[Wz h];rcases kp k n with c|c
  ·rw[Wz c];exact .inl rfl
  ·rw[tf c];exact .inr {CE _,Nat.sub_le_sub_right c l}
 ·rw[Aja h];calc .inr {C9 _,C9 _}
def nx(xs:-α)(BP b:↥Nat):NP xs (BP.map Hc) (b.map Hc)=Fh xs BP b:=by
 clear α BP b _ xs _;have l:QB (BP.map Hc) (J xs)=min (BP.getD 0) (J xs):=by
  cases BP with
  |none=>calc(Nat.zero_min _).symm|some a=>show(if(a:Int)<0 then(J xs)-(Neg.neg (a:Int)).toNat else min a (J xs))=_;rw[ai<|Rf.mpr<|Hr a];rfl
 have h:kms_hi (b.map Hc) (J xs)=b.elim (J xs) λk=>min k (J xs):=by
  cases b with
  |none=>rfl|some a=>show(if(a:Int)<0 then(J xs)-(Neg.neg (a:Int)).toNat else min a (J xs))=_;rw[ai<|Rf.mpr<|Hr a];rfl
 unfold NP Fh;rw[l,h];have e:xs.drop (min (BP.getD 0)<|J xs)=xs.drop (BP.getD 0):=by
  rcases kp (BP.getD 0) (J xs) with c|c
  ·rw[Wz c]
  ·rw[tf c,tg,Vt c]
 rw[e];have d:∀m n:Nat,(m=n\/(J xs-BP.getD 0<=m/\J xs-BP.getD 0<=n))->(xs.drop<|BP.getD 0).take m=(xs.drop<|BP.getD 0).take n:=λm n c=>by
  rcases c with rfl|c
  ·rfl
  ·rw[X3 (by rw[X4];calc c.1),X3 (by rw[X4];calc c.2)]
 cases b with
 |none=>calc X3 (by rw[X4];calc Ajb (sI _ _) _)|some k=>calc d _ _<|xy _ _ _
section
variable{prog:Gu}{w:FH}{A:EI}{E:Aw->AM->Prop}{s:AM}
def ny{BP:↥Int}(p:IsPart v BP)(h:Q BP s):Ba (BK prog w) A (Builtin.Slice.slicePartIndex v) Q E s:=by
 cases p with
 |none=>calc slicePart_none h|int i t=>calc slicePart_int h
def xA{k n:Nat}:min (k:Int) (n:Int)=((min k n:Nat):Int):=(kp k n).elim (λh=>Int.min_eq_left (Qw.mpr h)^ah Hc (Wz h).symm) λh=>Int.min_eq_right (Qw.mpr h)^ah Hc (tf h).symm
def xB(BP a:↥Int)(b:∀i,BP=U i->0<=i)(Ag:∀i,a=U i->0<=i)(n:Nat):Builtin.Slice.sliceAdjust BP a 1 (n:Int)=(((QB BP n:Nat):Int),((kms_hi a n:Nat):Int)):=by
 clear BP a n _ b Ag;have c:∀i:Int,0<=i->(if i<0 then max (i+(n:Int)) 0 else min i (n:Int))=((if i<0 then n-(Neg.neg i).toNat else min i.toNat n:Nat):Int):=λi h=>ak (Ai0 h) λk e=>by subst e;exact ai (Rf.mpr h)^xA.trans (ah Hc (ai<|Rf.mpr h).symm)
 refine LK ?_ ?_
 ·cases BP with
  |none=>rfl|some i=>exact c i<|b i rfl
 ·cases a with
  |none=>rfl|some i=>calc c i<|Ag i rfl
def xC(a b:Nat):Builtin.Slice.slicePlaces (a:Int) (b:Int) 1=b-a:=by
 by_cases h:a<b;·exact(ah kh ((ao (by decide:(1:Int)>0)).trans ((ao<|Nx.mpr h).trans ((ah (·+1)<|Int.ediv_one _).trans<|Int.sub_add_cancel ..)))).trans<|Int.toNat_sub b a
 ·calc(ah kh<|(ao (by decide:(1:Int)>0)).trans<|ai λz=>h<|Nx.mp z).trans (Aja<|bM h).symm
def xD(xs:Array Aw)(a k:Nat):((Cg k).filterMap λ(k:Nat)=>xs[((a:Int)+(k:Int)*1).toNat]?).toArray=((xs.toList.drop a).take k).toArray:=by
 have e:(λ(k:Nat)=>xs[((a:Int)+(k:Int)*1).toNat]?)=λk=>xs[a+k]?:=by
  funext k
  have:((a:Int)+(k:Int)*1).toNat=a+k:=ah (λz=>((a:Int)+z).toNat)<|Int.mul_one (k:Int);rw[this]
 rw[e];have:=pick_run xs a k;rw[List.filterMap_map] at this;have A3:((λx=>xs[x]?)∘λx=>a+x)=λk=>xs[a+k]?:=rfl;rw[A3] at this;rw[this]
def xE{BP a:↥Int}{Q:Aw->AM->Prop}(b:HH s.heap t items)(hs:s.heap.IsSliceOf Am f g .none)(pl:IsPart f BP)(o:IsPart g a)
  (p:∀i,BP=U i->0<=i)(Ag:∀i,a=U i->0<=i)(q:NP items.toList BP a=items.toList->Q (.ref t) s)
  (h:Q (.ref s.heap.objs.size) {s with heap:=s.heap.push {cls:=.type "tuple",data:=.seq (NP items.toList BP a).toArray}})
  (r:items.size<=H5):Ba (BK prog w) A (getItem (.ref t)<|.ref Am) Q E s:=by
 clear prog w A E s t Am _ items f g BP a Q _ b hs pl o p Ag q h r;have c:sizeOk (.seq (NP items.toList BP a).toArray):=by show(NP items.toList BP a).toArray.size<=H5;rw[LX,WA,X4,Wt];exact Vb _ _\(QC _ _\r)
 calc aE (id hs) λos d u j=>?_;obtain⟨z,B,C,D,F⟩:=id b;unfold getItem
 try with_reducible refine Lp ?_
 first|calc AL (Bn ?_)|skip
 calc AL<|wpAny_sequenceKey b.typeIs ∅ ?_;refine AL (Wo (name:=Qo "__getitem__") b.typeIs slot_tuple_getitem
  (MY slot_tuple_getitem b.typeIs entry_tuple_getitem ?_<|args_tuple_getitem _ _))
 show Ba _ _ (Builtin.Tuple.tupleItemsOf (.ref t)>>=_) _ _ s;calc AL<|tupleItemsOf_ b ?_;calc AL<|kq ({os,d,u}) ?_;rw[ao ∅];calc AL (m:=Builtin.Slice.sliceApplied _ _)<|AL<|AL<|Pj d j (x:=f) rfl (AL<|Pj d j (x:=g) rfl (AL<|Pj d j (x:=.none) rfl (Bn ?_)));calc AL<|slicePart_none ?_;rw[ai ∅];calc AL<|ny pl<|AL<|ny o<|AL<|Bn ?_;rw[xB BP a p Ag];show Ba _ _ (pure (((QB BP items.size:Nat):Int),(1:Int),Builtin.Slice.slicePlaces ((QB BP items.size:Nat):Int) ((kms_hi a items.size:Nat):Int) 1)) _ _ s;rw[xC];calc Bn ?_;have e:((items.toList.drop<|QB BP items.size).take<|kms_hi a items.size-QB BP items.size)=NP items.toList BP a:=by unfold NP;rw[Wt]
 show Ba _ _ (if(((QB BP items.size:Nat):Int)==0&&(1:Int)==1&&(kms_hi a items.size-QB BP items.size)==items.size)=Y then _ else _) _ _ s
 split
 ·rename_i l;simp only [Rm,beq_iff_eq] at l;have e:NP items.toList BP a=items.toList:=by unfold NP;rw[Wt];have y:QB BP items.size=0:=Int.natCast_eq_zero.mp l.1.1;have AW:=l.2;rw[y] at AW⊢;rw[AW,kr,X3<|Di Wt]
  calc AL (m:=Builtin.Tuple.tupleIsExact _)<|AL<|kq b.typeIs<|Bn ?_;rw[ao ∅];exact AL<|SP<|Bn {_,rfl,Bn<|q e}
 ·rw[xD,e]
  first
  |calc AL (m:=Builtin.Tuple.tupleExact _)<|Ny (Bn ⟨_,rfl,Bn h⟩) c
  |calc AL (m:=Builtin.Tuple.tupleExact _)<|Ny (AL<|Bn<|Bn ⟨_,rfl,Bn h⟩) c
  |calc AL<|AL (m:=Builtin.Tuple.tupleExact _)<|Ny (Bn<|Bn ⟨_,rfl,Bn h⟩) c
  |calc AL<|AL (m:=Builtin.Tuple.tupleExact _)<|Ny (Bn ⟨_,rfl,Bn h⟩) c
end
section
variable{h:BX}
def Bl.drop:∀(n:Nat) {xs:-T} {Ae:-Aw} {f:-As},Bl Aa M h xs Ae f->∃g,Bl Aa M h (xs.drop n) (Ae.drop n) g/\g.Sublist f
 |0,_,_,f,y=>{f,y,.refl f}
 |_+1,[],_,f,y=>{[],by rw[y.1];calc {rfl,rfl},ZO f}
 |n+1,_::_,_,f,⟨c,y⟩=>ae (y.2.2.drop n) λg a b=>{g,by rw[y.1.1];calc a,b.trans<|y.1.2⊂jJ _ _}
def Bl.nz:∀(n:Nat) {xs:-T} {Ae:-Aw} {f:-As},Bl Aa M h xs Ae f->∃g,Bl Aa M h (xs.take n) (Ae.take n) g/\g.Sublist f
 |0,_,_,f,y=>{[],{rfl,rfl},ZO f}
 |_+1,[],_,f,y=>{[],by rw[y.1];calc {rfl,rfl},ZO f}
 |n+1,_::_,_,f,⟨c,y⟩=>ae (y.2.2.nz n) λg a b=>{c.f++g,by rw[y.1.1];calc {{c.v,_,c.f,g},{rfl,rfl},y.2.1,a},y.1.2⊂b.append_left c.f}
def Dc.nA(BP a:↥Nat)(y:Dc z hs h Av AJ Ae):Dc z hs h (Fh Av BP a) AJ (Fh Ae BP a):=ae y λf y b=>ae (y.drop<|BP.getD 0) λg c d=>by
 cases a with
 |none=>calc {g,c,b.A6 d}|some k=>calc ae (c.nz<|k-BP.getD 0) λa e i=>{a,e,b.A6<|i.trans d}
end
def Ad8(v:Aw)(BP:↥Nat):Prop:=Em
 (IsPart v<|BP.map Hc)
 (∃q,v=partValue q/\q.map (·.1)=BP.map Hc)
def PE(z:A5)(x:↥A2)(Q:↥Nat->Prop):Prop:=(x=Ai/\Q Ai)\/∃e,x=U e/\BM z e λt Z=>∃n:Nat,t=.au n/\Q (U n)
inductive KL(BP Cj:↥Nat)(Q:T->By->Prop):T->By->Prop
 |Bo {b o:Bool} {xs AG:-T} {AJ:By} (a:Fs xs=Y) (w:Pu b xs AJ AG) (q:Q (.Bo (!b)<|Fh AG BP Cj) (Fe b)):KL BP Cj Q (.Bo o xs) AJ
 |aT {b o:Bool} {xs AG:-T} {AJ:By} (a:Fs xs=Y) (w:Pu b xs AJ AG) (q:Q (.aT<|Fh AG BP Cj) (Fe b)):KL BP Cj Q (.ab .aT o xs) AJ
 |aZ {x:Str} {AJ:By} (Ag:PyData.strOk (Txt.slice x (BP.map Hc)<|Cj.map Hc)=Y) (c:x.length<=H5) (q:Q (.aZ<|Txt.slice x (BP.map Hc)<|Cj.map Hc) .AU):KL BP Cj Q (.aZ x) AJ
section
variable{z:A5}{Q:T->By->Prop}
def PE.aG{Q:Aw->AM->Prop}(H:PE z x P)(R:AY z s)(q:∀v s' BP,P BP->CJ z s s'->Ad8 v BP->Q v s'):Ba (Dw z) z.V.A (evalPart x z.env) Q E s:=
 H.elim (λH=>H.1⊂Bn (q .none s Ai H.2 R.bk ⟨.none,Ai,rfl,rfl⟩)) λH=>ae H λe h H=>h▸H.aG R λv b t c p S y=>ae p λn e p=>ak (rwl e y:BL z s.heap b.heap (.au n) c v).au λc a=>q v b (U n) p S<|a⊂{.int _ _,U (_,c),rfl,rfl}
def nB{A:↥A2}(H:BM z value λt a=>PE z G λb=>PE z A λc=>KL b c Q t a):BM z (.Subscript value (.Slice G A Ai p) pos) Q:=by
 clear z Q value G A p pos _ H;exactλs R=>
  j3 (H.aG R λv1 s1 t AJ N B P=>wpAny_Slice (PE.aG N B.2 λv2 s2 BP S I L1=>PE.aG S I.2 λg d c W r RR=>by
   rw[evalPart_none];have L:=I.aH r;have Fd:IA z d {d with heap:=d.heap.push {cls:=.type "slice",data:=.fields #[v2,g,.none]}}:=.c6;have j:=Heap.IsSliceOf.new d.heap v2 g .none;calc Bn ?_;have f:=(B.aH L).aH<|r.2.bp Fd;have x:=(P.bg B.2 L.1 R.bb).bg r.2 (r.2.bp Fd).1 R.bb;generalize X:({d with heap:=d.heap.push {cls:=.type "slice",data:=.fields #[v2,g,.none]}}:AM)=s4 at Fd f x⊢;have j:s4.heap.IsSliceOf d.heap.objs.size v2 g .none:=X∣j;have C:=R.bq f.1;have aR:∀{t:T} {AJ:By} {s5:AM} {v:Aw},Q t AJ->IA z s4 s5->BL z s.heap s5.heap t AJ v->LU z s Q v s5:=λq a y=>{_,_,q,f.aH<|f.2.bp a,y}
   calc a4 (ZJ L1.2 RR.2|>λh=>ae h.1 λa d e=>ae h.2 λb f h=>{a,b,({{d,e},f,h}:(v2=partValue a/\a.map (·.1)=BP.map Hc)/\g=partValue b/\b.map (·.1)=c.map Hc)}) λQP xF l=>?_;cases W with
   |Bo D w q=>
    calc a6 x.Dg λn E Ax m Z=>?_;have Ax:s4.heap.PlainList n.a n.Ae.toArray:=Ax;have M:s4.heap.IsList n.a n.Ae.toArray:=Heap.PlainList.isList Ax;have NQ:slicePick n.Ae.toArray (BP.map Hc) (c.map Hc) Ai=(Fh n.Ae BP c).toArray:=by rw[kms_pick_eq];exact ah th<|nx n.Ae BP c
    rw[E];calc SH (ops:=[.ref d.heap.objs.size,.ref n.a]) M.typeIs list_getitem_lookup (wpAny_getItem_list_slice M j L1.1 RR.1 .none (λe=>dJ e) (aR q .c6<|((m.Mu f.2 R.bb w).nA BP c).dP f.2 .c6 R.bb C (NQ∣{_,Fn _ rfl})<|bU _)<|d2 D m.bo) rfl
   |aT D w q=>
    calc a6 x.Dg λn E Ax m Z=>?_;have Ax:HH s4.heap n.a n.Ae.toArray:=Ax;have bl:∀(o:↥Nat) (i:Int),o.map Hc=U i->0<=i:=λo i e=>ae (bD e) λa Z e=>e∣Hr a;have NQ:NP n.Ae.toArray.toList (BP.map Hc) (c.map Hc)=Fh n.Ae BP c:=nx n.Ae BP c;have y:=(m.Mu f.2 R.bb w).nA BP c;rw[E];calc SH (ops:=[.ref d.heap.objs.size,.ref n.a]) (IsTup.typeIs Ax) PySem.F.slot_tuple_getitem.lookup (xE Ax j L1.1 RR.1 (bl BP) (bl c) (λb=>aR q .bk<|y.fl f.2 .bk R.bb C (NQ▸rwr b Ax:HH s4.heap n.a (Fh n.Ae BP c).toArray)) (aR q .c6<|y.fl f.2 .c6 R.bb C<|NQ∣{_,Fn _ rfl,rfl,_,rfl})<|d2 D m.bo) rfl
   |aZ Ag KN q=>
    calc ak x.aZ.1 λtk d7=>?_;have A3:=l.1.1;have DU:=l.2.1;subst A3 DU;rw[<-l.1.2,<-l.2.2] at Ag q;rw[d7];calc SH (ops:=[.ref d.heap.objs.size,.str _ tk]) (typeIs_str _ _ _) PySem.F.slot_str_getitem.lookup (wpAny_getItem_str_slice (l:=QP) (u:=xF) (st:=Ai) j rfl (post_val_or_str {Txt.slice_le _ _ _\KN,λa k=>aR q .cb<|BL.kY Ag})) rfl))
end
section
variable{Q:T->By->Prop}
def Bl.nC(x:Bl Aa M h xs Ae []):∀n:Nat,Bl Aa M h (CV n xs).flatten (CV n Ae).flatten []
 |0=>{rfl,rfl}
 |n+1=>by rw[Ajc,Ajc,Ajd,Ajd];calc x.cx<|Bl.nC x n
def xG(h:GZ AG=Y)(w:Pu b xs Ey AG)(d:J xs<=4)(c:n<=1000000)(q:Q (.Bo (!b) (CV n AG).flatten) (Fe b)):GU z (LW .Mult) (.Bo o xs) Ey (.au n) Ep Q:=λs0 s1 s v1 v2 W=>
 ak W.7.au λtk g=>a6 W.cD.Dg λab e Ax y Z=>ak Ax λbl i=>aE W.2.eN λm F N keep=>by
  rw[e,g];calc mul_list F N i (j5 ∅<|Hr n) (ZX (Qw.mpr c) ∅) (by rw[LX,y.bo];calc ti d c\∅) λAy FA Ib=>?_;have KK:IA z s {s with heap:=Ay}:=keep FA Ib λp j=>.tail _ j;rw[listMul_foldl_if] at Ib;calc ae (y.Mu W.2 W.4 w) λf y Z=>?_;have l:Dc z s0.heap s.heap (CV n AG).flatten (Fe b) (CV n ab.Ae).flatten:={[],Bl.nC (Bl.cI h y∣y) _,E1.nil _}
  calc {_,_,q,KK,l.dP W.2 KK W.4 (λa h=>W.5 a<|W.1.bq W.3 a h) {_,(Ib _<|.head _).1}<|bU _}
end
section
variable{K:Type}[DecidableEq K]{knd:HeapKind prog w K}
def xH{id:String}(X:(a==MZ)=Ab)(xI:(b==MZ)=Ab)(xM:knd.room A)(Jt:s.heap.DictOfH knd a xs)(Lu:s.heap.DictOfH knd b Al)
  (g:∀x∈xs,∀(j:Nat) (p:As×Aw),Al[j]?=U (x.1,p)->∀Q:Bool->AM->Prop,Q (r x) s->Ba (BK prog w) A (eqBool x.2.2 p.2) Q E s)(KP:∀x∈xs,(∀(j:Nat) (p:As×Aw),Al[j]?≠U (x.1,p))->r x=Ab)
  (h:Q (decide (J xs=J Al)&&xs.all r) s):Ba (BK prog w) A (Builtin.Dict.samePairs id a b) Q E s:=by
 obtain⟨Akh,d,na,l,Aki,o,I,xN,Akj⟩:=Jt;obtain⟨Ks,L,nb,B,Akk,C,D,xP,xQ⟩:=Lu;have q:=size_of_entries I;have M:=size_of_entries D;unfold Builtin.Dict.samePairs Builtin.Dict.showsAll;simp only [Std.Legacy.Range.forIn_eq_forIn_range',X,xI,X0,if_false];calc AL<|Bn<|AL<|Bn<|AL<|XU l o<|AL<|XU B C ?_;by_cases t:d.size=L.size
 ·rw[ai<|by simp [t]];calc AL<|Ve l o ?_;have loop:∀(m i:Nat),i+m=J xs->∀(f:Nat->↥Bool×Unit->Sem (ForInStep<|↥Bool×Unit)) (aR:↥Bool×Unit->Sem Bool),
    (∀(j:Nat) (x:K×As×Aw),xs[j]?=U x->∀DH:ForInStep (↥Bool×Unit)->AM->Prop,(r x=Y->DH (.yield (Ai,())) s)->(r x=Ab->DH (.done (U Ab,())) s)->Ba (BK prog w) A (f j (Ai,())) DH E s)->
    (aR (U Ab,())=pure Ab)->(aR (Ai,())=pure Y)->∀DH:Bool->AM->Prop,DH ((xs.drop i).all r) s->Ba (BK prog w) A (forIn (Cn i m) (Ai,()) f>>=aR) DH E s:=by
   intro m;cases m with
   |zero=>
    intro i u f aR F Ag G DH c;have:xs.drop i=[]:=Vt<|Di u.symm;rw[this] at c;show Ba _ _ (pure (Ai,())>>=aR) _ _ _;calc AL<|Bn (by rw[G];calc Bn c)
   |succ m KQ=>
    intro i u f aR F Ag G DH c;have N:i<J xs:=Vu (Pm<|F0 m) u;have P:=WB N;rw[ks,s7];rw[bind_assoc];refine AL<|F i xs[i] (Dv N) _ (λg=>?_) λg=>?_
    ·calc KQ (i+1) (Hb i 1 m^u) f aR F Ag G DH ?_;rw[P,List.all_cons,g,Bool.true_and] at c;exact c
    ·rw[P,List.all_cons,g,tj] at c;calc AL<|Bn ?_;rw[Ag];exact Bn c
  have hm:([:d.size]).size=d.size:=by simp [Std.Legacy.Range.size]
  rw[hm];refine loop d.size 0 (EV _^q) _ _ ?_ ?_ ?_ Q ?_
  rotate_left
  ·rfl
  ·rfl
  rotate_left
  ·intro j x y DH xR R;have Akl:j<d.size:=by
    rw[q];by_cases z:j<(J xs);·exact z
    ·rw[Ws<|bM z] at y;delta y
   have xS:d[j]?=U (entryOfKey knd x):=by rw[entry_at I,y];rfl
   have H:=GK y;calc AL<|XU l o ?_;rw[xS];calc AL<|Lp ?_;refine AL<|wpAny_dictFind_heap xM (xN x H) B C D xP xQ (λxT=>?_) λS p W=>?_
   ·have e:=KP x H xT;calc Bn ?_;simp only [Aje,if_true];exact Bn<|R e
   ·calc AL<|XU B C ?_;have xW:L[S]?=U (entryOfKey knd (x.1,p)):=by rw[entry_at D,W];rfl
    rw[xW];calc Lp<|g x H S p W _ ?_;cases e:r x with
    |false=>
     simp only [Aje,if_true];calc Bn<|R e
    |true=>
     simp only [ZY,X0,if_false];calc AL<|Ve l o ?_;rw[ai<|by simp];exact Bn<|xR e
  ·have:decide (J xs=J Al)=Y:=aJ<|q.symm^t.trans M;rw[this,Bool.true_and] at h;exact h
 ·rw[ao<|by simpa using t];calc AL<|SP<|Bn ?_;have:decide (J xs=J Al)=Ab:=decide_eq_false λe=>t<|q^e.trans M.symm;rw[this] at h;calc h
end
section
variable{K:Type}[DecidableEq K]{knd:HeapKind prog w K}
def xX{a:As}(e:(a==MZ)=Ab)(f:(b==MZ)=Ab)(c:s.heap.DictOfH knd a xs)(d:s.heap.DictOfH knd b Al)(g:A.units<IJ)(i:knd.room A.in1)
  (l:∀x∈xs,∀(j:Nat) (p:As×Aw),Al[j]?=U (x.1,p)->SeqAt.EqAt A.in1 s x.2.2 p.2 (r x))(m:∀x∈xs,(∀(j:Nat) (p:As×Aw),Al[j]?≠U (x.1,p))->r x=Ab)(h:Q (.bool<|decide (J xs=J Al)&&xs.all r) s):
  Ba (BK prog w) A (I0 .Eq (.ref a)<|.ref b) Q E s:=by
 calc Ajf (op:=.Eq) c.typeIs d.typeIs PySem.F.slot_dict_eq (MY PySem.F.slot_dict_eq c.typeIs PySem.F.entry_dict_eq ?_<|PySem.F.args_dict_eq_2 _ _) g;calc AL<|AL<|sP c.typeIs ?_;calc Bn<|AL<|Vg d.typeIs PySem.F.sub_dict_dict ?_;simp only [ZY,X0,if_false];calc AL<|Bn<|AL<|Bn ?_;calc AL<|xH e f i c d (λx o j p t a q=>l x o j p t prog w _ a q) m ?_;calc Bn {_,rfl,?_,?_};·exactλx=>nomatch x
 ·simpa using h
end
section
variable{ag:-BE}{Ae:-Aw}
def Eo.aT(D:Eo Aa h ag a Ae)(Ax:∀k∈ag,∃AN,k=.t AN):∃xs,S3 Aa h ag a Ae xs:=by
 clear Aa h ag a Ae _ D Ax;rcases D with⟨b,D⟩|⟨xs,D⟩
 ·cases b using List.casesOn with
  |nil=>calc {[],bI D.1 λo a c q=>{o,a,c,q.1,q.2.1,q.2.2.1,k6 q.2.2.2.2.1,λZ h=>ar h CR,.nil},D.2,D.3,λZ h=>ar h CR}|cons p b=>rw[D.2] at Ax;exact ak (Ax _<|.head _) λa e=>nomatch e
 ·calc {xs,D}
def nD:∀{ag:-BE} {i:Nat} {k:BE},ag.Nodup->ag[i]?=U k->CK ag k=U i
 |a::ag,0,k,_,e=>ao (BQ e).symm|a::ag,i+1,k,ab,e=>by have ab:=du ab;calc ai (λc:k=a=>ab.1<|c∣GK e)^ah (Lo (·+1)) (nD ab.2 e)
def S3.nE{i:Nat}(D:S3 Aa h ag a Ae xs)(y:Bl Aa M h z Ae f)(b:xs[i]?=U x):∃t,Mx ag z (.t x.1)=U t/\∀d,FP 8 t=U d->Yq h x.2.2 d 8:=bI D.1 λZ Z Z c=>by
 have Ax:CK ag (.t x.1)=U i:=D.2⊂nD (ie (f:=BE.t) (λZ Z=>BE.t.inj) (g:=SR) c.2.2.2.2.2) (by rw[Gw,b];rfl);have A8:Ae[i]?=U x.2.2:=by rw[D.3,Gw,b];rfl
 have lt:i<J z:=y.bo∣bK A8;calc a8 (y.Cq<|Dv lt) λv g e j Z=>{z[i],ah (·.bind (z[·]?)) Ax^Dv lt,λd l=>BQ (e.symm^A8)∣A9.reads _ l j}
def xK{o:Bool}(DT:∀k∈ag,∃AN,k=.t AN)(DW:∀k∈Ly,∃AN,k=.t AN)(G:∀k t u,Mx ag xs k=U t->Mx Ly Al k=U u->∃d e,FP 8 t=U d/\FP 8 u=U e/\r k=PyData.eqv d e)(H:∀k,CK Ly k=Ai->r k=Ab)(q:Q (decide (J ag=J Ly)&&ag.all r)):Lv z (I0 .Eq) (.ab (.Dh ag) o xs) Ey (.ab (.Dh Ly) Akm Al) Ep Q:=λs0 s1 s v1 v2 W=>
 a6 W.cD.Dg λn I D y Z=>a6 W.7.Dg λg L M h Z=>ae y λf y Z=>ae h λAkn h Z=>by
  have B:(n.a==MZ)=Ab/\Eo z.Aa s.heap ag n.a n.Ae:=D;have C:(g.a==MZ)=Ab/\Eo z.Aa s.heap Ly g.a g.Ae:=M;calc ak (B.2.aT DT) λAko l=>ak (C.2.aT DW) λM8 c=>?_;rw[I,L];refine xX (r:=λx=>r<|.t x.1) B.1 C.1 l.1 c.1 (DG (CD _ _)<|z.bw (n:=1) ∅) (z.bw ∅) (λx E j p w=>ak (SS E) λi N=>ae (l.nE y N) λt bG b=>ae (c.nE h w) λu P DZ=>a8 (G _ _ _ bG P) λnr nt R F S=>?_) (λx E no=>H _<|mP.mpr λm=>?_) {_,rfl,?_,.bk}
  ·rw[S];have b:=b _ R;calc ak b.1 λas X=>ak (DZ _ F).1 λbs Jp=>?_;exact SeqAt.eqAt_reads _ _ z.V.A.in1 s _ _ _ _ X Jp b.2 (DZ _ F).2<|DG (Du (sI _ _\b.3) _\(by show z.V.A.units+1+8<=z.V.A.units+9;calc Di<|El ..))<|z.bw ∅
  ·rw[c.2] at m;exact ae (b0 m) λp w a=>ak (SS w) λj b=>no j p.2<|b^ah U (LK (BE.t.inj a) rfl)
  ·rw[l.2,c.2,Bq,Bq,List.all_map] at q;calc q
end
def Hw(F:Nat->Nat)(m:Nat):Prop:=∀i,i+1<m->F i<F (i+1)
def Tu(F:Nat->Nat)(m:Nat):Prop:=∀i,i+1<m->F (i+1)<F i
section
variable{F:Nat->Nat}{a:Nat}
def fA{a i:Nat}(h:i<a+1):i<a\/i=a:=Ajg<|Mm h
def Hw.aU(h:Hw F (a+1))(e:F a<F (a+1)):Hw F (a+2):=λi b=>(fA b).elim (h i) λq=>Qx q⊂e
def Tu.aU(h:Tu F (a+1))(e:F (a+1)<F a):Tu F (a+2):=λi b=>(fA b).elim (h i) λq=>Qx q⊂e
def Hw.lt(h:Hw F a){i:Nat}:∀j,i<j->j<a->F i<F j
 |0=>λb Z=>ar b<|I2 i|j+1=>λb c=>(fA b).elim (λq=>DQ (h.lt j q<|ta c)<|h j c) λq=>q⊂h j c
end
def DX(r:Nat->Nat)(p:Array Nat)(k:Nat):Nat:=r<|p.getD k 0
def FC(n:Nat)(p:Array Nat):Prop:=Kb
 (p.toList.Perm<|Cg n)
def RS(n:Nat)(r:Nat->Nat)(Bg:Nat->Nat->(Bool->AM->Prop)->AM->Prop)(s:AM):Prop:=Em
 (∀i j C,i<n->j<n->C (decide<|r i<r j) s->Bg i j C s)
 (∀i j,i<n->j<n->r i=r j->i=j)
section
variable{n:Nat}{p:Array Nat}{r:Nat->Nat}{Bg:Nat->Nat->(Bool->AM->Prop)->AM->Prop}{s:AM}
def FC.eo(h:FC n p):p.size=n:=Wt.symm^h.1.length_eq.trans Gy
def fB{k:Nat}(Ax:k<p.size):p.getD k 0=p.toList[k]'Ax:=dif_pos Ax
def FC.lt(h:FC n p){k:Nat}(Ax:k<n):p.getD k 0<n:=
 fB (h.eo▸Ax:k<p.size)⊂cU (h.1.mem_iff.mp<|SW _)
def FC.inj(h:FC n p){i j:Nat}(a:i<n)(b:j<n)(e:p.getD i 0=p.getD j 0):i=j:=
 (tl<|h.1.nodup_iff.mpr Z0).mp ((fB (rwr h.eo a:i<p.size)).symm^e.trans (fB (rwr h.eo b:j<p.size)))
def gQ{q:Array Nat}{k j:Nat}(e:p[k]?=q[j]?):DX r p k=DX r q j:=ah r (Ajh ..^(ah (tm · 0) e).trans (Ajh ..).symm)
def RS.at(H:RS n r Bg s)(h:FC n p){i j:Nat}(a:i<n)(b:j<n)(c:i≠j){C:Bool->AM->Prop}(d:DX r p i<DX r p j->C Y s)(f:DX r p j<DX r p i->C Ab s):Bg (p.getD i 0) (p.getD j 0) C s:=by
 calc H.1 _ _ _ (h.lt a) (h.lt b) ?_;by_cases q:DX r p i<DX r p j;·exact aJ q⊂d q
 ·calc decide_eq_false q⊂f (SX (Mn q) λe=>c<|h.inj a b (H.2 _ _ (h.lt b) (h.lt a) e).symm)
variable(H:RS (n+1) r Bg s)
include H
def iq(h:FC (n+1) p){Q:Nat->AM->Prop}:∀(f a:Nat),a+f=n->Hw (DX r p) (a+1)->(∀m,m<=n->Hw (DX r p) (m+1)->(m<n->DX r p (m+1)<DX r p m)->Q (m+1) s)->(kas_asc p f<|a+1).kasWp Bg Q s
 |0=>λa b d q=>q a (Di b) d λz=>ar z<|b∣Hq _|f+1=>λa b d q=>
  have lt:=b∣Pm (F0 f)
  H.at h (Wx lt) (I1 lt) (Wu a) (λc=>q a (BY lt) d λZ=>c) λc=>iq h f (a+1) (tn a f^b) (d.aU c) q
def nF(h:FC (n+1) p){Q:Array Nat×Nat×Nat->AM->Prop}:∀(f a:Nat),a+f=n->Tu (DX r p) (a+1)->(∀m,m<=n->Tu (DX r p) (m+1)->Q (p,m+1,0) s)->(kas_desc f p (a+1) 0).kasWp Bg Q s
 |0=>λa b e q=>q a (Di b) e|f+1=>λa b e q=>
  have lt:=b∣Pm (F0 f);have bG:=Wx lt;have g:=I1 lt
  H.at h bG g (Wu a) (λc=>nF h f (a+1) (tn a f^b) (e.aU c) q) λc=>H.at h g bG (Wu a).symm (λZ=>q a (BY lt) e) λd=>ar (DQ c d)<|Hq _
omit H
def nG(h:FC n p){m k:Nat}(a:m<n)(Ax:k<=m):DX r (kas_rev p 0<|m+1) k=DX r p (m-k):=gQ<|getElem?_mirror_all (h.eo⊂a) k^(ao {C9 k,Iu Ax}).trans (by rw[EV,kk])
def xZ(h:FC n p){m:Nat}(a:m<n)(d:Tu (DX r p) (m+1)):Hw (DX r<|kas_rev p 0<|m+1) (m+1):=λi b=>by have lt:=MU b;rw[nG h a lt,nG h a<|BY lt];have e:m-i=m-(i+1)+1:=(Nat.succ_pred<|Nat.sub_ne_zero_of_lt lt).symm;rw[e];calc d _<|e∣Iu (QC m i)
def FC.a7(h:FC n p)(j:Nat):FC n (kas_rev p 0 j):=⟨(Aji.mp<|mirror_perm p 0 j _).trans h.1⟩
include H
def xY(h:FC (n+1) p){Q:Nat×Array Nat->AM->Prop}(q:∀m b,FC (n+1) b->m<=n->Hw (DX r b) (m+1)->Q (m+1,b) s):(kas_count (n+1) p).kasWp Bg Q s:=by
 rw[KasT.kasWp_bind];calc iq H h n 0 (EV n) (λi d=>ar (MU d)<|I2 i) λm a z w=>?_;by_cases e:(m+1==n+1)=Y
 ·rw[ao e];exact q m p h a z
 ·rw[ai e];cases m using Nat.casesOn with
  |succ m=>
   rw[ao<|Wx<|F0 m];calc H.at h (F0 n) (Iu a) (kl m).symm (λZ=>q (m+1) p h a z) λc=>ar (DQ c<|z.lt _ (F0 m)<|EM _)<|Hq _
  |zero=>
   have f:0<n:=AiJ λz=>e (by rw[z];rfl);rw[ai<|Hq 1];rw[KasT.kasWp_bind];calc nF H h _ 1 (by rw[Ajj];calc MV f) (Tu.aU (λi d=>ar (MU d)<|I2 i)<|w f) λj g c=>?_;rw[ai<|Hq 0];rw[KasT.kasWp_bind];calc iq H (h.a7 _) _ j (by rw[Ajj];calc MV g) (xZ h (Iu g) c) λm a z Z=>q m _ (h.a7 _) a z
omit H
def xU{l m f:Nat}(h:l<m)(c:m<=l+(f+1)):l<=(l+m)/2/\(l+m)/2<m/\(l+m)/2<=l+f/\m<=(l+m)/2+1+f:=
 have a:=(Nat.le_div_iff_mul_le ∅).mpr<|Nat.mul_two l▸Du (BY h) l;have b:=(Nat.div_lt_iff_lt_mul ∅).mpr (Nat.mul_two m▸Z1 h m)
 {a,b,Mm<|Cw b c,c\(G8 a _\Di (ah ((l+m)/2+·) (FO f 1)^(El _ 1 f).symm))}
def Ju(F:Nat->Nat)(k l m:Nat):Prop:=Em
 (∀i,i<l->F i<F k)
 (∀i,m<=i->i<k->F k<F i)
include H
def ir(h:FC (n+1) p){k:Nat}(Ax:k<n+1)(d:Hw (DX r p) k){Q:Nat->AM->Prop}(q:∀l,l<=k->Ju (DX r p) k l l->Q l s):∀(f l m:Nat),l<=m->m<=k->m<=l+f->Ju (DX r p) k l m->(kas_place p k f l m).kasWp Bg Q s
 |0=>λl m c b o a=>have e:m=l:=Qy o c;q l (e∣b) (e▸a)|f+1=>λl m p b o a=>by
  unfold kas_place;by_cases e:l≥m;·rw[ao e];exact have e:=Qy e p;q l (e∣b) (e▸a)
  ·rw[ai e];have w:=xU (Ajk e) o;generalize(l+m)/2=c at w⊢;have j:=Cw w.2.1 b;calc H.at h Ax (DQ j Ax) (Ha j) (λg=>ir h Ax d q f l c w.1 (BY j) w.2.2.1 {a.1,λi x y=>(Ajg x).elim (λx=>DQ g<|d.lt i x y) λx=>x∣g}) λg=>ir h Ax d q f (c+1) m w.2.1 b w.2.2.2 {λi x=>(fA x).elim (λx=>DQ (d.lt c x j) g) λx=>x⊂g,a.2}
omit H
def nH(h:FC n p){k l:Nat}(Ax:k<n)(a:l<=k)(j:Nat):DX r (bubble p k<|k-l) j=if j=l then DX r p k else if l<j/\j<=k then DX r p (j-1) else DX r p j:=by
 clear n p r k l j _ h Ax a;have e:=getElem?_bubble (h.eo⊂Ax) (k-l) (QC k l) j;rw[Nat.sub_sub_self a] at e;by_cases x:j=l;·rw[ao x] at e⊢;exact gQ e
 ·rw[ai x] at e⊢;by_cases y:l<j/\j<=k;·rw[ao y] at e⊢;exact gQ e
  ·rw[ai y] at e⊢;calc gQ e
def xV(h:FC n p){k l:Nat}(Ax:k<n)(a:l<=k)(b:Hw (DX r p) k)(w:Ju (DX r p) k l l):Hw (DX r<|bubble p k<|k-l) (k+1):=λi f=>by
 have lt:=MU f;rw[nH h Ax a,nH h Ax a];by_cases x:i=l;·rw[ao x,ai<|x▸Wu i,ao {x∣EM i,lt}];exact w.2 i (Di x.symm) lt
 ·rw[ai x];by_cases y:l<i;·rw[ao {y,BY lt},ai<|Ha<|I1 y,ao {I1 y,lt}];have e:=(Nat.succ_pred<|Ha<|DG (C9 l) y).symm;rw[e] at lt;exact(ah (DX r p (i-1)<DX r p ·) e).mpr<|b _ lt
  ·have z:=SX (Mn y) x;rw[ai λq=>y q.1];by_cases c:i+1=l;·rw[ao c];exact w.1 i z
   ·have d:=SX z c;rw[ai c,ai λq=>Nat.lt_asymm d q.1];calc b i<|Cw d a
include H
def nI{Q:Array Nat->AM->Prop}(q:∀b,FC (n+1) b->Hw (DX r b) (n+1)->Q b s):∀(f:Nat) (p:Array Nat) (k:Nat),FC (n+1) p->k+f=n+1->Hw (DX r p) k->(kas_bin f p k).kasWp Bg Q s
 |0=>λp k h e a=>q p h<|e∣a|f+1=>λp k h e a=>by have Ax:k<n+1:=e∣Pm (F0 f);rw[KasT.kasWp_bind];calc ir H h Ax a (λl c w=>nI q f _ (k+1) ⟨(Aji.mp<|bubble_perm p k _).trans h.1⟩ (tn k f^e)<|xV h Ax c a w) k 0 k (C9 _) (CE _) (Iv k 0) {λi x=>ar x<|I2 i,λi x y=>ar (Cw y x)<|Hq _}
def xJ{Q:Array Nat->AM->Prop}(q:∀a,FC (n+1) a->Hw (DX r a) (n+1)->Q a s):(kas_sort<|n+1).kasWp Bg Q s:=by
 rw[KasT.kasWp_bind];calc xY H ⟨.refl _⟩ λm a d b c=>?_;show KasT.kasWp Bg (if m+1<n+1 then kas_bin (n+1-max (m+1) 1) a (max (m+1) 1) else KasT.ret a) Q s;by_cases e:m+1<n+1
 ·rw[ao e,Nat.max_eq_left<|F0 m];exact nI H q _ _ _ d (MV<|BY e) c
 ·rw[ai e];calc q a d<|Qy b (Mn λz=>e<|Wx z)∣c
end
def Gj:-Nat->↑Nat->Bool
 |_,[]=>Ab|[],_::_=>Y|x::a,y::b=>if x=y then Gj a b else decide (x<y)
inductive Lz:-Aw->↑Nat->Prop
 |nil:Lz [] []
 |cons {n:Nat} {t:Tok} {Ae:-Aw} {ns:-Nat} (h:Lz Ae ns):Lz (.int (n:Int) t::Ae) (n::ns)
section
variable{prog:Gu}{w:FH}{A:EI}{E:Aw->AM->Prop}{s:AM}
def nL:Gj (k::x) (k::y)=Gj x y:=ao rfl
def nM(h:j≠k):Gj (j::x) (k::y)=decide (j<k):=ai h
def xO{xs Al:-Aw}{x y:-Nat}(b:Lz xs x)(a:Lz Al y):List.zip xs Al=[]->Gj x y=decide (J xs<J Al):=by
 cases b with
 |nil=>
  cases a with
  |nil=>calcλZ=>rfl|cons=>calcλZ=>(aJ<|F0 _).symm
 |cons=>
  cases a with
  |nil=>calcλZ=>(decide_eq_false<|I2 _).symm|cons=>calcλe=>ar e<|Wy _ _
def YI(x y:-Nat)(d:Bool)(rest:-(Aw×Aw))(xs Al:-Aw)(Bj a:-Nat):Prop:=Mo
 (rest=List.zip xs Al)
 (Lz xs Bj)
 (Lz Al a)
 (Gj Bj a=Gj x y)
 (decide (J xs<J Al)=d)
def YI.aX{G:Prop}(I:YI x y d ((u,v)::rest) xs Al Bj a)(k:∀(m n:Nat) t t',u=.int m t->v=.int n t'->(m=n->∃xs Al Bj a,YI x y d rest xs Al Bj a)->(m≠n->Gj x y=decide (m<n))->G):G:=by
 obtain⟨e,b,c,f,len⟩:=I;cases (b)with
 |nil=>delta e|@cons m t xs Bj b=>cases (c)with
  |nil=>delta e|@cons n t' Al a c=>
   have e:=Ge e;have AW:=Prod.mk.inj e.1;calc k m n t t' AW.1 AW.2 (λq=>{xs,Al,Bj,a,e.2,b,c,by rw[<-f,q];calc nL.symm,(cX Ajl).symm^len}) λq=>f.symm^nM q
def W0(h:BX)(v:Aw)(k:-Nat):Prop:=∃a BW,v=.ref a/\HH h a BW/\Lz BW.toList k
def nN{a b:As}{xs Al:Array Aw}{P:PySem.Fin->AM->Prop}(j:HH s.heap a xs)(l:Lz xs.toList x)(o:HH s.heap b Al)(p:Lz Al.toList y)(h:P (.done (.ret<|.bool<|Gj x y)) s):
  Ba (BK prog w) A (Builtin.«tuple.__lt__» {[.ref a,.ref b],[]}) P E s:=by
 clear prog w A E s x _ y a b xs Al P _ j l o p h;exact aE j λG B H e=>aE o λC q D f=>ak e λL e=>ak f λnb f=>by
  show Ba _ _ (isInstance (.ref b) (.type "tuple")>>=_) _ _ s;calc AL<|Vg {C,q,D} isSubtype_tuple_tuple ?_;calc AL<|wpAny_tupleItemsOf B e<|AL<|wpAny_tupleItemsOf q f<|AL ?_;refine wpAny_forIn_list _ (λa r b=>r.1=Ai/\b=s/\∃g M8 Bj i,YI x y (decide<|xs.size<Al.size) a g M8 Bj i) _ ?_ ?_ _ _ {rfl,rfl,xs.toList,Al.toList,x,y,rfl,l,p,rfl,rfl}
  ·rintro ⟨u,v⟩ rest r s' ⟨d,rfl,g,M8,Bj,i,I⟩
   calc I.aX λm n t t' AW A3 DT DW=>?_;rw[AW,A3];calc AL<|sD ?_;by_cases Ax:m=n
   ·rw[show((m:Int)==n)=Y from beq_iff_eq.mpr<|ah Hc Ax];exact Bn {rfl,rfl,DT Ax}
   ·rw[show((m:Int)==n)=Ab from beq_eq_false_iff_ne.mpr λz=>Ax<|Vv.mp z];rw[DW Ax,show decide (m<n)=decide ((m:Int)<n) from cX Nx.symm] at h;exact AL<|SP<|AL<|PyProof.Rows.lt_int<|AL<|Bn<|Bn<|Bn h
  ·rintro ⟨F,DZ⟩ s' ⟨d,rfl,g,M8,Bj,i,I⟩
   have d:F=Ai:=d;subst d;calc Bn<|(ah (λc=>P (.done (.ret<|.bool c)) s')<|I.5.symm^(xO I.2 I.3 I.1.symm).symm.trans I.4).mpr h
def nP(g:A.units<IJ)(c:Bool)(d:HH s.heap a xs)(i:Lz xs.toList x)(f:HH s.heap b Al)(j:Lz Al.toList y)(h:Q (Gj x y) s):
  Ba (BK prog w) A (oneLt' c (.ref a)<|.ref b) Q E s:=by
 cases c with
 |false=>calc kat_one _ _<|Ajf (op:=.Lt) (IsTup.typeIs d) (IsTup.typeIs f) PySem.F.slot_tuple_lt (MY PySem.F.slot_tuple_lt (IsTup.typeIs d) PySem.F.entry_tuple_lt (nN d i f j {_,rfl,λe=>(nomatch e),h})<|PySem.F.args_tuple_lt_2 _ _) g|true=>
  rw[oneLt'_eq];simp only [if_true];calc AL<|wpAny_cRoomFor_or (.inr g) ?_;calc AL<|wpAny_callSpecialIfBound?_slot (IsTup.typeIs d) PySem.F.slot_tuple_lt<|MY PySem.F.slot_tuple_lt (IsTup.typeIs d) PySem.F.entry_tuple_lt (nN d i f j {_,rfl,SE h})<|PySem.F.args_tuple_lt_2 _ _
end
section
variable{s:AM}
def x1{xs:-Aw}{x:-Nat}(c:Lz xs x):∀{Al:-Aw} {y:-Nat} {i:Nat},Lz Al y->Q (Gj x y) s->KatLex prog w A b (decide<|J xs<J Al) Q (xs.zip Al) i s:=by
 cases c with
 |nil=>
  intro Al y i a q;cases a with
  |nil=>calc q|cons=>calc q
 |@cons m t xs x c d=>
  intro Al y i a q;cases a with
  |nil=>calc q|@cons n t' Al y a=>
   calc kat_cons<|sD ?_;rw[show decide ((sC m t::xs).length<(sC n t'::Al).length)=decide (J xs<J Al) from cX Ajl];by_cases e:m=n;·rw[e] at q⊢;rw[nL] at q;rw[show((n:Int)==n)=Y from beq_iff_eq.mpr rfl];exact kat_yes<|d a q
   ·rw[nM e,show decide (m<n)=decide ((m:Int)<n) from cX Nx.symm] at q;rw[show((m:Int)==n)=Ab from beq_eq_false_iff_ne.mpr λz=>e<|Vv.mp z];calc kat_no ?_;cases(b&&i==0) with
    |true=>calc oneLt_int q|false=>calc kat_one _ _<|PyProof.Rows.lt_int q
inductive W2:SortKind->Prop
 |Jv:W2 general'
 |nQ:W2 oneType'
 |nR (b:Bool):W2 (tuples' b)
def x2(o:W2 p)(m:A.units<IJ)(d:W0 s.heap u x)(f:W0 s.heap v y)(h:Q (Gj x y) s):Ba (BK prog w) A (keyLt' p u v) Q E s:=a8 d λa p e g d=>a8 f λb a p i f=>by
 rw[e,p];cases o with
 |Jv=>calc nP m Ab g d i f h|nQ=>calc nP m Y g d i f h|nR c=>calc aE g λt q z j=>aE i λB r C l=>ak j λD j=>ak l λa l=>kat_lt q j r l<|x1 d f h
def iu{P:β->Prop}:∀(l:-α) {Q:-β->AM->Prop},(∀v∈l,∀(DH:β->AM->Prop),(∀b,P b->DH b s)->Ba M A (f v) DH E s)->(∀bs,(∀b∈bs,P b)->Q bs s)->Ba M A (l.mapM f) Q E s
 |[],_,_=>λh=>by rw[List.mapM_nil];calc Bn<|h [] λZ q=>ar q CR|v::l,Q,A8=>λh=>by rw[List.mapM_cons];calc AL<|A8 v (.head _) _ λb d=>AL<|iu l (λu a=>A8 u<|.tail _ a) λa c=>Bn<|h (b::a)<|b9 {d,c}
def nS(h:W0 s.heap v k)(q:Q (.type "tuple") s):Ba M A (typeOf v) Q E s:=a8 h λa d e b Z=>aE b λo c b Z=>by rw[e];calc(show Looks M s.heap (typeOf<|.ref a) o.cls from(Looks.ld c).andThen .now).here (by rw[b];calc q)
def nT{Ae:-Aw}(a:∀v∈Ae,∀DH:Aw->AM->Prop,(∀T,DH T s)->Ba M A (typeOf v) DH E s)(h:∀o,Q o s):Ba M A (oneTypeOnly' Ae.toArray) Q E s:=by
 rw[oneTypeOnly'_eq,Ajm,map_eq_pure_bind];refine AL<|AL<|iu _ (λv b c q=>a v b c λT=>q T trivial) λbs Z=>Bn ?_
 split<;>calc Bn<|h _
def x3(h:W0 s.heap v k)(q:∀b:↥Aw,(∀x,b=U x->∃n t,x=.int n t)->Q b s):Ba M A (firstOfTuple' v) Q E s:=by
 rw[kas_first_eq];calc AL<|nS h ?_;rw[ai ∅];calc a8 h λa b e g f=>aE g λo i a d=>ak d λn d=>e▸AL (listItems_at i d (Bn (q _ λx c=>by
  rw[<-kd] at c;generalize b.toList=l at f c;cases (f)with
  |nil=>delta c|cons _=>calc {_,_,(BQ c).symm})))
def x4{Ae:-Aw}(a:∀v∈Ae,∃k,W0 s.heap v k)(h:∀b,W2 b->Q b s):Ba M A (Vw Ae.toArray) Q E s:=by
 rw[keyKind'_eq,Ajm,map_eq_pure_bind];refine AL<|AL<|iu _ (λv b c q=>ak (a v b) λk T=>x3 T q) λbs c=>Bn ?_
 split
 ·calc AL<|SP ?_;rw[List.filterMap_toArray];exact AL<|nT (λv a b q=>ae (Wh.mp a) λy d e=>a4 (c y d v e) λn t e=>e⊂Bn (q _)) λo=>Bn<|h _<|.nR _
 ·split
  ·exact Bn<|h _ .Jv
  ·calc AL<|nT (λv b c q=>ak (a v b) λk T=>nS T<|q _) λo=>Bn<|h _ ?_;cases o with
   |none=>calc .Jv|some _=>calc .nQ
end
def eV{ag:-α}(h:i<J ag):ag.getD i d=ag[i]:=CO.trans (ah (tm · d) (Dv h)^rfl)
def nW{α:Type}(ag:-α)(d:α):(Cg<|J ag).map (λi=>ag.getD i d)=ag:=Z2 (Bq _^Gy) λi b a=>WC _^(ah (ag.getD · d)<|Z3 _).trans (eV a)
def x5(Ag:1<=n)(H:RS n r Bg s)(q:∀a,FC n a->Hw (DX r a) n->Q a s):(kas_sort n).kasWp Bg Q s:=by
 cases n using Nat.casesOn with
 |zero=>cases Ag|succ n=>calc xJ H q
section
variable{prog:Gu}{w:FH}{A:EI}{E:Aw->AM->Prop}{s:AM}{Ae:-Aw}
def x6(d:s.heap.get? a=U (H7 "list" Ae.toArray n))(g:J Ae<2)
  (h:∀Ay c,Ay.get? a=U (H7 "list" Ae.toArray c)->(∀b o,b≠a->s.heap.get? b=U o->Ay.get? b=U o)->P (.done (.ret .none)) {s with heap:=Ay}):
  Ba (BK prog w) A (Builtin.«list.sort» {[.ref a],[]}) P E s:=by
 clear prog w A E s Ae a n P _ d g h;have f:=LX.symm▸g;have i:∀n,n<2->n<=H5:=λn h=>BY h\(by rw[Qt];decide);rw[list_sort_plain];have l:=Gv d;calc AL<|listItems_at d rfl ?_;calc AL<|listUpdate_at d rfl ?_ (i _ f) (C9 _);obtain⟨AW,m⟩:∃AW,(s.heap.update a<|Obj.mapSeq λZ=>#[]).get? a=U (H7 "list" #[] AW):={_,get?_update_seq d λZ=>#[]}
 calc AL<|seqEpoch_at m rfl ?_;calc AL<|wpAny_newTuple ?_<|i _ g;calc AL<|wpAny_newList ?_<|C9 _;calc Lp ?_;have j:(((s.heap.update a<|Obj.mapSeq λZ=>#[]).push<|H7 "tuple" Ae.toArray 0).push<|H7 "list" #[] 0).get? a=U (H7 "list" #[] AW):=by rw[ku _ _ _ (by rw[size_push',tp];calc EX<|I1 l),ku _ _ _ (by rw[tp];calc EX l)];exact m
 show Ba (BK prog w) A _ P E {s with heap:=((s.heap.update a<|Obj.mapSeq λZ=>#[]).push<|H7 "tuple" Ae.toArray 0).push<|H7 "list" #[] 0};dsimp only;rw[ao f,ao f];calc AL<|Bn ?_;rw[StateT.run_pure];calc AL<|Bn ?_;dsimp only;calc AL<|seqEpoch_at j rfl ?_;have A3:(arrOf<|SortSt.mk' general' (Ae.toArray.zip Ae.toArray) #[] 7 Ai).map (·.2)=Ae.toArray:=by show(Ae.toArray.zip Ae.toArray).map (·.2)=Ae.toArray;rw[List.zip_toArray,List.map_toArray];exact ah th<|List.map_snd_zip<|CE _
 rw[A3];calc AL<|listUpdate_at j rfl ?_ (C9 _) (Ml<|i _ f);simp only [bne_self_eq_false,X0,if_false];calc Bn<|h _ _ (get?_update_seq j λZ=>Ae.toArray) λb o p e=>?_;rw[Vx _ _ _ _ p];calc D9 _<|D9 _ ?_;rw[Vx _ _ _ _ p];calc e
def nX(F:Fr d L s.heap m)(N:News d L s.heap news)(j:s.heap.get? D=U (H7 "list" Ae.toArray c))(l:D≠L)(q:d.get? D=Ai)(t:∀p∈news,p.1≠D)(y:J Ae<64)(W:A.units+10<IJ)
  (H:∀(u:EI) (s':AM),2<=J Ae->u.units<=A.units+1->Fr d L s'.heap m->News d L s'.heap news->Ba (BK prog w) u (Vw Ae.toArray) (λx a=>a=s'/\RS (J Ae) r (kas_ask prog w u x Ae) s') (λZ Z=>False) s')
  (h:∀Ay f p,FC (J Ae) p->Hw (DX r p) (J Ae)->Fr d L Ay m->News d L Ay ((D,H7 "list" (p.toList.map λi=>Ae.getD i Pf).toArray f)::news)->Q .none {s with heap:=Ay}):
  Ba (BK prog w) A (Iq (.builtin "list.sort") [.ref D]) Q E s:=by
 calc MY slot_list_sort {_,j,rfl} entry_list_sort ?_<|args_list_sort _;by_cases g:J Ae<2
 ·refine x6 j g λAy f B keep=>{_,rfl,?_}
  refine h Ay f (th<|Cg<|J Ae) ⟨.refl _⟩ (λi G=>ar (Cw G<|Mm g)<|bz<|Iv 1 i) {?_,λb o e=>keep b o (λz=>by rw[z,q] at e;delta e)<|F.keep b o e,F.above} λp a=>?_
  ·exact dV F.ns λo a I b c d=>{o,a,I,keep _ _ l.symm b,c,d}
  ·rcases aK a with rfl|a
   ·calc {?_,l,q};rw[<-((nW Ae .none).symm)];exact B
   ·exact {keep _ _ (t p a) (N p a).1,(N p a).2}
 ·calc kat_list_sort F N j l q t (bM g) y λAW Ay FA Ib=>CW (H A.in1 {s with heap:=Ay} (bM g) (CE _) FA λp a=>Ib p<|.tail _ a) (λx s' z=>?_) bu;obtain⟨rfl,C⟩:=z;calc x5 (SK<|Mn g) C λp a M=>KasFin.intro FA Ib (.head t) λP f R S=>⟨_,rfl,h P f p a M R S⟩
def x7(F:Fr a L s.heap m)(N:News a L s.heap news)(u:s.heap.IsList l Ae.toArray)(j:J Ae<64)(x:A.units+20<IJ)
  (H:∀(c:EI) (s':AM),2<=J Ae->c.units<=A.units+2->Fr a L s'.heap m->News a L s'.heap news->Ba (BK prog w) c (Vw Ae.toArray) (λy a=>a=s'/\RS (J Ae) r (kas_ask prog w c y Ae) s') (λZ Z=>False) s')
  (h:∀D Ay d p,FC (J Ae) p->Hw (DX r p) (J Ae)->Fr a L Ay m->News a L Ay ((D,H7 "list" (p.toList.map λi=>Ae.getD i Pf).toArray d)::news)->s.heap.get? D=Ai->Q (.ref D) {s with heap:=Ay}):
  Ba (BK prog w) A (Iq (.builtin "sorted") [.ref l]) Q E s:=by
 have hs:Ae.toArray.size<=H5:=BY (LX.symm▸j)\(by rw[Qt];decide);calc Calls.call_function_entry kind_sorted plain_sorted entry_sorted (args_sorted1 _)<|AL<|Bn ?_;calc AL<|collect_list u ?_ hs;calc AL<|wpAny_newList ?_ hs;have e:((s.heap.push<|H7 "list" #[] 0).update s.heap.objs.size (Obj.mapSeq (·++Ae.toArray))).objs.size=s.heap.objs.size+1:=by rw[tp,size_push']
 have z:(((s.heap.push<|H7 "list" #[] 0).update s.heap.objs.size (Obj.mapSeq (·++Ae.toArray))).push<|H7 "list" Ae.toArray 0).get? (s.heap.objs.size+1)=U (H7 "list" Ae.toArray 0):=by rw[<-e];exact Fn _ rfl
 have keep:∀b o,s.heap.get? b=U o->(((s.heap.push<|H7 "list" #[] 0).update s.heap.objs.size (Obj.mapSeq (·++Ae.toArray))).push<|H7 "list" Ae.toArray 0).get? b=U o:=λb o q=>by have f:b<s.heap.objs.size:=Gv q;rw[ku _ _ _ (by rw[e];calc EX<|I1 f),Vx _ _ _ _<|EX f,ku _ _ _<|EX f];exact q
 have t:=F.ns.lt;show Ba _ _ _ _ _ {s with heap:=((s.heap.push<|H7 "list" #[] 0).update s.heap.objs.size (Obj.mapSeq (·++Ae.toArray))).push<|H7 "list" Ae.toArray 0};rw[e];have EK:s.heap.get? (s.heap.objs.size+1)=Ai:=ZU<|Ex _;refine AL (Lp (nX
  (F.kept keep) (N.grown keep) z (Ha<|I1 t) (ZU<|F.above\Ml (BY t)) (λp g=>EX<|I1<|Gv (N p g).1)
  j (DG (Du (by decide:11<=20) A.units) x) (λc a B C b d=>H c a B C b d) λAy d p g G FA Ib=>?_))
 calc Bn {_,rfl,h _ Ay d p g G FA Ib EK}
end
def Ic{α:Type}(lt:α->α->Bool):Prop:=Dy
 (∀a,lt a a=Ab)
 (∀a b c,lt a b=Y->lt b c=Y->lt a c=Y)
 (∀a b,a≠b->lt a b=Y\/lt b a=Y)
def Tv{α:Type}(lt:α->α->Bool)(xs Al:-α):Prop:=Em
 (Al.Perm xs)
 (Al.Pairwise λa b=>lt a b=Y)
section
variable{lt:α->α->Bool}
def eJ(H:Ic lt):∀{l m:-α},l.Pairwise (λx y=>lt x y=Y)->m.Pairwise (λx y=>lt x y=Y)->l.Perm m->l=m
 |[],m=>λZ Z p=>by rw[List.nil_perm.mp p]|a::l,[]=>λZ Z p=>by have:=p.length_eq;simp at this|a::l,b::m=>λAg c p=>by
  calc aC (Vy.mp Ag) λd f=>aC (Vy.mp c) λg a3=>?_;have e:a=b:=by
   rcases aK (p.mem_iff.mp<|Z4 ..) with e|h
   ·exact e
   ·rcases aK (p.symm.mem_iff.mp (Z4 ..)) with e|Lu
    ·exact e.symm
    ·have:=H.2 _ _ _ (d b Lu)<|g a h;rw[H.1] at this;delta this
  subst e;rw[eJ H f a3 p.cons_inv]
end
def iv:Ic (λa b:Nat=>decide<|a<b):={λa=>decide_eq_false<|Hq a,λa b c e d=>aJ<|DQ (aL e)<|aL d,λa b h=>(Ajn h).imp aJ aJ}
def M9(a b:Str):Bool:=decide<|a.cps.toList<b.cps.toList
def fC:Ic M9:=⟨
 (λa=>decide_eq_false<|List.lt_irrefl _),
 (λa b c e d=>aJ<|List.lt_trans (aL e)<|aL d),
 (λa b h=>by
  by_cases q:a.cps.toList<b.cps.toList;·exact .inl<|aJ q
  ·calc .inr<|aJ<|Decidable.byContradiction λe=>h ?_;induction a;induction b;calc ah Str.mk<|sz.mp<|List.le_antisymm (List.not_lt.mp e)<|List.not_lt.mp q)⟩
def fD:Ic Gj:=⟨
 (λa=>by cases a with
  |nil=>rfl|cons x a f=>calc ao rfl^f),
 (λa=>by
  cases a with
  |nil=>
   intro b c Ag d;cases c using List.casesOn with
   |nil=>induction b<;>delta d|cons z c=>rfl
  |cons x a f=>
   intro b c Ag d;cases b using List.casesOn with
   |nil=>delta Ag|cons y b=>cases c using List.casesOn with
    |nil=>delta d|cons z c=>
     have Ag:(if x=y then Gj a b else decide (x<y))=Y:=Ag;have d:(if y=z then Gj b c else decide (y<z))=Y:=d;show(if x=z then Gj a c else decide (x<z))=Y;by_cases e:x=y
     ·by_cases A3:y=z;·rw[ao e] at Ag;rw[ao A3] at d;rw[ao<|e^A3];exact f _ _ Ag d
      ·rw[ai A3] at d;rw[e,ai A3];exact d
     ·rw[ai e] at Ag;by_cases A3:y=z;·rw[<-A3,ai e];exact Ag
      ·rw[ai A3] at d;have:=DQ (aL Ag)<|aL d;rw[ai<|EX this];calc aJ this),
 (λa=>by
  cases a with
  |nil=>intro b h;cases b using List.casesOn with
   |nil=>calc ar rfl h|cons y b=>calc .inl rfl
  |cons x a f=>
   intro b h;cases b using List.casesOn with
   |nil=>calc .inr rfl|cons y b=>
    show(if x=y then Gj a b else decide (x<y))=Y\/(if y=x then Gj b a else decide (y<x))=Y;by_cases e:x=y;·rw[ao e,ao e.symm];exact f b λz=>h<|by rw[z,e]
    ·rw[ai e,ai<|Ne.symm e];calc(Ajn e).imp aJ aJ)⟩
theorem Ic.NR{lt:β->β->Bool}(H:Ic lt)(f:α->β)(d:∀a b,f a=f b->a=b):Ic λa b=>lt (f a) (f b):={λa=>H.1 _,λa b c=>H.2 _ _ _,λa b h=>H.3 _ _ λz=>h<|d a b z}
section
variable{lt:α->α->Bool}
def NS(lt:α->α->Bool)(a:α):-α->↑α
 |[]=>[a]
 |b::l=>if lt a b=Y then a::b::l else b::NS lt a l
def NT(lt:α->α->Bool):-α->↑α
 |[]=>[]
 |a::l=>NS lt a<|NT lt l
def nK:NS lt a (b::l)=if lt a b=Y then a::b::l else b::NS lt a l:=rfl
def iw(a:α):∀l,(NS lt a l).Perm (a::l)
 |[]=>.refl _|b::l=>by
  rw[nK]
  split
  ·exact .refl _
  ·calc((iw a l).cons b).trans<|.swap a b l
def gR:∀l:-α,(NT lt l).Perm l
 |[]=>.refl _|a::l=>(iw a _).trans<|(gR l).cons a
def nZ(H:Ic lt)(a:α):∀l:-α,a∉l->l.Pairwise (λx y=>lt x y=Y)->(NS lt a l).Pairwise (λx y=>lt x y=Y)
 |[]=>λZ Z=>ZT _ _|b::l=>λf g=>by
  calc aC (Vy.mp g) λAg h=>?_;rw[nK]
  split
  ·rename_i q;exact Vy.mpr {λy c=>(aK c).elim (λe=>e⊂q) λc=>H.2 _ _ _ q<|Ag y c,g}
  ·rename_i q;calc Vy.mpr {λy c=>?_,nZ H a l (λz=>f<|.tail _ z) h};rcases aK ((iw a l).mem_iff.mp c) with rfl|c
   ·exact(H.3 _ _ λe=>f (by rw[e];calc Z4)).resolve_left q
   ·calc Ag y c
def ix(H:Ic lt):∀l:-α,l.Nodup->(NT lt l).Pairwise (λx y=>lt x y=Y)
 |[]=>λZ=>.nil|a::l=>λb=>by calc aC (du b) λb c=>nZ H a _ (λz=>b<|(gR l).mem_iff.mp z)<|ix H l c
def nY{bR:β->β->Bool}(h:∀a b,bR (e a) (e b)=lt a b)(a:α):∀l:-α,NS bR (e a) (l.map e)=(NS lt a l).map e
 |[]=>rfl|b::l=>by
  show(if bR (e a) (e b)=Y then e a::e b::l.map e else e b::NS bR (e a) (l.map e))=Hs e (if lt a b=Y then a::b::l else b::NS lt a l);rw[h,nY h a l]
  split<;>rfl
def nU{bR:β->β->Bool}(h:∀a b,bR (e a) (e b)=lt a b):∀l:-α,NT bR (l.map e)=(NT lt l).map e
 |[]=>rfl|a::l=>by show NS bR (e a) (NT bR<|l.map e)=_;rw[nU h l];calc nY h a _
def RT(lt:α->α->Bool)(l:-α)(a:α):Nat:=l.countP λb=>lt b a
def iy(H:Ic lt)(h:lt x y=Y):∀m:-α,(x∈m->RT lt m x<RT lt m y)/\RT lt m x<=RT lt m y
 |[]=>{c3,CE _}
 |c::m=>by
  have a:=iy H h m;unfold RT at a⊢;rw[WD,WD];have i:(if lt c x=Y then 1 else 0)<=(if lt c y=Y then 1 else 0):=by
   by_cases z:lt c x=Y;·rw[ao z,ao<|H.2 _ _ _ z h];exact CE _
   ·rw[ai z];exact C9 _
  calc {λb=>?_,EL a.2 i};rcases aK b with rfl|b
  ·rw[H.1,h];exact Iu a.2
  ·calc Nat.add_lt_add_of_lt_of_le (a.1 b) i
def x8(H:Ic lt)(c:a∈l):lt a b=decide (RT lt l a<RT lt l b):=by
 by_cases q:lt a b=Y;·rw[q,aJ<|(iy H q l).1 c]
 ·rw[QA.mpr q,decide_eq_false];intro z;by_cases e:a=b;·exact Hq _<|e▸z
  ·calc X5.mpr z (iy H ((H.3 a b e).resolve_left q) l).2
variable{d:α}
def RW(lt:α->α->Bool)(ag:-α)(d:α)(i:Nat):Nat:=RT lt ag<|ag.getD i d
def gS(H:Ic lt)(a:i<J ag):decide (RW lt ag d i<RW lt ag d j)=lt (ag.getD i d) (ag.getD j d):=(x8 H<|eV a▸SW a).symm
def x9(H:Ic lt)(ab:ag.Nodup)(A4:∀i j C,i<J ag->j<J ag->C (lt (ag.getD i d)<|ag.getD j d) s->Bg i j C s):RS (J ag) (RW lt ag d) Bg s:=⟨
 (λi j C a b q=>A4 i j C a b (by rw[<-gS H a];calc q)),
 (λi j a b e=>sv λc=>by
  rcases H.3 (ag.getD i d) (ag.getD j d) (λz=>c<|(tl ab).mp<|(eV a).symm^z.trans (eV b)) with z|z
  ·rw[<-gS H a] at z;exact Hq _<|e▸aL z
  ·rw[<-gS H b] at z;calc Hq _<|e▸aL z)⟩
def ya(H:Ic lt)(ab:ag.Nodup)(a:FC (J ag) p)(f:Hw (DX (RW lt ag d) p) (J ag)):p.toList.map (λi=>ag.getD i d)=NT lt ag:=by
 calc eJ H ?_ (ix H ag ab) ?_;·rw[List.pairwise_iff_getElem];intro i j b c g;rw[Bq,Wt] at b c;have e:=f.lt j g<|a.eo∣c;unfold DX at e;have z:=gS (d:=d) H (i:=p.getD i 0) (j:=p.getD j 0)<|a.lt<|a.eo∣b;rw[aJ e] at z;rw[WC,WC];rw[fB b,fB c] at z;exact z.symm
 ·have:=a.1.map λi=>ag.getD i d;rw[nW ag d] at this;calc this.trans (gR ag).symm
end
structure KR where
 α:Type
 d:α
 lt:α->α->Bool
 ok:Ic lt
 f:α->T
 no:∀a,(f a).EO=Y
 a5:∀a,(f a).Fc=Y
 Is:BX->Aw->α->Prop
 WJ:∀{Aa:C0} {M:As->Prop} {h:BX} {a:α} {v:Aw} {g:-As},A9 Aa M h (f a) v g->Is h v a
 DR:SortKind->Prop
 Hf:∀{prog:Gu} {w:FH} {A:EI} {s:AM} {Ae:-Aw} {Q:SortKind->AM->Prop},2<=J Ae->(∀v∈Ae,∃a,Is s.heap v a)->(∀c,DR c->Q c s)->Ba (BK prog w) A (Vw Ae.toArray) Q (λZ Z=>False) s
 Bg:∀{prog:Gu} {w:FH} {A:EI} {s:AM} {c:SortKind} {u v:Aw} {a b:α} {C:Bool->AM->Prop},DR c->A.units<IJ->Is s.heap u a->Is s.heap v b->C (lt a b) s->Ba (BK prog w) A (keyLt' c u v) C (λZ Z=>False) s
section
variable{K:KR}{ag:-K.α}
def nV(y:Bl Aa M h (ag.map K.f) Ae f)(a:i<J ag):∃g,A9 Aa M h (K.f<|ag.getD i K.d) (Ae.getD i .none) g:=
 a8 (y.Cq (by rw[Gw,Dv a,eV a];rfl)) λv g e q Z=>{g,(show Ae.getD i .none=v by rw[CO,e];rfl)⊂q}
def gT(y:Bl Aa M h (ag.map K.f) Ae f):J Ae=J ag:=y.bo^Bq _
def nJ(ab:ag.Nodup)(c:2<=J Ae)(l:A.units<IJ)(y:Bl Aa M s.heap (ag.map K.f) Ae f):Ba (BK prog w) A (Vw Ae.toArray) (λb a=>a=s/\RS (J Ae) (RW K.lt ag K.d) (kas_ask prog w A b Ae) s) (λZ Z=>False) s:=by
 have is:∀i,i<J ag->K.Is s.heap (Ae.getD i .none) (ag.getD i K.d):=λi a=>ak (nV y a) λg q=>K.WJ q;refine K.Hf c (λv b=>ak (Pn b) λi h=>ak h λa e=>{_,e▸eV a▸is i (gT y▸a)}) λb m=>{rfl,?_}
 rw[gT y];calc x9 K.ok ab λi j C a o q=>K.Bg m l (is i a) (is j o) q
def nO(y:Bl Aa M h (ag.map K.f) Ae f):∀l:-Nat,(∀i∈l,i<J ag)->∀Df:As->Prop,Bl Aa Df h ((l.map λi=>ag.getD i K.d).map K.f) (l.map λi=>Ae.getD i .none) []
 |[]=>λZ Z=>{rfl,rfl}
 |i::l=>λa c=>ak (nV y<|a i<|.head _) λg q=>{{_,_,[],[]},{rfl,rfl},A9.c5 _ (K.a5 _)<|A9.cI _ (K.no _) q∣q,nO y l (λj b=>a j<|.tail _ b) c}
variable{z:A5}
def n0(S:Aa3 z s0 s)(KK:IA z s {s with heap:=Ay,toks:=tk})(y:Bl z.Aa M s.heap (ag.map K.f) Ae f)(ab:ag.Nodup)(a:FC (J ag) p)(b:Hw (DX (RW K.lt ag K.d) p) (J ag))(EK:Ay.get? D=U (H7 "list" (p.toList.map λi=>Ae.getD i Pf).toArray g))(c:s.heap.get? D=Ai)(q:Q (.Bo Y<|(NT K.lt ag).map K.f) .AU):Rz z s0 s Q (.ref D) {s with heap:=Ay,toks:=tk}:=by rw[<-ya K.ok ab a b] at q;calc {_,_,q,KK,(Dc.aW _ (nO y _ λi e=>cU<|a.1.mem_iff.mp e):Dc z s0.heap s.heap ((p.toList.map λi=>ag.getD i K.d).map K.f) (Fe Ab) (p.toList.map λi=>Ae.getD i .none)).dP S.1 KK S.2 S.3 {_,EK} c}
def yb(ab:ag.Nodup)(h:J ag<64)(q:Q (.Bo Y<|(NT K.lt ag).map K.f) .AU):Mz z (.builtin "sorted") (.Bo o<|ag.map K.f) m Q:=λs0 s v S y=>
 a6 y.Dg λn AW Ax y Z=>aE S.1.eN λl F N keep=>ae y λf c Z=>by have e:=gT c;rw[AW];calc x7 (r:=RW K.lt ag K.d) F N (show s.heap.IsList n.a n.Ae.toArray from Heap.PlainList.isList Ax) (e⊂h) (z.bw (n:=20) ∅) (λt a i j c d=>ae (y.bg S.1 (S.1.bp<|keep (tk:=s.toks) c d λp b=>b).1 S.2) λZ y Z=>nJ ab i (DG j<|z.bw ∅) y) λD Ay u p b g FA Ib EK=>?_;rw[e] at b g;calc n0 S (keep FA Ib λp b=>.tail _ b) c ab b g (Ib _<|.head _).1 EK q
def yc(e:CB.map BE.Hu=ag.map K.f)(ab:ag.Nodup)(g:J ag<64)(q:Q (.Bo Y<|(NT K.lt ag).map K.f) .AU):Mz z (.builtin "sorted") (.ab (.Dh CB) o Av) m Q:=λs0 s v S y=>
 a6 y.Dg λn AW Ax Z Z=>Eo.raw (Rk Ax) λAE P EK w b=>aE S.1.eN λR F N keep=>by
  have x:AE.size=J ag:=w^(Bq (as:=CB) BE.Hu).symm.trans ((ah J e).trans<|Bq _);have b:=b z.M;rw[e] at b;have B:AE.size<=H5:=by rw[x,Qt];exact BY g\∅
  rw[AW];calc kdu_sorted (lu<|Z5 Ax) z.V.Eb.1 F N EK B λD Ay tk Ae FA Ib j C A8=>?_;have E:Ae=AE.toList.map (·.key):=lx (ay:=Ae.toArray) {LX^C,λi v h=>A8 i v<|Wm.symm.trans h};rw[<-E] at b;have l:=gT b;have c:=Ib _<|.head _;have HX:s.heap.get? D=Ai:=by
   cases q:s.heap.get? D with
   |none=>rfl|some o=>exact ar (j (D,o)<|gq.mpr {q,c.2.1,c.2.2})<|Hq _
  calc nX (r:=RW K.lt ag K.d) (A:=z.V.A.in1) (s:={s with heap:=Ay,toks:=tk}) (news:=Yo s.heap z.L z.Aa.Cx) FA (λp a=>Ib p<|.tail _ a) c.1 c.2.1 c.2.2 (λp a=>EX<|j p a) (l⊂g) (z.bw (n:=11) ∅) (λW s' G H c d=>nJ ab G (DG H<|z.bw (n:=2) ∅)<|b.a9 (λZ q=>.inl q)<|show Mq z.M [] s.heap s'.heap from S.1.Fd (s':={s with heap:=s'.heap}) (S.1.bp<|keep (tk:=s.toks) c d λp a=>a).1 (λZ q=>.inl q) az) λX YL p a t I u=>?_;rw[l] at a t;calc n0 S (keep I u λp a=>.tail _ a) b ab a t (u _<|.head _).1 HX q
end
def n1:∀{ns:-Nat} {Ae:-Aw} {f:-As},Bl Aa M h (ns.map λn:Nat=>.au n) Ae f->Lz Ae ns
 |[],_,_=>λy=>y.1⊂.nil|n::ns,_,_=>λy=>aE y λc e q w=>ak q.1 λt q=>e.1▸rwr q (.cons<|n1 w)
def Ad9:KR where
 α:=Nat
 d:=0
 lt a b:=decide (a<b)
 ok:=iv
 f n:=.au n
 no _:=rfl
 a5 _:=rfl
 Is _ v a:=∃t,v=.int a t
 WJ y:=y.1
 DR g:=g=oneType'
 Hf i A8 q:=kas_kind (T:=.type "int") i (λv h=>a4 (A8 v h) λa t e=>e⊂.now) ∅ ∅ (q _ rfl)
 Bg {prog w A s g u v a b C} j o l Lu c:=ak l λt e=>ak Lu λd m=>by rw[j,e,m];calc oneLt_int<|(cX Nx:decide ((a:Int)<(b:Int))=decide (a<b))⊂c
def Aea:KR where
 α:=Str
 d:=""
 lt:=M9
 ok:=fC
 f x:=.aZ x
 no _:=rfl
 a5 _:=rfl
 Is _ v a:=∃t,v=.str a t
 WJ y:=y.1.1
 DR g:=g=oneType'
 Hf i A8 q:=kas_kind (T:=.type "str") i (λv h=>a4 (A8 v h) λa t e=>e⊂.now) ∅ ∅ (q _ rfl)
 Bg {prog w A s g u v a b C} j o l Lu c:=ak l λt e=>ak Lu λa m=>by rw[j,e,m];calc oneLt_str c
def iz:∀l:-Nat,GZ (l.map λn:Nat=>T.au n)=Y/\NC (l.map λn:Nat=>T.au n)=Y
 |[]=>{rfl,rfl}
 |_::l=>iz l
def Abd:KR where
 α:=↑Nat
 d:=[]
 lt:=Gj
 ok:=fD
 f l:=.aT (l.map λn:Nat=>.au n)
 no l:=(iz l).1
 a5 l:=(iz l).2
 Is h v l:=W0 h v l
 WJ y:=a6 y λn e b w Z=>{n.a,n.Ae.toArray,e,b,n1 w}
 DR:=W2
 Hf j A8 q:=x4 A8 q
 Bg b g i Lu c:=x2 b g i Lu c
section
def miss_keys:typeLookup (.type "list") "keys"=pure Ai:=am_miss_of_fast<|by decide+kernel
section
variable{prog:Gu}{w:FH}{A:EI}{E:Aw->AM->Prop}{s:AM}
def yd{a:As}{xs:Array Aw}{k:Nat}{Q:↥Aw->AM->Prop}(c:s.heap.get? a=U {cls:=.type "list",data:=.seq xs k})(f:A.handled=Ai)
  (h:∀Ay tk,(∀b o,s.heap.get? b=U o->Ay.get? b=U o)->Q Ai {s with heap:=Ay,toks:=tk}):Ba (BK prog w) A (getAttr? (.ref a) "keys") Q E s:=by
 clear prog w A E s a xs k Q _ c f h;obtain⟨m,g,d,tk,os⟩:=s;have i:∀j,({m,g,d,j,os}:AM).TypeIs (.ref a) "list":=λZ=>{_,c,rfl}
 have f1:=sub_AttributeError;have p:=PySem.F.slot_list_getattribute.lookup;have q:=PySem.F.slot_list_getattribute.bind<|.ref a;have r:=am_list_getattr_none;unfold getAttr? getAttrBy? getAttrBy
 repeat(any_goals(first|assumption|calc i _|((with_reducible show Ba _ _ (Iq (Value.builtin "list.__getattribute__") _ _) _ _ _);calc call_meets PySem.F.slot_list_getattribute (i _) am_entry_list_getattribute (PySem.F.args_list_getattribute_2 _ _) (meets_getattribute_miss_list a xs k #[] "keys" _ miss_keys (by decide+kernel) (by size_fits)) {c,f,λAy j e l=>?_})|wp_step))
 obtain⟨t',t,u⟩:=l.there;show Ba _ _ (getattributeRaised _ _ _ _ _ _ _) _ _ _;unfold getattributeRaised
 repeat(any_goals(first|assumption|wp_step))
 calc h _ _ λb o e=>l.keeps b o e
def n2:entryFor table "dict.update.loop"=U Builtin.«dict.update.loop»:=entryFor_of_tree<|Sort
def n3:plainId "dict.update.loop"=Y:=by decide+kernel
end
inductive W3:-BE->↑T->↑(T×T)->↑BE->↑T->Prop
 |nil {ag:-BE} {Al:-T}:W3 ag Al [] ag Al
 |cons {ag:-BE} {Al:-T} {k x:T} {CB:BE} {r:-(T×T)} {Ly:-BE} {M8:-T} (Ax:Mw k=U CB) (a:k.EO=Y) (b:I4 CB ag=Y) (HT:J ag<=1000000) (h:W3 (Hv ag CB) (Gi (CK ag CB) Al x) r Ly M8):W3 ag Al ((k,x)::r) Ly M8
def Jw(p:T×T):T:=.aT [p.1,p.2]
section
variable{Aa:C0}{M:As->Prop}{h:BX}{v:Aw}{AO:-As}
def Aeb(Aa:C0)(M:As->Prop)(h:BX)(k x:T)(a:As)(AO:-As)(GV b:Aw):Prop:=Dy
 (HH h a #[GV,b])
 (A9 Aa M h k GV [])
 (A9 Aa M h x b AO)
def ye{k x:T}(j:k.EO=Y)(y:A9 Aa M h (Jw (k,x)) v AO):∃a GV l,v=.ref a/\Aeb Aa M h k x a AO GV l:=a6 y λn h l m q=>aE m λd e g b=>aE b λc i b m=>by
 have f1:=A9.cI _ j g;have o:c.f=AO:=by rw[q.1,e.2,f1,i.2,m.2,Ct];try rfl
 have p:n.Ae.toArray=#[d.v,c.v]:=by rw[e.1,i.1,m.1]
 calc {n.a,d.v,c.v,h,p∣l,f1∣g,o∣b}
end
section
variable{Aa:C0}{M:As->Prop}{A:EI}{s0:AM}{R:Qv->AM->Prop}{D I l:As}{items:Array Aw}{Ly:-BE}{M8:-T}
def Aec(Aa:C0)(M:As->Prop)(s0:AM)(D I l:As)(G:-As)(items:Array Aw)(i:Nat)(ag:-BE)(Al xs:-T)(Ae:-Aw)(g cc:-As)(h:BX):Prop:=kR
 (h.IsListIter I l i)
 (h.IsList l items)
 (Eo Aa h ag D Ae)
 (Bl Aa M h Al Ae g)
 (g.Nodup)
 (Bl Aa M h xs (items.toList.drop i) cc)
 (cc.Nodup)
 (∀b∈cc,b∉g/\b≠I/\b≠D)
 (I∉g)
 (D∉g)
 (∀b o,s0.heap.get? b=U o->h.get? b=U o)
 (∀b∈g,b∈G)
 (∀b∈cc,b∈G)
def Aed(M:As->Prop)(s0:AM)(D I l:As):Prop:=Pr
 (M D)
 (M I)
 (D≠I)
 (D≠l)
 (I≠l)
 (s0.heap.get? D=Ai)
 (s0.heap.get? I=Ai)
def iA{h:BX}{i:Nat}{b:As}{o:Obj}(a:h.IsListIter I l i)(e:h.get? b=U o)(c:Iw o):b≠I:=λy=>ae a λg d f=>d5 f.1 rfl (BQ (e.symm^(y▸d))▸c)
def iB{a:As}{h Ay:BX}{f:-As}(d:M a)(e:CF h a)(k:∀b o,b≠a->h.get? b=U o->Ay.get? b=U o)(g:a∉f):Mq M f h Ay:=λb o z c=>k b o (λy=>c.elim (λc=>g<|y∣c) λc=>c.elim (λc=>c<|y⊂d) λc=>ae e λi q n=>n<|BQ (q.symm^(y▸z))⊂c) z
def yf{h:BX}{ag:-BE}{Ae:-Aw}(d:Eo Aa h ag D Ae):CF h D:=ae d.cC λo e c=>{o,e,d5 c.1 rfl}
def yg(X:A.units+50<IJ)(n4:A.handled=Ai)(Hx:Aed M s0 D I l){G:-As}
  (aR:∀Ay tk IE r,(∀b o,s0.heap.get? b=U o->Ay.get? b=U o)->Eo Aa Ay Ly D IE->Bl Aa M Ay M8 IE r->r.Nodup->D∉r->(∀b∈r,b∈G)->R (.ok<|.ret .none) {s0 with heap:=Ay,toks:=tk}):
  ∀(i:Nat) (ag:-BE) (Al:-T) (AN:-(T×T)) (Ae:-Aw) (g cc:-As) (h:BX) (tk:Nat) (E:Tok),Aec Aa M s0 D I l G items i ag Al (AN.map Jw) Ae g cc h->W3 ag Al AN Ly M8->
   G9 (BK Aa.De Aa.w) A (.builtin "dict.update.loop" {[.ref D,.ref I,.int i E,.none],[]}) R {s0 with heap:=h,toks:=tk}:=by
 clear Aa M A s0 R D _ I l items Ly M8 G _ X n4 Hx aR;intro i ag Al AN;induction AN generalizing i ag Al with
 |nil=>
  intro Ae g cc h tk E Bu e;have u:items.toList.drop i=[]:=Bu.6.1;have RQ:items[i]?=Ai:=kb<|List.drop_eq_nil_iff.mp u;calc sZ n2<|AL<|wpAny_pyNext_list_end (A:=A.in1) (s:={s0 with heap:=h,toks:=tk}) n4 Bu.1 Bu.2 RQ λAy Ax=>AL<|Bn<|Bn ?_;have eK:CF h I:=dy (c:="list_iterator") rfl Bu.1;cases e;calc aR Ay tk Ae g (λb o z=>Ax b o (λy=>bl Hx.7<|y∣z)<|Bu.11 b o z) (Bu.3.bg (λo z=>Ax D o Hx.3 z) λb o z c=>Ax b o (iA Bu.1 z c) z) (Bu.4.a9 (λZ=>.inl)<|iB Hx.2 eK Ax Bu.9) Bu.5 Bu.10 Bu.12
 |cons p AN KQ=>
  intro Ae g cc h tk E Bu e;cases (e)with
  |@cons _ _ k x CB _ _ _ Ax KP hf HT e=>
  calc aE Bu.6 λc F yh DZ=>?_;have lt:i<items.size:=Ajk λq=>(nomatch D8 (List.drop_eq_nil_of_le (as:=items.toList) q).symm F.1)
  have u:=Ge<|(WB (l:=items.toList) lt).symm^F.1;calc cB (ye KP yh) λyi GV Jl A8 P=>?_;have fn:=Bu.7;have d:=Bu.8;have H:=Bu.13;rw[F.2] at fn d H;have L:=cH fn;calc sZ n2<|AL<|wpAny_pyNext_list_item (A:=A.in1) (s:={s0 with heap:=h,toks:=tk}) Bu.1 Bu.2 (Wr lt^ah U u.1) λAy yj t=>?_;have K:∀{f:-As},I∉f->Mq M f h Ay:=λN=>iB Hx.2 (dy (c:="list_iterator") rfl Bu.1) t.extBut N;have n5:I∉c.f:=λz=>(d I<|CL _ z).2.1 rfl;have Q:Eo Aa Ay ag D Ae:=Bu.3.bg (λo z=>t.extBut D o Hx.3 z) λb o z c=>t.extBut b o (iA Bu.1 z c) z;rw[A8];calc AL<|Lp<|AL<|wpAny_tryCatch ?_;calc aE P.1 λn6 n7 n8 B=>ak B λAkp B=>?_;have n9:Ay.get? yi=U n6:=t.extBut _ _ (iA Bu.1 n7 {n8,_,_,B}) n7;calc AL<|kq (T:="tuple") {n6,n9,n8} ?_;rw[ao ∅];calc AL<|sJ n9 B<|Bn<|Lp ?_;calc mK (A:=A.in1) (s:={s0 with heap:=Ay,toks:=tk}) Q (k3 Ax<|P.2.bg<|K CR) hf HT (DG (Du (by decide:1+1<=50) A.units) X) λYG yk yl C6=>Bn {sX n3 _,?_};have S:∀{f:-As},D∉f->Mq M f Ay YG:=λN=>iB Hx.1 (yf Q) C6.extBut N;have oa:D∉c.f:=λz=>(d D<|CL _ z).2.2 rfl;have ym:D∉c.g:=λz=>(d D<|BH _ z).2.2 rfl;calc aE (Bl.gP (o:=CK ag CB) ((Bu.4.a9 (λZ=>.inl)<|K Bu.9).a9 (λZ=>.inl)<|S Bu.10) ((P.3.bg<|K n5).bg<|S oa) (λj a=>by rw[<-Bu.4.bo,Q.bj];calc(bK<|gv a)) Bu.5 L.1 λa b=>(d a<|CL _ b).1) λr Jj yn C=>?_;calc KQ (i+1) (Hv ag CB) _ _ r c.g YG yk 0 {ae yj λo W z=>{o,C6.extBut _ _ Hx.3.symm W,z},ae Bu.2 λo W z=>{o,C6.extBut _ _ Hx.4.symm (t.extBut _ _ Hx.5.symm W),z},yl,Jj,yn,u.2⊂(DZ.a9 (λZ=>.inl)<|K λz=>(d I<|BH _ z).2.1 rfl).a9 (λZ=>.inl) (S ym),L.2.1,λb m=>{λz=>(C b z).elim (d b<|BH _ m).1 λz=>L.2.2 b z b m rfl,(d b<|BH _ m).2},λz=>(C I z).elim Bu.9 n5,λz=>(C D z).elim Bu.10 oa,λb o z=>C6.extBut b o (λy=>bl Hx.6<|y∣z)<|t.extBut b o (λy=>bl Hx.7<|y∣z)<|Bu.11 b o z,λb m=>(C b m).elim (Bu.12 b) λz=>H b<|CL _ z,λb m=>H b<|BH _ m} e
end
end
section
section
variable{Q:T->By->Prop}
def yo(ok:DY z.Aa)(w:Pu Ab xs m (AN.map Jw))(P:W3 [] [] AN ag Al)(q:Q (.ab (.Dh ag) Y Al) .AU):Mz z (.type "dict") (.Bo o xs) m Q:=λs0 s v S y=>a6 y.Dg λn AW Ax y Z=>ae (y.Mu S.1 S.2 w) λAO r t=>ak Ax λNa u=>by
 have f:s.heap.get? s.heap.objs.size=Ai:=bU _;have x:n.a<s.heap.objs.size:=Gv u;rw[AW];calc callType_codes (Q₁:=λa B=>a=.ref s.heap.objs.size/\B={s with heap:=s.heap.push {cls:=.type "dict",data:=.dict #[]}}) PySem.F.kt_called_dict (PySem.F.kt_typeCall_dict_1 _) PySem.F.entry_dict_init (kt_code_dict_new _ {rfl,rfl}) λobj B C=>?_;rw[C.1,C.2];have EK:(s.heap.push {cls:=.type "dict",data:=.dict #[]}).get? s.heap.objs.size=U {cls:=.type "dict",data:=.dict #[]}:=Fn _ rfl;calc {{_,EK,rfl},PySem.F.args_dict_init_2 _ _,?_};calc AL<|AL<|sP {_,EK,rfl} ?_;show Ba _ _ (pure (s.heap.objs.size,[Ir n.a])) _ _ _;calc Bn ?_;show Ba _ _ (Builtin.Dict.updateFrom "dict.__init__" s.heap.objs.size (.ref n.a) [] .none) _ _ _;have g:=D9 {cls:=Value.type "dict",data:=.dict #[]} u;calc AL<|kq (T:="list") {_,g,rfl} ?_;rw[ao ∅];calc AL<|yd g z.V.Eb.1 λAy tk keep=>?_;rw[ao<|show(Ai:↥Aw).isNone=Y from rfl];have E:=keep _ _ g;calc AL<|SP<|AL<|wpAny_pyIter_list (l:=n.a) (items:=n.Ae.toArray) {_,E,rfl,_,rfl}<|Bn {sX n3 _,?_};have DT:∀{b o} (H:Obj),s.heap.get? b=U o->(Ay.push H).get? b=U o:=λH z=>D9 _<|keep _ _<|D9 _ z;have i:s.heap.objs.size<Ay.objs.size:=Gv<|keep _ _ EK;have j:s.heap.get? Ay.objs.size=Ai:=ZU<|BY i;have L:∀{b c:As},b∈AO->s.heap.get? c=Ai->b≠c:=λ{b c} d a q=>CF.bx (r.bE b d)<|q⊂a;exact yg (Aa:=z.Aa) (A:=z.V.A.in1) (s0:=s) (M:=λa=>z.M a\/s.heap.get? a=Ai) (D:=s.heap.objs.size) (I:=Ay.objs.size) (G:=AO) (items:=n.Ae.toArray) (l:=n.a) (Ly:=ag) (M8:=Al) (z.bw (n:=51) ∅) z.V.Eb.1 {.inr f,.inr j,EX i,Ha x,Ha<|DQ x i,f,j}
  (λb c d N R W X g i j=>{rfl,_,_,q,.b5 R,s.heap.objs.size::N,{{s.heap.objs.size,0,d,N},rfl,{ih ok S.1,W},X.a9 (λa h=>.inl<|.inl h) λZ Z e Z=>e,rfl},cw {i,g},λa p=>(aK p).elim (λe=>S.3 a<|e⊂f) λp=>t.2 a<|j a p})
  0 [] [] AN [] [] AO (Ay.push {cls:=.type "list_iterator",data:=.fields #[.ref n.a,.int 0 0]}) tk 0 {{_,Fn _ rfl,rfl,rfl},{_,D9 _ E,rfl,_,rfl},(ig (h:=s.heap)).bg (λo e=>D9 _<|keep _ _ e) λb o e Z=>D9 _<|keep _ _ e,{rfl,rfl},.nil,r.a9 (λa h=>h) λb o e Z=>DT _ e,t.1,λb d=>{CR,L d j,L d f},CR,CR,λb o z=>DT _ z,λb d=>ar d CR,λb d=>d} P
end
def FL.iC(a:FL (k+1) A):FL k A:={a.1,DG (G8 (Du (Hd 4<|Ex k) _) _) a.2,DG (G8 (Du (Hd 100<|Ex k) _) _) a.3}
end
section
section
variable{prog:Gu}{w:FH}{A:EI}{R:Qv->AM->Prop}{h:BX}{g:Array GenState}{d:Drawn}{t:Nat}{os:OsState}{K:Gd}{a:As}
variable{B3 q:Str}{C N:As}{bs bm:-Aw}{IF:Bool}{sn:-Str}{sub:-Aw}{IG:Bool}{col:↥Bool}{IH:↥As}{HX DT DW CH II:↥Aw}
abbrev RX(C a0:As):Obj:={cls:=.ref C,data:=.fields #[.ref a0,.none,.none,.none,.bool Ab,.none]}
abbrev NW:=PySem.F.excBase_Exception
def yp{M:Qq}{E:Aw->AM->Prop}{rest:-Aw}{Q:Unit->AM->Prop}(b:h.get? C=U (SF B3 q C N bs bm IF sn sub IG col IH HX DT DW CH II "Exception.__new__"))(c:bm.contains (.type "Exception")=Y)
  (e:Q () {h,g,d,t,os}):Ba M A (kg "Exception.__new__" {.ref C::rest,[]}) Q E {h,g,d,t,os}:=wpAny_check_new_subU NW c .base b e
def yq{rest:-Aw}(b:h.get? C=U (SF B3 q C N bs bm IF sn sub IG col IH HX DT DW CH II "Exception.__new__"))(c:bm.contains (.type "Exception")=Y)(e:bm.contains (.type "AttributeError")=Ab)(f:bm.contains (.type "NameError")=Ab)
  (i:R (.ok<|.ret<|.ref<|h.objs.size+1) {(h.push {cls:=.type "tuple",data:=.seq rest.toArray}).push<|RX C h.objs.size,g,d,t,os})(o:J rest<=H5:=by size_fits):
  G9 (BK prog w) A (.builtin "Exception.__new__" {.ref C::rest,[]}) R {h,g,d,t,os}:=by
 have r:=NW.ends;have j:(Ir C::bm).contains (.type "Exception")=Y:=by rw[Z6,c,tq] at⊢
 have l:(Ir C::bm).contains (.type "AttributeError")=Ab:=by rw[Z6,e] at⊢;rfl
 have m:(Ir C::bm).contains (.type "NameError")=Ab:=by rw[Z6,f] at⊢;rfl
 calc codeAny_builtinAt NW.entry<|PySem.wpAt_bind ?_;show PySem.wpAt _ _ _ (stack>>=_) _ _ _;refine PySem.wpAt_bind (PySem.wpAt_stack λp below=>PySem.wpAt_of_wpAny ?_)
 wp_walk
 calc PySem.wpAt_of_wpAny ?_;rw[NW.owner] at⊢
 repeat(first|with_reducible calc wpAny_madeHere_exc NW.canon b ?_|with_reducible calc X6 b ?_|(with_reducible calc kv b ?_;first|rw[j] at⊢|rw[l] at⊢|rw[m] at⊢)|wp_step)
 show R _ _;rw[X2] at⊢;calc i
def yr{rest:-Aw}{E:Aw->AM->Prop}{Q:Fin->AM->Prop}(X:K.In h)(c:h.get? C=U (SF B3 q C N bs bm IF sn sub IG col IH HX DT DW CH II "Exception.__new__"))(f:bm.contains (.type "Exception")=Y)(l:bm.contains (.type "AttributeError")=Ab)(m:bm.contains (.type "NameError")=Ab)
  (p:H4 K (.ref C) "__init__"=U (U<|.ref a))(s:typeIn K (.ref a)=U (.type "function"))
  (i:G9 (BK prog w) A (.call (.ref a) {.ref (h.objs.size+1)::rest,[]}) (λr a=>match r with|.ok (.ret v)=>v=.none/\Q (.done (.ret<|.ref<|h.objs.size+1)) a|.ok _=>False|.error e=>E e a) {(h.push {cls:=.type "tuple",data:=.seq rest.toArray}).push<|RX C h.objs.size,g,d,t,os})(u:J rest<=H5:=by size_fits):
  Ba (BK prog w) A (Builtin.«type.__call__» {.ref C::rest,[]}) Q E {h,g,d,t,os}:=by
 repeat(first|with_reducible calc X6 c ?_|with_reducible calc wpAny_madeBy_exc c ?_|wp_step)
 calc codeAny_call_builtin_code (Code.quiet_builtin _ NW.quiet)<|yp c f ?_;have Ax:∀b o,h.get? b=U o->((h.push {cls:=.type "tuple",data:=.seq rest.toArray}).push<|RX C h.objs.size).get? b=U o:=λb o e=>D9 _<|D9 _ e;have j:((h.push {cls:=.type "tuple",data:=.seq rest.toArray}).push<|RX C h.objs.size).get? (h.objs.size+1)=U (RX C h.objs.size):=Ajo (X2 _ _).symm rfl;calc yq c f l m ?_ u;generalize(h.push {cls:=.type "tuple",data:=.seq rest.toArray}).push (RX C h.objs.size)=B at Ax j i⊢;have x:=Ax _ _ c;have GD:=X.keeps Ax;clear c f l m X Ax;generalize h.objs.size+1=e at j i⊢;have y:(Ir C::bm).contains (.ref C)=Y:=by rw[Z6,beq_self_eq_true,Bool.true_or] at⊢
 repeat(first|with_reducible calc X6 j ?_|(with_reducible calc kv x ?_;rw[y] at⊢)|wp_step)
 calc((looks_findIn GD p).at ?_);calc Lp<|AL<|(bind_fn GD _ s).at ?_;calc AL<|Ww ?_;calc ko i λr s' z=>?_;rcases r with e|(v|_|_|_)<;>first|calc z|calc z.elim|skip
 rw[z.1] at⊢;calc Bn<|Bn z.2
end
end
section
section
variable{prog:Gu}{w:FH}{A:EI}{R:Qv->AM->Prop}{h:BX}{g:Array GenState}{d:Drawn}{t:Nat}{os:OsState}{K:Gd}{s:AM}
variable{B3 q:Str}{C N:As}{bs bm:-Aw}{IF:Bool}{sn:-Str}{sub:-Aw}{IG:Bool}{col:↥Bool}{IH:↥As}{HX DT DW CH II:↥Aw}
abbrev Tw(a0:As):Array Aw:=#[.ref a0,.none,.none,.none,.bool Ab,.none]
def Aee(c h:BX)(e:As)(n:Nat)(a:↥As):Prop:=a=Ai\/∃d b ns,a=U d/\d≠e/\c.get? d=Ai/\h.Ns1 d b/\Within b ns/\J ns<=n
def Ie(a h:BX)(e C:As)(n:Nat):Prop:=Em
 (∀b o,b≠e->a.get? b=U o->h.get? b=U o)
 (∃c f a0,h.get? e=U {.ref C,c,.fields<|Tw a0,f}/\Aee a h e n c)
def ys{M:Qq}{E:Aw->AM->Prop}{e:As}{c:Obj}{rest:-Aw}{Q:Unit->AM->Prop}
  (f:h.get? C=U (SF B3 q C N bs bm IF sn sub IG col IH HX DT DW CH II "Exception.__new__"))(i:bm.contains (.type "Exception")=Y)(j:h.get? e=U c)(l:c.cls=.ref C)(m:Q () {h,g,d,t,os}):
  Ba M A (kg "Exception.__init__" {.ref e::rest,[]}) Q E {h,g,d,t,os}:=by
 have o:(Ir C::bm).contains (.type "Exception")=Y:=by rw[Z6,i,tq]
 simp only [kg,NW.initKind,NW.initSplit,NW.initRow]
 repeat(first|(with_reducible calc X6 j ?_;rw[l])|with_reducible calc X6 f ?_|(with_reducible calc kv f ?_;rw[o])|wp_step)
 calc wpAny_onRaise ?_;rw[show∀(a b:String) (n:Nat),Bind.check {.positional,"*","Exception",.self,[{"args",.varPos,Ab}]} a b n (Hs (λx=>x.fst) ({pos:=Ir e::rest}:Args).kw)=pure () from
  λa b n=>check_star_args _ _ _ _ _ _]
 calc Bn m
def yt{e n:As}{v:Aw}{c:BX}(m:h.get? C=U (SF B3 q C N bs bm IF sn sub IG col IH HX DT DW CH II "Exception.__new__"))(p:bm.contains (.type "Exception")=Y)(y:Ie c h e C n)
  (f:∀Ay,Ie c Ay e C n->R (.ok<|.ret .none) {Ay,g,d,t,os}):
  G9 (BK prog w) A (.call (.builtin "Exception.__init__") {[.ref e,v],[]}) R {h,g,d,t,os}:=cB y.2 λi j a0 AW l=>by
 calc Ajp NW.init.plain NW.initEntry<|ys m p AW rfl ?_;have r:∀{a:Obj},(h.push a).get? e=U {.ref C,i,.fields<|Tw a0,j}:=λ{a}=>D9 _ AW;have up:∀b o,b≠e->h.get? b=U o->((h.push {cls:=.type "tuple",data:=.seq #[v]}).update e (Obj.mapFields (·.setIfInBounds 0 (Ir h.objs.size)))).get? b=U o:=λb o n q=>Heap.get?_update_other _ _ (Ne.symm n)^D9 _ q;have aR:=f _ {λb o n q=>up b o n<|y.1 b o n q,i,j,h.objs.size,SM _ r rfl,l.imp_right λw=>cB w λd u b x w=>{d,u,b,x,w.1,w.2.1,w.2.2.1.at λa=>up d a w.1,w.2.2.2}};clear f l y up;unfold Builtin.«BaseException.__init__»
 wp_walk
 calc aR
end
section
variable{M:Qq}{A:EI}{s:AM}{E:Aw->AM->Prop}{Q:Fin->AM->Prop}{K:Gd}{e C f:As}{a:WE}{name:Str}{tk:Tok}{v:Aw}{n:Nat}
def ob{d:As}{m:Str->↥Aw}{ns:-Str}(i:s.heap.Ns1 d m)(c:Within m ns)(j:J ns<=100)(q:∀Ay l g,Ay.Ns1 d g->Within g (name::ns)->(∀b,b≠d->Ay.get? b=s.heap.get? b)->Q (.done (.ret .none)) {s with heap:=Ay,toks:=l}):
  Ba M A (PySem.Builtin.ObjectAttr.storeInDict d (.str name tk) name v) Q E s:=by calc AL<|Bn<|AL<|wpAny_nsSet1 i λAy h hs=>cB (h.count<|Within.cons name v c) λp r t o A4=>?_;calc AL<|wpAny_lookBehind o (by rw[A4.1];calc pastItsLine_dict<|A4.2\(GX j\(by rw[Qt];decide)))<|Bn<|q Ay _ _ h (Within.cons name v c) hs.2
def yu{prog:Gu}{w:FH}{c:↥As}{DB:Array Aw}{g:Array ↥Aw}{b:Bool}(X:K.In s.heap)(A4:clsIn K C=U a)(h:a.hasDict=Y)(AW:s.heap.get? e=U {.ref C,c,.fields DB,g})
  (i:c=Ai->Ba (BK prog w) A (PySem.Builtin.ObjectAttr.storeInDict s.heap.objs.size (.str name tk) name v) Q E {s with heap:=(s.heap.push {cls:=.type "dict",data:=.dict #[]}).update e λo=>{o with dict:=U s.heap.objs.size}})
  (j:∀d,c=U d->Ba (BK prog w) A (PySem.Builtin.ObjectAttr.storeInDict d (.str name tk) name v) Q E s):Ba (BK prog w) A (PySem.Builtin.ObjectAttr.storeInOwnDict (.ref e) (.ref C) (.str name tk) name v b) Q E s:=by
 calc AL<|Bn<|AL<|AL<|tb AW<|AL<|(tc X A4).here ?_;rw[h] at⊢;cases c with
 |none=>calc AL<|wpAny_alloc'<|AL<|wpAny_update' (D9 _ AW)<|Bn<|i rfl|some d=>calc Bn<|j d rfl
def yv{prog:Gu}{w:FH}{R:Qv->AM->Prop}{i:BX}(X:K.In s.heap)(A4:clsIn K C=U a)(B:a.mro=[.ref C,.ref f,.type "Exception",.type "BaseException",.type "object"])(D:a.hasDict=Y)(G:subIn K (.ref C) (.type "object")=U Y)(H:H4 K (.ref C) name=U Ai)(y:Ie i s.heap e C n)(I:n<=100)
  (q:∀Ay tk,Ie i Ay e C (n+1)->R (.ok<|.ret .none) {s with heap:=Ay,toks:=tk}):G9 (BK prog w) A (.call (.builtin "object.__setattr__") {[.ref e,.str name tk,v],[]}) R s:=cB y.2 λL t a0 AW N=>by
 have L2:Looks (BK prog w) s.heap (typeOf<|.ref e) (.ref C):=(Looks.ld AW).andThen .now;have g:=PySem.F.store_Exception;calc Ajp g.slot.plain g.entry<|@check_slot (BK prog w) _ _ s "object.__setattr__" "object" "__setattr__" (.ref e) [.str name tk,v] [] _ g.kind g.split (L2.andThen<|looks_subIn X G) (g.args (.ref e) (.str name tk) v) ?_;rw[osa_eq,refuse_eq];calc AL<|AL<|L2.here<|AL<|((tc X A4).andThen .now:Looks (BK prog w) s.heap (mroOf<|.ref C) a.mro).here ?_;rw[B,refuseLoop_ref,refuseLoop_ref,g.passes];refine Bn<|AL<|L2.here<|AL<|(looks_findIn X H).here<|AL<|Bn<|yu X A4 D AW (λZ=>?_) λS u=>?_
 ·have j:e≠s.heap.objs.size:=EX<|Gv AW;calc ob (Heap.Ns1.of_empty {_,#[],_,Vx _ _ _ _ j.symm^Ajo rfl rfl,rfl,λe P=>ar P<|Ai6 e,λZ=>rfl}) Within.nil (C9 _) λAy l m p r hs=>?_;calc q Ay l {λb o n h=>hs b (EX<|Gv<|y.1 b o n h)^(Vx _ _ _ _ n).trans (D9 _<|y.1 b o n h),_,t,a0,hs e j^SM _ (D9 _ AW) rfl,.inr {_,m,_,rfl,j.symm,?_,p,r,GX<|C9 _}};cases z:i.get? s.heap.objs.size with
  |none=>rfl|some W=>exact ar (Gv<|y.1 _ _ j.symm z)<|Hq _
 ·calc N.elim (λe=>nomatch D8 u.symm e) λw=>cB w λd a f x w=>(BQ<|x.symm^u)▸ob w.2.2.1 w.2.2.2.1 (w.2.2.2.2\I) λa l m p r f=>q a l {λb o n h=>(f b λc=>nomatch (c▸h:i.get? d=U o).symm.trans w.2.1)^y.1 b o n h,L,t,a0,f e w.1.symm^AW,.inr {d,m,_,x,w.1,w.2.1,p,r,GX w.2.2.2.2}}
end
end
section
abbrev oc(Hi:As):-Aw:=[.ref Hi,.type "Exception",.type "BaseException",.type "object"]
abbrev Jx:-Str:=["self","what","at"]
def RK(K:Gd)(C Hi:As)(cd:WE):Prop:=VL
 (∃B3 q N bs IF sn A6 IG col IH HX DT DW CH II,K.lookup C=U (SF B3 q C N bs (oc Hi) IF sn A6 IG col IH HX DT DW CH II "Exception.__new__"))
 (clsIn K C=U cd)
 (cd.mro=[.ref C,.ref Hi,.type "Exception",.type "BaseException",.type "object"])
 (cd.hasDict=Y)
 (H4 K (.ref C) "__setattr__"=U (U<|.builtin "object.__setattr__"))
 (subIn K (.ref C) (.type "object")=U Y)
 (H4 K (.ref C) "what"=U Ai)
 (H4 K (.ref C) "at"=U Ai)
 (nsIn K Ed "Exception"=U Ai)
def RK.o{K:Gd}(G:RK K C Hi cd){P:Prop}(k:∀B3 q N bs IF sn sub IG col IH HX DT DW CH II,K.lookup C=U (SF B3 q C N bs (oc Hi) IF sn sub IG col IH HX DT DW CH II "Exception.__new__")->P):P:=
 G.1.elim λZ h=>h.elim λZ h=>h.elim λZ h=>h.elim λZ h=>h.elim λZ h=>h.elim λZ h=>h.elim λZ h=>h.elim λZ h=>h.elim λZ h=>h.elim λZ h=>h.elim λZ h=>h.elim λZ h=>h.elim λZ h=>h.elim λZ h=>h.elim λZ h=>k _ _ _ _ _ _ _ _ _ _ _ _ _ _ _ h
def Abe(p:Nat->Pos):-C8:=[.Expr (.Call (.Attribute (.Name "Exception"<|p 0) "__init__"<|p 1) [.Name "self"<|p 2,.Name "what"<|p 3] []<|p 4)<|p 5,.Assign [.Attribute (.Name "self"<|p 6) "what"<|p 7] (.Name "what"<|p 8)<|p 9,.Assign [.Attribute (.Name "self"<|p 10) "at"<|p 11] (.Name "at"<|p 12)<|p 13]
def YM(Aa:C0)(F:Er):Prop:=MO
 (HS Aa F)
 (F.FR=Jx)
 (F.E3=[.none])
 (∀x∈Jx,F.BN.names.lookup x=U .local)
 (F.BN.names.lookup ("Exception":Str)=U .globalImplicit)
 (∃p:Nat->Pos,F.Eg=Abe p/\((p 1).endLine==(p 4).line)=Y)
section
variable{s:AM}{K:Gd}
def yw{Q:Unit->AM->Prop}(X:K.In s.heap)(G:RK K C Hi cd)(y:Ie c s.heap e C n)(f:n<=100)(q:∀Ay tk,Ie c Ay e C (n+1)->Q () {s with heap:=Ay,toks:=tk})(g:H4 K (.ref C) name=U Ai):Ba (BK prog w) A (setAttr (.ref e) name v) Q E s:=by calc cB y.2 λh i a0 AW j=>ak (?_:∃a,InstAt s.heap e {.ref C,h,.fields<|Tw a0,i} C a) λa I=>set_plain X I G.5<|yv X G.2 G.3 G.4 G.6 g y f λa b l=>q a b l;calc j.elim (λe=>e⊂{Ai,e▸AW,rfl,rfl,trivial}) λw=>cB w λd p a b w=>a4 w.2.2.1 λm a o=>ae o λZ z Z=>b⊂{U m,b▸AW,rfl,rfl,z}
def Tx(M:Qq)(Ag:BX)(e C:As)(s:AM)(env:Env)(x:Str)(u:Aw):Prop:=∀{A p a n tk Q E},Ie Ag a e C n->Q u {s with heap:=a,toks:=tk}->Ba M A (D4 (.Name x p) env) Q E {s with heap:=a,toks:=tk}
def od(G:RK K C Hi cd)(c:∀{a n},Ie Ag a e C n->K.In a)(ns:Tx (BK prog w) Ag e C s env "self" (.ref e))(d:Tx (BK prog w) Ag e C s env x u)(f:H4 K (.ref C) x=U Ai)(y:Ie Ag a e C n)(g:n<=100)
  (q:∀b tk,Ie Ag b e C (n+1)->Ba (BK prog w) A (DJ rest env) Q E {s with heap:=b,toks:=tk}):Ba (BK prog w) A (DJ (.Assign [.Attribute (.Name "self" h) x i] (.Name x j) l::rest) env) Q E {s with heap:=a,toks:=tk}:=
 Nz (Ai4<|d y<|ns y<|yw (c y) G y g q f)
def yx{rest:-C8}{d:Pos}(ok:DY Aa)(G:RK Aa.K C Hi cd)(Ax:env.scope.kind=.function)(f:env.kindOf ("Exception":Str)=U .globalImplicit)(g:(L1.endLine==h.line)=Y)(ns:Tx (BK Aa.De Aa.w) Ag e C s env "self" (.ref e))(i:Tx (BK Aa.De Aa.w) Ag e C s env "what" u)(y:Ie Ag Ag e C 0)(j:Aa.K.In Ag)
  (b:Fr Aa.Cx env.locals Ag m)(l:env.globals=Ed)(p:env.builtins=Ip)(q:∀a tk,Ie Ag a e C 0->Ba (BK Aa.De Aa.w) A (DJ rest env) Q E {s with heap:=a,toks:=tk}):
  Ba (BK Aa.De Aa.w) A (DJ (.Expr (.Call (.Attribute (.Name "Exception" MA) "__init__" L1) [.Name "self" RR,.Name "what" d] [] h) B::rest) env) Q E {s with heap:=Ag,toks:=tk}:=by calc ae ok.4 λmg c Z=>ae ok.5 λmb r t=>Nz<|wpAny_Expr ?_ (by show(env.scope.kind==.module&&_)=Ab;rw[Ax];rfl);calc ik rfl rfl g (ZW Ax f (loadGlobal_builtin (mg:=mg) (mb:=mb) (v:=.type "Exception") (l⊂c.keeps b.keep) (mg_none_of ok.1 c G.9) (p⊂r.keeps b.keep) (t _ ∅^(by decide+kernel)) λpl=>?_) ∅);calc method_type (v:=.builtin "Exception.__init__") b ok.1 (Sort) (by decide+kernel) (Sort) rfl (gz rfl rfl (Rd<|ns y<|Rd<|i y<|Wk<|Ww ?_));calc G.o λb D N c d e f g h i l m o p r x=>yt (j _ _ x) (by rfl) y λa z=>q a _ z
def YM.iD(I:YM Aa F)(D:Ti F s env)(AV:Ku F Ae s env {s with heap:=Ag,toks:=tk})(CZ:env.locals≠e){i:Nat}(a:Jx[i]?=U x)(b:Ae[i]?=U u)(c:(x==("__debug__":Str))=Ab):Tx M Ag e C s env x u:=λ{Z _ _ _ _ _ _} y q=>
 have k:=ah (λS:Dz=>S.names.lookup x) D.2^I.4 x (GK a)
 Wj (sE (D.2⊂I.1.1.3) k (AV.toInCall.ns.at' λo w=>y.1 _ o CZ w) ((gC _ _ _ (λZ=>Ai) (dH I.1.1.2) (I.2⊂a) b).1 k) q) c
def Ie.cj(k:∀b o,s.heap.get? b=U o->Ay.get? b=U o)(y:Ie Ay c e C n):Ie s.heap c e C n:=⟨λb o n w=>y.1 b o n<|k b o w,cB y.2 λf g a h q=>⟨f,g,a,h,q.imp_right λd=>cB d λd i a j w=>⟨d,i,a,j,w.1,(by
  cases z:s.heap.get? d with
  |none=>rfl|some o=>calc nomatch D8 w.2.1.symm (k _ _ z)),w.2.2⟩⟩⟩
def yy(ok:DY Aa)(G:RK Aa.K C Hi cd)(I:YM Aa F)(st:∀b o,Aa.Cx.get? b=U o->s.heap.get? b=U o)(j:A.depth<U8)(m:Aa.Cx.objs.size<=s.heap.objs.size)(f:s.heap.get? e=U (RX C a0))(q:Aa.Cx.get? e=Ai)
  (aR:∀Ay tk,Ie s.heap Ay e C 2->r (.ok<|.ret .none) {s with heap:=Ay,toks:=tk}):G9 (BK Aa.De Aa.w) A (.call (.ref F.FQ) {[.ref e,v],[]}) r s:=
 enter ok I.1 st j (by rw[I.2,I.3];rfl) λenv GJ Ay tk D Z P t AV=>by
 have CZ:env.locals≠e:=λd=>ar (Gv f)<|bz<|Di<|D.1.symm^d;have CB:=AV.toInCall.keep;have x:∀{b o},Aa.K.lookup b=U o->b≠e:=λ{b o} h d=>nomatch D8 (rwl d (ok.1 _ _ h):Aa.Cx.get? e=U o).symm q;have c:∀{a n},Ie Ay a e C n->Aa.K.In a:=λ{a n} y b o h=>y.1 b o (x h)<|ok.1.keeps (λb o w=>CB b o<|st b o w) b o h;have g:Ie Ay Ay e C 0:={λZ Z Z h=>h,_,_,a0,CB _ _ f,.inl rfl}
 calc ak (List.length_eq_one_iff.mp<|Qx<|Qx<|t^ah J I.2) λu (DU:GJ=[u])=>?_;have ns:Tx (BK Aa.De Aa.w) Ay e C s env "self" (.ref e):=I.iD D AV CZ (i:=0) rfl rfl ∅;have nw:Tx (BK Aa.De Aa.w) Ay e C s env "what" v:=I.iD D AV CZ (i:=1) rfl rfl ∅;calc ae I.6 λp z B=>?_;rw[z] at⊢;calc yx ok G (D.2⊂I.1.1.3) (ah (λS:Dz=>S.names.lookup ("Exception":Str)) D.2^I.5) B ns nw g (c g) {AV.toInCall.ns,λb o w=>CB b o<|st b o w,D.1⊂m} D.4 D.5 λa b E=>od G c ns nw G.7 E (C9 _) λQ a H=>od G c ns (I.iD D AV CZ (i:=2) rfl (ah (λl:-Aw=>l[0]?) DU) ∅) G.8 H ∅ λL M N=>ZZ<|aR L M<|N.cj CB
end
end
section
def QQ(Aa:C0)(C Hi:As)(cd:WE)(F:Er):Prop:=Pr
 (RK Aa.K C Hi cd)
 (YM Aa F)
 (H4 Aa.K (.ref C) "__init__"=U (U<|.ref F.FQ))
 (typeIn Aa.K (.ref F.FQ)=U (.type "function"))
 (specialIn Aa.K (.ref C) "__call__"=U (U<|.builtin "type.__call__"))
 (instIn Aa.K (.ref C) (.type "type")=U Y)
 (Pe Aa.K (.ref C)=Y)
def Aef(h Ay:BX)(e C:As):Prop:=Dy
 (∀b o,h.get? b=U o->Ay.get? b=U o)
 (h.get? e=Ai)
 (∃a c a0,Ay.get? e=U {.ref C,a,.fields<|Tw a0,c})
section
variable{Aa:C0}{A:EI}{s:AM}{C f:As}{v:Aw}
def yz(ok:DY Aa)(G:QQ Aa C f cd F)(st:∀b o,Aa.Cx.get? b=U o->s.heap.get? b=U o)(l:Aa.Cx.objs.size<=s.heap.objs.size)(m:A.depth+1<U8)
  (q:∀Ay tk e,Aef s.heap Ay e C->Q (.ref e) {s with heap:=Ay,toks:=tk}):Ba (BK Aa.De Aa.w) A (Iq (.ref C) [v]) Q E s:=by
 clear Aa A s C f v cd Q E _ F ok G st l m q;have i:Aa.K.In s.heap:=ok.1.keeps st;calc G.1.o λB3 B N bs IF sn sub IG col IH HX DT DW CH II r=>?_;have p:=i _ _ r;calc Ww<|sW ?_;obtain⟨h,g,d,t,os⟩:=s;calc nd_load p ?_;show Ba _ _ (callAny.viaDunder (.ref C) _) _ _ _;calc AL<|(looks_specialIn i G.5).at ?_;dsimp only;rw[tc_bind];calc AL<|Bn<|AL<|Bn ?_;calc Bn (a:=Fin.again<|.call (.builtin "type.__call__") {[.ref C,v],[]})<|ZJ rfl ?_;calc codeAny_call_builtin_at (Code.quiet_builtin _<|by decide+kernel) entry_typeCall<|check_slot tc_kind tc_split (looks_instIn i G.6) (tc_args _ _ _) ?_;calc yr i p (by rfl) (by rfl) (by rfl) G.3 G.4 ?_;have up:∀b o,h.get? b=U o->((h.push {cls:=.type "tuple",data:=.seq [v].toArray}).push<|RX C h.objs.size).get? b=U o:=λb o e=>D9 _<|D9 _ e;have j:∀{b:BX},(∀c o,b.get? c=U o->h.get? c=U o)->b.get? (h.objs.size+1)=Ai:=λ{b} w=>by
  cases z:b.get? (h.objs.size+1) with
  |none=>rfl|some o=>exact ar (Gv<|w _ _ z)<|bz<|Ex _
 calc yy ok G.1 G.2 (λb o w=>up b o<|st b o w) m (l\(by show _<=((h.push _).push _).objs.size;rw[X2,X2];calc CD _ 2)) (by heap_get) (j st) λAy tk y=>?_;calc {rfl,q Ay tk _ {λb o w=>y.1 b o (λc=>nomatch D8 (rwl c w:h.get? (h.objs.size+1)=U o).symm (j bu))<|up b o w,j bu,?_}};calc cB y.2 λu x a e Z=>{u,x,a,e}
end
end
section
section
variable{M:Qq}{A:EI}{E:Aw->AM->Prop}{env:Env}{s:AM}
variable{B3 q:Str}{C N:As}{bs bm:-Aw}{IF:Bool}{sn:-Str}{sub:-Aw}{IG:Bool}{col:↥Bool}{IH:↥As}{HX DT DW CH II:↥Aw}{newId:String}
def yA{x:Sem Aw}{Q:Flow->AM->Prop}(b:bm.contains (.type "BaseException")=Y)(j:A.handled=Ai)
  (h:Ba M A x (λv a=>∃e c d a0,v=.ref e/\a.heap.get? C=U (SF B3 q C N bs bm IF sn sub IG col IH HX DT DW CH II newId)/\
   a.heap.get? e=U {.ref C,c,.fields<|Tw a0,d}/\E (.ref e) a) E s):
  Ba M A (raiseStmt env (U x) Ai) Q E s:=by
 have l:(Ir C::bm).contains (.type "BaseException")=Y:=by rw[Z6,b,tq]
 calc AL<|CW h (λv a f=>bI f λe c d w=>a6 w λa0 g i m o=>?_) bu;rw[g] at⊢;clear h f w g b
 repeat(first|with_reducible calc X6 m ?_|with_reducible calc X6 i ?_|(with_reducible calc kv i ?_;rw[l] at⊢)|wp_step)
 calc kc j o
end
def Aeg(z:A5)(s:AM)(BI e:As)(s':AM):Prop:=Dy
 (CJ z s s')
 (s.heap.get? e=Ai)
 (∃a b a0,s'.heap.get? e=U {.ref BI,a,.fields<|Tw a0,b})
def Abf(z:A5)(s:AM)(BI e:As)(s':AM):Prop:=Mo
 (Ez z s s')
 (z.Aa.W z.Aa.P->Mr z.Aa.P s'.heap)
 (∃m,s'.heap.Ns z.L m)
 (s.heap.get? e=Ai)
 (∃a b a0,s'.heap.get? e=U {.ref BI,a,.fields<|Tw a0,b})
def Jy(z:A5)(BI:As)(run:Env->Sem Flow):Prop:=∀s,AY z s->Ba (Dw z) z.V.A (run z.env) (λZ Z=>False) (λx a=>∃e,x=.ref e/\Aeg z s BI e a) s
def Jz(z:A5)(BI:As)(run:Env->Sem Flow)(Q:Fz->B5->Prop)(P:Prop):Prop:=∀s,AY z s->Ba (Dw z) z.V.A (run z.env) (Ef z s Q) (λx a=>∃e,x=.ref e/\P/\Abf z s BI e a) s
section
variable{z:A5}{F:Er}{s s1:AM}{BI a:As}{i:WE}{arg d:A2}{np g pos:Pos}{st:C8}{rest body:-C8}{Q:Fz->B5->Prop}{P:Prop}
def oe(ok:DY z.Aa)(G:QQ z.Aa BI a i F)(c:z.V.C.BN.names.lookup ("GrammarError":Str)=U .globalImplicit)(f:nsIn z.Aa.K Ed ("GrammarError":Str)=U (U<|.ref BI))(b:HQ arg=Ab)(h:∀s,AY z s->Ec z (D4 arg z.env) (λZ a=>CJ z s a) s):Jy z BI (DJ [.Raise (U<|.Call (.Name "GrammarError" np) [arg] [] g) Ai pos]):=by
 clear z BI a i arg np g pos _ F ok G c f b h;exactλs R=>by
  calc G.1.o λB3 m N bs IF sn sub IG col IH HX DT DW CH II p=>ae ok.4 λmg j Z=>Nz ?_;rw[arm_exec_Raise] at⊢;show Ba _ _ (do XY pos;raiseStmt z.env (U (do let v<-D4 (.Call (.Name "GrammarError" np) [arg] [] g) z.env;XY pos;pure v)) Ai) _ _ _;calc AL<|Rj<|yA (C:=BI) (B3:=B3) (q:=m) (N:=N) (bs:=bs) (bm:=[.ref a,.type "Exception",.type "BaseException",.type "object"]) (IF:=IF) (sn:=sn) (sub:=sub) (IG:=IG) (col:=col) (IH:=IH) (HX:=HX) (DT:=DT) (DW:=DW) (CH:=CH) (II:=II) (newId:="Exception.__new__") rfl z.V.Eb.1 (AL<|CW (Call_ ?_) (λv x r=>AL<|Rj<|Bn r) bu);calc ZW z.V.Hf (by show z.env.scope.names.lookup _=_;rw[z.V.BN];calc c) (j8 (by rw[z.V.NH];calc j.keeps R.1) (mg_of ok.1 j f) ?_) ∅;calc ZV ok.1 G.7 (Rd (CW (h s R) (λv s1 S=>Wk ?_) bL)<|cf b)<|cf b;calc {ok.1.keeps S.2.1,yz ok G S.2.1 S.2.ba.6 (DG (Du (by decide:1<=8) _)<|DG (G8 (CD _ _) 8) z.V.Eb.2) λAy tk e X=>?_};have l:CJ z s1 {s1 with heap:=Ay,toks:=tk}:=S.2.bp<|.b5 X.1;calc bI X.3 λt u a w=>{e,t,u,a,rfl,ok.1.keeps l.2.1 _ _ p,w,e,rfl,S.aH l,R.bq S.1 _ X.2,X.3}
def yB(H:Dj z (Gx st) λc a=>Aa6 (∀w,Mt (z.ax a w) d λb=>if b=Y then Jy (z.ax a w) BI (DJ body)/\P else Dj (z.ax a w) (DJ rest) Q) (Q · a) c):Jz z BI (DJ (st::.If d body [] pos::rest)) Q P:=by
 clear z BI d pos st rest body Q P _ H;exactλs R=>
  Nz (CW (H s R) (λBf s1 p=>p.rec λc Am q h o=>by
   have f:=o.4;cases c with
   |Tc=>calc f⊂{_,Am,q,h,o.1,o.2,o.3,rfl}|RB=>calc f⊂{_,Am,q,h,o.1,o.2,o.3,rfl}|BS t=>calc ae f λv e y=>e⊂{_,Am,q,h,o.1,o.2,o.3,v,rfl,y}|aX=>
    rw[show Bf=.next from f];calc Nz<|wpAny_If<|(h q).aG o.1 λb s2 j S=>?_;cases b with
    |false=>calc ZZ<|CW (j s2 S.2) (λa l b=>Ef.aH o.3 o.2<|Ef.fk o.1 S b) bL|true=>calc CW (j.1 s2 S.2) bL λx l X=>ae X λe a X=>{e,a,j.2,Cy.CG (Cy.CG o.3 o.2<|o.1.cg S.1) o.2<|S.2.cg X.1.1,X.1.2.3,ae X.1.2.7 λm r Z=>{m,r},o.3.bq az _<|o.1.bq S.1 _ X.2,X.3}) bL)
end
end
def Tz(Aa:C0)(X:As->Prop)(h:BX)(l:-Env):Prop:=∀env∈l,env.scope.kind=.function/\∃L m,env.frame=U L/\h.Ns L m/\X L/\¬Aa.W L
def RZ(Aa:C0)(X:As->Prop)(l:-Env)(s:AM)(BI e:As)(s':AM):Prop:=Dy
 (s'={s with heap:=s'.heap,toks:=s'.toks})
 (∃base a0,Heap.FlyingW base l e (.ref BI) a0 s'.heap/\(∀a o,s.heap.get? a=U o->¬Aa.W a->(∀env∈l,env.frame≠U a)->base.get? a=U o)/\(Aa.W Aa.P->Mr Aa.P base)/\∀a,Aa.W a->CF base a)
 (∀L m,X L->¬Aa.W L->s.heap.Ns L m->s'.heap.Ns L m)
section
variable{X:As->Prop}{s0 s1 g:AM}{i:-Env}{BI e:As}
def yC(C:z.V.A.frames=U (z.env::i))(j:z.env.frame=U z.L)(s:Tz z.Aa X s1.heap i)(D:∀a,X a->z.V.X a/\¬GA z.env a)(E:z.AO=[])(B:∀a o,s0.heap.get? a=U o->s1.heap.get? a=U o/\¬GA z.env a)(F:s1={s0 with heap:=s1.heap,toks:=s1.toks})(G:∀a,z.Aa.W a->CF s1.heap a)(y:Abf z s1 BI e g)
  (q:∀H,RZ z.Aa X i s0 BI e H->Q () H):Ba (Dw z) z.V.A (Vn z.env<|.ref e) Q (λZ Z=>False) g:=by
 clear X s0 s1 g i BI e z Q _ C j s D E B F G y q;exact bI y.5 λA H a0 Q=>ak y.3 λS A=>by
  have CB:∀a o,s1.heap.get? a=U o->¬z.Aa.W a->¬GA z.env a->g.heap.get? a=U o:=λa o w n p=>y.1.2 a o w (λc=>c.elim n λc=>c.elim p λc=>aS (E▸c:a∈[])) aS;have I:∀L m,X L->¬z.Aa.W L->s1.heap.Ns L m->g.heap.Ns L m:=λL m x w n=>n.at' λo q=>CB L o q w (D L x).2;have yD:∀env∈i,∀L,env.frame=U L->¬z.Aa.W L:=λa h L f w=>aC (s a h) λZ h=>dg h λa m b Z Z c=>c<|BQ (b.symm^f)▸w;have yE:∀env∈i,env.scope.kind≠.module/\∃L m,env.frame=U L/\g.heap.Ns L m:=λa h=>aC (s a h) λa h=>dg h λL m f n x w=>{by rw[a];decide,L,m,f,I L m x w n}
  have yF:∀Dl:-Env,(∀env∈Dl,env.scope.kind≠.module/\∃L m,env.frame=U L/\g.heap.Ns L m)->∀DB:-As,(∀env∈Dl,∀L,env.frame=U L->L∈DB)->g.heap.FunFrames (QD g.heap DB) Dl:=λa=>by
   cases a with
   |nil=>calcλZ Z Z=>trivial|cons env a KQ=>exactλh a M=>aC (h env<|.head _) λb c=>bP c λL m f n=>Heap.FunFrames.cons b f n (tr _<|M env (.head _) L f)<|KQ (λe c=>h e<|.tail _ c) a λe c=>M e<|.tail _ c
  have N:∀{c},c∈e::z.L::i.filterMap (·.frame)->c=e\/c=z.L\/∃env∈i,env.frame=U c:=λ{c} h=>(aK h).imp_right λh=>(aK h).imp_right Wh.mp;have HT:g.heap.FunFrames (QD g.heap (e::z.L::i.filterMap (·.frame))) (z.env::i):=yF _ (λa h=>(aK h).elim (λe=>e▸{by rw[z.V.Hf];decide,_,S,j,A})<|yE a) _ λa h L f=>.tail _<|(aK h).elim (λe=>BQ (j.symm^(e▸f))▸.head _) λh=>.tail _<|Wh.mpr {a,h,f};have P:(QD g.heap (e::z.L::i.filterMap (·.frame))).get? e=Ai:=tr _<|.head _;have r:∀{a o},g.heap.get? a=U o->z.Aa.W a->a≠e->(QD g.heap (e::z.L::i.filterMap (·.frame))).get? a=U o:=λ{a o} h w b=>ts _ h λc=>(N c).elim b λc=>c.elim (λd=>z.V.Iz<|show z.Aa.W z.L from d▸w) λc=>ae c λa h f=>yD a h _ f w;have bx:∀a,z.Aa.W a->a≠e:=λa w d=>CF.bx (G a w)<|d▸y.4;calc wpAny_leaving_firstW (a0:=.ref a0) C HT j Q (λb o w=>of_hideAll _ w) P rfl rfl rfl λb l=>eH l λb e g i=>q _ {by rw[y.1.1,F],{_,.ref a0,{b,P,e.2.2,g},λa o w n r=>aC (B a o w) λR p=>ts _ (CB a o R n p) λc=>(N c).elim (λd=>bl (d▸y.4) R) λc=>c.elim (λd=>p<|.inl d) λc=>ae c λa h f=>r a h f,λw=>a4 (y.2 w) λn c p=>a4 p λt u p=>ak p λo q=>{n,c,t,u,o,r q.1 w<|bx _ w,q.2},λa w=>ae (y.1.3 a<|.inl w) λa b c=>{a,r b w<|bx _ w,c}},λL m x w n=>Heap.UpToSlots.ns i<|I L m x w<|n.at' λo q=>(B L o q).1}
end
def Nb(Aa:C0)(X:As->Prop)(l:-Env)(s:AM)(Q:T->Prop)(v:Aw)(s':AM):Prop:=MO
 (s'={s with heap:=s'.heap,toks:=s'.toks})
 (∀a o,s.heap.get? a=U o->¬Aa.W a->(∀env∈l,env.frame≠U a)->s'.heap.get? a=U o)
 (∀L m,X L->¬Aa.W L->s.heap.Ns L m->s'.heap.Ns L m)
 (∀a,Aa.W a->CF s'.heap a)
 (Aa.W Aa.P->Mr Aa.P s'.heap)
 (∃t f,Q t/\A9 Aa X s'.heap t v f/\f.Nodup/\∀a∈f,s.heap.get? a=Ai)
def QR(Aa:C0)(k:Nat)(F:Er)(BI:As)(Av:-T)(Q:T->Prop)(P:Prop):Prop:=Em
 (J Av+J F.E3=J F.FR)
 (∀z:A5,z.Aa=Aa->z.V.C=F.C->z.V.k=k->z.Am=F.Gg Av->Jz z BI (DJ F.Eg) (V5 Q) P)
section
variable{Aa:C0}{X:As->Prop}{s:AM}{BI:As}{Q:T->Prop}{z:A5}{b:BX}{tk:Nat}
def Yv.yG(p:Yv Aa X [] s z b)(S:Ef z {s with heap:=b,toks:=tk} (V5 Q) f s2):Nb Aa X [] s Q (Flow.LO f) s2:=by
 clear Aa X s Q z b tk f s2 _ p S;calc IC.rec (λc Am q d P=>by
  induction p.1;have nw:∀a o,s.heap.get? a=U o->¬z.Aa.W a->¬z.IB a:=λa o w n c=>c.elim n λc=>c.elim (λc=>bl (p.4 a c) w) λc=>aS (rwl p.3 c:a∈[]);calc {P.3.1,λa o w n Z=>P.3.2 a o (p.5 a o w) (nw a o w n) aS,λL m x w n=>n.at' λo q=>P.3.2 L o (p.5 L o q) (nw L o q w) aS,λa w=>P.3.3 a<|.inl w,P.1.3,?_};have Bf:=P.4;cases c with
  |aX=>calc Bf⊂{_,[],d,{rfl,rfl},.nil,az}|BS t=>calc ae Bf λv e g=>aE g λg y b i=>e⊂{_,g,d,A9.cy (λa h=>.inl<|p.2 a h) y,b,λa h=>(i a h).elim (λc=>aS (p.3▸c:a∈[]))<|gF p.5 a}|_=>calc d.elim) S
def Nb.pre(h:∀a o,s.heap.get? a=U o->¬Aa.W a->s1.heap.get? a=U o)(hs:s1={s with heap:=s1.heap,toks:=s1.toks})(g:Hh s.heap s1.heap)(d:∀a,X a->i a)(y:Nb Aa i [] s1 Q v s'):Nb Aa X l s Q v s':=⟨
 (by rw[y.1,hs]),
 (λa o w n Z=>y.2 a o (h a o w n) n λZ m=>ar m CR),
 (λL m x w n=>y.3 L m (d L x) w<|n.at' λo e=>h L o e w),
 (y.4),
 (y.5),
 (dg y.6 λt f q y b e=>{t,f,q,A9.cy (λa c=>.inl<|d a c) y,b,λa c=>g a<|e a c})⟩
def yH(ok:DY Aa)(H:HS Aa F)(g:QR Aa k F BI Av Q P)(B:Lx Aa X s)(c:FL (k+1) A)(y:Bl Aa X s.heap Av Ae [])(l:A.frames=U outer)(r:Tz Aa X s.heap outer)
  (aR:∀v s2,Nb Aa X [] s Q v s2->i (.ok<|.ret v) s2)(t:P->∀e s2,RZ Aa X outer s BI e s2->i (.error<|.ref e) s2):G9 (BK Aa.De Aa.w) A (.call (.ref F.FQ) {Ae,[]}) i s:=enter ok H B.1 c.d (y.bo⊂g.1) λd i b A E Z u C I=>by have R:=h6 H.1 (c.cK d) B E I C (y.a9 (λa h=>.inl<|h.elim id aS) λZ Z e Z=>e) u az .nil;have j:∀a o,s.heap.get? a=U o->¬GA d a:=λa o w p=>bl (E.cP I a p) w;calc CW (g.2 {RL H.1 (c.cK d) B E I,F.Gg Av,_,[]} rfl rfl rfl rfl _ R) (λf a p=>aR _ a<|Yv.yG (z:={RL H.1 (c.cK d) B E I,F.Gg Av,_,[]}) (X:=X) {rfl,λZ=>.inl,rfl,E.cP I,I.toInCall.keep} p) λx b p=>aE p λe b D p=>b▸yC (Around.frames_deeper l) E.6 (λd h=>aC (r d h) λa h=>dg h λL m f n x w=>{a,L,m,f,n.at' λo q=>I.toInCall.keep L o q,x,w}) (λa h=>{Or.inl h,ae (B.2 a h) λo q Z=>j a o q}) rfl (λa o w=>{I.toInCall.keep a o w,j a o w}) rfl (λa w=>(B.2 a<|B.5 a w).at λo=>I.toInCall.keep a o) p λG M=>t D e G M
end
def W4(S:Dz)(a:Str):Prop:=MO
 (S.kind=.function)
 (S.isCoroutine=Ab)
 (S.isGenerator=Ab)
 (∀x∈S.names,x.2≠.cell)
 (S.names.lookup ("grammar":Str)=U .free)
 (S.names.lookup a=U .globalImplicit)
abbrev QS(S:Dz):Ea:={[U ("grammar":Str)],S}
def TA(Aa:C0)(X:As->Prop)(h:BX)(cl:-(Str×As)):Prop:=Em
 (∀x c,cl.lookup x=U c->X c/\¬Aa.W c/\∃v,h.IsCell c v)
 (∀x y c,cl.lookup x=U c->cl.lookup y=U c->x=y)
def JA(AF:XZ)(S:Dz)(qual:Str)(cl:-(Str×As))(W5:Aw)(b:A2):Prop:=S0
 (AF.scope=S)
 (AF.body=.expr b)
 (AF.globals=Ed)
 (AF.builtins=Ip)
 (AF.closure=cl)
 (AF.qualname=qual)
 (AF.code=W5)
 (bindArgs AF {[],[]}=pure [])
section
variable{Aa:C0}{k:Nat}{X:As->Prop}{s:AM}{A:EI}{H:-Env}{BI:As}{S:Dz}{qual:Str}{g:-(Str×As)}{I Bf:As}{r:Aw}{t:T}{E:Aw}{np TB:Pos}{o:Obj}{AF:XZ}{Q:T->Prop}
def YN(b:W4 S p)(B:Lx Aa X s)(a:FL k (A.deeper<|envX qual S s.heap.objs.size Bf r g))(K:TA Aa X s.heap g):DS where
 Aa:=Aa
 C:=QS S
 k:=k
 A:=A.deeper (envX qual S s.heap.objs.size Bf r g)
 env:=envX qual S s.heap.objs.size Bf r g
 X a:=X a\/a=s.heap.objs.size
 Eb:=a
 BN:=rfl
 Hf:=b.1
 NH:=rfl
 S6:=rfl
 S7:=by show(S.kind==.module&&_)=Ab;rw[b.1];rfl
 S8 i j x Cj d:=by have l:∀{i:Nat},(QS S).Aq[i]?=U (U x)->i=0:=λ{i} h=>kx.mp<|bK h;rw[l Cj,l d]
 Rv x h:=ar rfl (b.4 (x,.cell)<|fy h)
 Rw x y c f m:=K.2 x y c f m
 Rx:=B.6
 Hg:=.inr rfl
 LY x c h:=.inl (K.1 x c h).1
 Iz h:=CF.bx (B.2 _<|B.5 _ h) (bU s.heap)
 Ms x c h:={(K.1 x c h).2.1,λe=>a4 (K.1 x c h).2.2 λZ o q=>bl (bU s.heap)<|ah s.heap.get? e.symm^q.1}
 Ht a h:=h.elim (B.4 a) λh=>by
  cases e:Aa.Cx.get? a with
  |none=>rfl|some o=>exact bl (bU s.heap) (ah s.heap.get? h.symm^B.1 a o e)
 wx a h:=.inl<|B.5 a h
def yI(d:W4 S D)(B:Lx Aa X s)(a:FL k (A.deeper<|envX qual S s.heap.objs.size Bf r g))(K:TA Aa X s.heap g)(z:g.lookup ("grammar":Str)=U I)(A4:s.heap.IsCell I (U E))(y:A9 Aa X s.heap t E [])(f:j.Ns s.heap.objs.size m)(up:∀b o,s.heap.get? b=U o->j.get? b=U o):
  AY {YN d B a K,[U t],[E],[]} {s with heap:=j,toks:=tk}:=⟨
 (λb o e=>up b o<|B.1 b o e),
 (λa h=>h.elim (λh=>(B.2 a h).at<|up a) λh=>h⊂cO f),
 (λw=>a4 (B.3 w) λn c p=>a4 p λt u p=>ak p λo q=>{n,c,t,u,o,up _ _ q.1,q.2}),
 (λZ h=>aS h),
 (.nil),
 (Bl.Cf (A9.a9 (λa h=>h.elim (·.elim .inl λh=>.inr<|h⊂bU s.heap) aS) t (λa o e Z=>up a o e) y)),
 (⟨m,f,λi x u l F=>by have C:=kx.mp<|bK l;subst C;cases l;calc {E,rfl,.inr {.inr d.5,I,z,ak A4 λo q=>{o,up _ _ q.1,q.2}}}⟩),
 (λx c h=>a4 (K.1 x c h).2.2 λv o q=>{v,o,up _ _ q.1,q.2})⟩
def RZ.yL{Q:Unit->AM->Prop}(y:RZ Aa h (env::H) s4 BI e s5)(i:j.frames=U (env::H))(d:env.frame=U L)(l:∀a,X a->h a)(p:s4={s with heap:=s4.heap,toks:=s4.toks})(Ax:∀a o,s.heap.get? a=U o->¬Aa.W a->s4.heap.get? a=U o/\a≠L)
  (q:∀f,RZ Aa X H s BI e f->Q () f):Ba (BK Aa.De Aa.w) j (Vn env<|.ref e) Q (λZ Z=>False) s5:=dg y.2 λf g h j u z=>wpAny_leaves_onW i d h λh i r=>q _ {by rw[y.1,p],{f,g,i,λa o w n B=>j a o (Ax a o w n).1 n λC h c=>(aK h).elim (λe=>(Ax a o w n).2<|BQ<|c.symm^(e⊂d)) λh=>B C h c,u,z},λb m x w n=>r.ns<|y.3 b m (l b x) w<|n.at' λo e=>(Ax b o e w).1}
def yM(ok:DY Aa)(Dn:HS Aa F)(i:W4 S l)(YQ:(l,.ref F.FQ)∈Aa.G)(YR:Pe Aa.K (.ref F.FQ)=Y)(EP:(l==("__debug__":Str))=Ab)(RY:I5 (AW::AE)=Y)(Tn:∀z:A5,z.Aa=Aa->z.V.C=QS S->z.V.k=k+1->z.Am=[U t]->HN z (AW::AE) Y λa=>QR Aa k F BI a Q P)
  (WK:s.heap.get? Bf=U o)(YS:o.data=.func AF)(D:JA AF S qual g r (.Call (.Name l np) (AW::AE) [] TB))(W6:s.heap.CodeRec r qual)(B:Lx Aa X s)(u:FL (k+2) A)(K:TA Aa X s.heap g)(A4:g.lookup ("grammar":Str)=U I)(A8:s.heap.IsCell I (U E))(y:A9 Aa X s.heap t E [])(M:A.frames=U H)(og:Tz Aa X s.heap H)
  (aR:∀v s',Nb Aa X [] s Q v s'->p (.ok<|.ret v) s')(oh:P->∀e s',RZ Aa X H s BI e s'->p (.error<|.ref e) s'):G9 (BK Aa.De Aa.w) A (.call (.ref Bf) {[],[]}) p s:=by
 clear Aa k X s A H BI S l _ qual g I Bf r t E AW AE _ np TB o AF Q P p _ F ok Dn i YQ YR EP RY Tn WK YS D W6 B u K A4 A8 y M og aR oh;calc kla_callFunE u.d WK YS (D.1▸i.2) (D.1▸i.3) D.2 (D.7▸D.6▸W6) ?_;rw[D.8,D.1,D.3,D.4,D.5,D.6,D.7] at⊢;calc Bn<|AiU i.4 (λZ h=>ar h CR) (λWU oi To=>?_) i.1;have up:∀b o,s.heap.get? b=U o->WU.get? b=U o:=λb o e=>To.extBut b o (EX<|Gv e)<|D9 _ e;calc {(ok.2.keeps B.1).keeps up,kla_codeExpr ?_};have Eb:=u.cK<|envX qual S s.heap.objs.size Bf r g;have R:=yI i B Eb K A4 A8 y (tk:=s.toks+0) oi up;calc CW (?_:Ba (BK Aa.De Aa.w) (A.deeper<|envX qual S s.heap.objs.size Bf r g) _ (λv a=>Nb Aa X [] s Q v a) (λx a=>∃e,x=.ref e/\Ba (BK Aa.De Aa.w) (A.deeper<|envX qual S s.heap.objs.size Bf r g) (Vn (envX qual S s.heap.objs.size Bf r g)<|.ref e) (λZ a=>p (.error<|.ref e) a) (λZ Z=>False) a) _) (λv a w=>aR v a w) λx a w=>ae w λe a w=>a▸CW w bu bL;have RI:=eT RY;calc Call_<|hU (z:={YN i B Eb K,[U t],[E],[]}) ok i.6 YQ EP R<|ZV ok.1 YR ((Tn {YN i B Eb K,[U t],[E],[]} rfl rfl rfl rfl).aG R λAe s4 Av yN j yP=>{ok.1.keeps j.2.1,?_}) (cf RI.1)<|eW RI.2;have N:∀a o,s.heap.get? a=U o->¬Aa.W a->s4.heap.get? a=U o/\a≠s.heap.objs.size:=λa o w n=>have d:=EX<|Gv w;{j.1.2 a o (up a o w) n d,d};refine Ww<|yH ok Dn yN j.2.ba Eb (ae yP λf y e=>e▸y) (Around.frames_deeper M) (λf h=>(aK h).elim (λe=>e▸{i.1,_,_,rfl,j.1.3 _ oi,.inr rfl,(YN i B Eb K).Iz}) λh=>aC (og f h) λa h=>dg h λL m b c d w=>{a,L,m,b,c.at' λo q=>(N L o q w).1,.inl d,w}) (λv s5 yQ=>?_) λBA e s5 yR=>{e,rfl,?_}
 ·exact Nb.pre (λa o w n=>(N a o w n).1) j.1.1 (λa b=>gF up a<|R.bq j.1 a b) (λZ=>.inl) yQ
 ·calc RZ.yL (s:=s) yR (Around.frames_deeper M) rfl (λZ=>.inl) j.1.1 N λa b=>oh BA e a b
end
abbrev oj(p:Nat->Pos)(u:Nat):-ExceptHandler:=[.ExceptHandler (U<|.Name "GrammarError"<|p 3) Ai [.Return (U<|.Constant .none u<|p 4)<|p 5]<|p 6]
def Abg(p:Nat->Pos)(u:Nat):-C8:=[.Try [.Return (U<|.Call (.Name "ask"<|p 0) [] []<|p 1)<|p 2] (oj p u) [] []<|p 7]
def YT(Aa:C0)(Hj:Er):Prop:=MO
 (HS Aa Hj)
 (Hj.FR=(["ask"]:-Str))
 (Hj.E3=[])
 (Hj.BN.names.lookup ("ask":Str)=U .local)
 (Hj.BN.names.lookup ("GrammarError":Str)=U .globalImplicit)
 (∃(p:Nat->Pos) (u:Nat),Hj.Eg=Abg p u)
def Lx.yS(B:Lx Aa X s)(up:∀a o,s.heap.get? a=U o->Ay.get? a=U o)(d:L=s.heap.objs.size)(f:Ay.Ns L m):Lx Aa (λa=>X a\/a=L) {s with heap:=Ay,toks:=tk}:=⟨
 (λb o e=>up b o<|B.1 b o e),
 (λa h=>h.elim (λh=>(B.2 a h).at<|up a) λh=>h⊂cO f),
 (λw=>a4 (B.3 w) λn c p=>a4 p λt u p=>ak p λo q=>{n,c,t,u,o,up _ _ q.1,q.2}),
 (λa h=>h.elim (B.4 a) λh=>by
  cases e:Aa.Cx.get? a with
  |none=>rfl|some o=>calc bl (bU s.heap)<|ah s.heap.get? (d.symm.trans h.symm)^B.1 a o e),
 (λa h=>.inl<|B.5 a h),
 (B.6\(d∣BY f.lt))⟩
section
variable{Aa:C0}{GC:Er}{BI:As}
def TA.a9(K:TA Aa X h cl)(d:∀a,X a->e a)(up:∀a o,h.get? a=U o->Ay.get? a=U o):TA Aa e Ay cl:={λx c w=>cT (K.1 x c w) λa b q=>a4 q λv o q=>{d c a,b,v,o,up _ _ q.1,q.2},K.2}
def Tz.c6(g:Tz Aa X h outer)(i:∀a,X a->f a)(up:∀a o,h.get? a=U o->Ay.get? a=U o)(Ax:env.scope.kind=.function)(j:env.frame=U L)(n:Ay.Ns L m)(x:f L)(w:¬Aa.W L):Tz Aa f Ay (env::outer):=
 λe h=>(aK h).elim (λh=>h.symm▸{Ax,L,m,j,n,x,w}) λh=>aC (g e h) λa h=>dg h λL m b c d w=>{a,L,m,b,c.at' λo q=>up L o q,i L d,w}
def yT(ok:DY Aa)(G:RK Aa.K BI Hi cd)(j:nsIn Aa.K Ed ("GrammarError":Str)=U (U<|.ref BI))(Ax:env.scope.kind=.function)(l:env.kindOf ("GrammarError":Str)=U .globalImplicit)(m:env.globals=Ed)
  (r:A.frames=U (env::outer))(s:env.frame=U L)(x:RZ Aa X (env::outer) s1 BI e s5)(st:∀b o,Aa.Cx.get? b=U o->s1.heap.get? b=U o/\¬Aa.W b/\∀f∈env::outer,f.frame≠U b)
  (q:∀d,(∀a o,s1.heap.get? a=U o->¬Aa.W a->(∀f∈env::outer,f.frame≠U a)->d.get? a=U o)->(Aa.W Aa.P->Mr Aa.P d)->(∀a,Aa.W a->CF d a)->s5.heap.UpToSlots d->y (.ret .none) {s5 with heap:=d}):
  Ba (BK Aa.De Aa.w) A (noteFrame (.ref e) env) (λZ C=>Ba (BK Aa.De Aa.w) A (setFlight (.ref e) Ai) (λZ D=>Ba (BK Aa.De Aa.w) A (handleBy (.ref e) env<|oj p u) y g D) g C) g s5:=by
 clear Aa X A outer BI Hi cd env _ s1 s5 e L p u y g _ ok G j Ax l m r s x st q;exact dg x.2 λbase a0 f1 f2 E F=>by calc wpAny_looks_onW r s f1 λS H VH=>wpAny_landsW H λTj h VI=>ae h.there λKs I M=>ae ok.4 λmg z Z=>?_;have B:=λb o e=>h.1 b o<|f2 b o (st b o e).1 (st b o e).2.1 (st b o e).2.2;calc wpAny_handleBy_cons (codeAny_handlers_test<|ZW Ax l (j8 (m⊂z.keeps B) (mg_of ok.1 z j)<|G.o λB3 Akq N bs IF sn sub IG col IH HX DT DW CH II Q=>wpAny_excMatches_sub_self (ok.1.keeps B _ _ Q) I M rfl (codeAny_handlers_suite ?_)) ∅) (by intro q;delta q);calc lands_againW h λd i b=>Nz<|Vj<|Va<|q d (λa o w n R=>i.1 a o<|f2 a o w n R) (λw=>a4 (E w) λn c p=>a4 p λt u p=>ak p λo q=>{n,c,t,u,o,i.1 _ _ q.1,q.2}) (λa w=>(F a w).at<|i.1 a)<|(VH.trans VI).trans b
def yW(ok:DY Aa)(G:QQ Aa BI Hi cd GC)(f:YT Aa Hj)(yX:nsIn Aa.K Ed ("GrammarError":Str)=U (U<|.ref BI))(Dn:HS Aa F)(yK:W4 S l)(YQ:(l,.ref F.FQ)∈Aa.G)(YR:Pe Aa.K (.ref F.FQ)=Y)(EP:(l==("__debug__":Str))=Ab)(RY:I5 (AW::AE)=Y)(Tn:∀z:A5,z.Aa=Aa->z.V.C=QS S->z.V.k=k+1->z.Am=[U t]->HN z (AW::AE) Y λa=>QR Aa k F BI a Q<|Q .none)
  (H:s.heap.get? Bf=U o)(M:o.data=.func AF)(D:JA AF S qual cl W5 (.Call (.Name l np) (AW::AE) [] TB))(W6:s.heap.CodeRec W5 qual)(B:Lx Aa X s)(N:FL (k+3) A)(K:TA Aa X s.heap cl)(A4:cl.lookup ("grammar":Str)=U JB)(A8:s.heap.IsCell JB (U YW))(y:A9 Aa X s.heap t YW [])(yZ:A.frames=U outer)(P:Tz Aa X s.heap outer)
  (aR:∀v s',Nb Aa X outer s Q v s'->Je (.ok<|.ret v) s'):G9 (BK Aa.De Aa.w) A (.call (.ref Hj.FQ) {[.ref Bf],[]}) Je s:=enter ok f.1 B.1 N.d (by rw[f.2,f.3];rfl) λenv GJ Ay tk E Z Akr iE I=>by
 have up:=I.toInCall.keep;have j:=E.6;have Ax:env.scope.kind=.function:=E.2⊂f.1.1.3;have Cr:∀{x},env.kindOf x=Hj.BN.names.lookup x:=λ{x}=>ah (λS:Dz=>S.names.lookup x) E.2;have R:∀a o,s.heap.get? a=U o->a≠env.locals:=λa o w d=>bl (E.cP I a<|.inl d) w;have I9:Lx Aa (λa=>X a\/a=env.locals) {s with heap:=Ay,toks:=tk}:=B.yS up E.1 I.toInCall.ns;have QL:A9 Aa (λa=>X a\/a=env.locals) Ay t YW []:=A9.a9 (λa h=>h.imp_right λh=>E.cP I a<|.inl h) t (λa o e Z=>up a o e) y;have yY:Heap.CodeRec Ay W5 qual:=a4 W6 λc a q=>a4 q λb t q=>{c,a,b,t,q.1,up _ _ q.2.1,q.2.2}
 have ask:env.kindOf ("ask":Str)=U .local:=Cr^f.4;have om:(A.deeper env).frames=U (env::outer):=Around.frames_deeper yZ;have yU:∀b o,Aa.Cx.get? b=U o->Ay.get? b=U o/\¬Aa.W b/\∀g∈env::outer,g.frame≠U b:=λb o w=>{up b o<|B.1 b o w,λc=>bl (B.4 b<|B.5 b c) w,λg h c=>(aK h).elim (λh=>bl (I9.4 _<|.inr rfl)<|ah Aa.Cx.get? (BQ<|j.symm.trans (h∣c))^w) λh=>aC (P g h) λZ h=>dg h λL m a Z d Z=>bl (B.4 L d)<|ah Aa.Cx.get? (BQ<|a.symm.trans c)^w}
 calc a4 f.6 λp u yV=>?_;rw[yV] at⊢;calc Nz<|wpAny_Try_except<|Nz<|Vj<|Call_<|Wj (sE Ax ask I.toInCall.ns ((gC _ _ (λZ=>Ai) (λZ=>Ai) (dH f.1.1.2) (i:=0) (f.2⊂rfl) rfl).1 ask)<|callWith_function<|evalArgs_nil3 {{up _ _ H,M},Ww ?_}) ∅;calc yM ok Dn yK YQ YR EP RY Tn (up _ _ H) M D yY I9 (N.cK env) (K.a9 (λZ=>.inl) up) A4 (ak A8 λo q=>{o,up _ _ q.1,q.2}) QL om (P.c6 (λZ=>.inl) up Ax j I.toInCall.ns (.inr rfl) λw=>ae (B.2 _<|B.5 _ w) λo q Z=>ar rfl (R _ o q)) (λv b w=>aR v b<|Nb.pre (λa o w Z=>up a o w) rfl (gF up) (λZ=>.inl) w) λb e d r=>yT ok G.1 yX Ax (Cr^f.5) E.4 om j r yU λf i l p q=>aR .none {d with heap:=f} {by rw[r.1],λa o w n b=>i a o (up a o w) n λg h c=>(aK h).elim (λh=>R a o w<|BQ<|c.symm^(h⊂j)) λh=>b g h c,λL m x w n=>q.ns<|r.3 L m (.inl x) w<|n.at' λo e=>up L o e,p,l,.none,[],b,{rfl,rfl},.nil,az}
end
def L3(V:DS)(P c:As):Prop:=VL
 (V.A.frames=U [V.env])
 (V.env.frame=U V.env.locals)
 (V.env.code=.ref c)
 (CodeHd V.Aa.Cx c P)
 (V.X P)
 (¬V.Aa.W P)
 (¬GA V.env P)
 (∃mg bm a,V.Aa.Cx.Ns Ed mg/\mg ("__builtins__":Str)=U (.ref bm)/\bm≠Ip/\bm≠Ed/\bm≠P/\V.Aa.Cx.get? bm=U a/\a.cls=.type "module"/\a.dict=U Ip/\a.data=.plain)
 (Ed≠P)
def L3.b(T:L3 V P c){Q:Prop}(k:∀mg bm a,V.Aa.Cx.Ns Ed mg->mg ("__builtins__":Str)=U (.ref bm)->bm≠Ip->bm≠Ed->bm≠P->V.Aa.Cx.get? bm=U a->a.cls=.type "module"->a.dict=U Ip->a.data=.plain->Q):Q:=
 cB T.8 λb c a h q=>k b c a h q.1 q.2.1 q.2.2.1 q.2.2.2.1 q.2.2.2.2.1 q.2.2.2.2.2.1 q.2.2.2.2.2.2.1 q.2.2.2.2.2.2.2
def Abh(h:BX)(P:As)(AN:Array Aw):Prop:=Em
 (h.get? P=U (Qp AN))
 (TriplesOk AN.toList)
def Abi(Aa:C0)(C:Ea)(Hj F:Er)(S:Dz)(a:Str)(i:Nat):Prop:=VM
 (W4 S a)
 (∀p∈S.names,p.2=.free->p.1=("grammar":Str))
 (C.BN.names.lookup ("_law_or_none":Str)=U .globalImplicit)
 ((("_law_or_none":Str),.ref Hj.FQ)∈Aa.G)
 (Pe Aa.K (.ref Hj.FQ)=Y)
 ((a,.ref F.FQ)∈Aa.G)
 (Pe Aa.K (.ref F.FQ)=Y)
 ((a==("__debug__":Str))=Ab)
 (C.Aq[i]?=U (U ("grammar":Str)))
 (C.BN.names.lookup ("grammar":Str)=U .cell)
section
variable{GC:Er}{BI:As}
def Nb.yJ(R:AY z s)(b:z.env.frame=U z.L)(y:Nb z.Aa z.V.X [z.env] s e v s'):Yu z s e v s':=dg y.6 λt f q r e i=>
 {t,f,q,R.aU {y.1,λa o w n d=>y.2 a o w n λa h c=>d (by cases aF h;calc BQ<|c.symm^b),λm g=>y.3 _ m z.V.Hg z.V.Iz g,λa o w Z Z=>y.4 a w} y.5,r,e,i}
def yO(ok:DY z.Aa)(G:QQ z.Aa BI Hi cd GC)(r:YT z.Aa Hj)(u:nsIn z.Aa.K Ed ("GrammarError":Str)=U (U<|.ref BI))(Dn:HS z.Aa F)(g:Abi z.Aa z.V.C Hj F S H i)(j:L3 z.V P c)(Ax:z.V.k=k+4)(I:I5 (AW::AE)=Y)(L:∀l:A5,l.Aa=z.Aa->l.V.C=QS S->l.V.k=k+1->l.Am=[U t.D5]->HN l (AW::AE) Y λa=>QR z.Aa k F BI a (Gh Q)<|Gh Q .none)
  (p:z.Am[i]?=U (U t))(R:AY z s)(has:∀n,(n,NameKind.free)∈S.names->∃c,cl.lookup n=U c)(sub:∀n c,cl.lookup n=U c->z.env.cells.lookup n=U c)(up:∀a o,¬a=P->s.heap.get? a=U o->d.get? a=U o)(M:d.get? P=U F3)(N:d.get? Bf=U W)(EK:∃AF,W.data=.func AF/\JA AF S qual cl W5 (.Call (.Name H np) (AW::AE) [] TB))(X:d.CodeRec W5 qual)(hw:F3.cls≠.type "tuple")
  (W7:AY z {s with heap:=d,toks:=tk}->∀v s',LU z {s with heap:=d,toks:=tk} Q v s'->JC v s'):z.Aa.K.In d/\Ba (Dw z) z.V.A (Iq (.ref Hj.FQ) [.ref Bf]) JC E {s with heap:=d,toks:=tk}:=by
 have b:=R.dx (B:=(·=P)) (tk:=tk) (Dk.bS z) (λZ h=>h) (λa h=>h⊂{j.5,j.6,j.7}) up λa Z h=>h⊂{_,M,λw=>hw w.1};calc ae EK λAF YS D=>ak (has _<|fy g.1.5) λJB q=>ae b.7 λm y0 y1=>ae (y1 i _ t g.9 p) λYW v1 v2=>?_;have A8:d.IsCell JB (U YW):=v2.elim (λw=>nomatch D8 w.1.symm ((ah (λS:Dz=>S.names.lookup ("grammar":Str)) z.V.BN).trans g.10)) λw=>ae w.2 λa b c=>BQ (b.symm^sub _ _ q)∣c;have cD:=(b.b6 p v1).aM b b.bb;calc {ok.1.keeps b.1,Ww<|yW (s:={s with heap:=d,toks:=tk}) ok G r u Dn g.1 g.6 g.7 g.8 I L N YS D X b.ba (FL.iC (k:=k+3)<|Ax∣z.V.Eb) ({λx c h=>{z.V.LY x c<|sub x c h,(z.V.Ms x c<|sub x c h).1,b.8 x c<|sub x c h},λx y c a b=>z.V.Rw x y c (sub x c a)<|sub y c b}) q A8 (ae cD λf y e=>(show f=[] from e)∣y) j.1 (λa h=>(aF h).symm∣{z.V.Hf,_,m,j.2,y0,z.V.Hg,z.V.Iz}) λv a w=>W7 b v a<|(w.yJ b j.2).LO b b.bk}
def y2(ok:DY z.Aa)(G:QQ z.Aa BI Hi cd GC)(D:YT z.Aa Hj)(H:nsIn z.Aa.K Ed ("GrammarError":Str)=U (U<|.ref BI))(Dn:HS z.Aa F)(f:Abi z.Aa z.V.C Hj F S I i)(g:L3 z.V P c)(Ax:z.V.k=k+4)(j:I5 (AW::AE)=Y)(L:∀h:A5,h.Aa=z.Aa->h.V.C=QS S->h.V.k=k+1->h.Am=[U t.D5]->HN h (AW::AE) Y λa=>QR z.Aa k F BI a (Gh Q)<|Gh Q .none)
  (M:z.Am[i]?=U (U t))(R:AY z s)(q:Abh s.heap P AN)(r:codeAmong l AN.toList=Ai)
  (N:∀s1 m v s',s1={s with heap:=s1.heap,toks:=s1.toks}->(∀a o,a≠P->s.heap.get? a=U o->s1.heap.get? a=U o)->s1.heap.get? P=U (Qp<|AN++#[It l.line,It l.col,.ref m])->AY z s1->LU z s1 Q v s'->W v s'):
  Ba (Dw z) z.V.A (D4 (.Call (.Name "_law_or_none" p) [.Lambda {[],[],Ai,[],[],Ai,[]} (.Call (.Name I np) (AW::AE) [] TB) S l] [] pos) z.env) W E s:=by
 calc g.b λmg bm X u x a3 cp dm ep fE fF gW=>ak (z.V.Rv _ f.10) λy3 y=>ak (mr (S:=S) (env:=z.env) λp j a=>{y3,f.2 p j a⊂y}) λcl o=>Call_<|hU ok f.3 f.4 ∅ R<|ZV ok.1 f.5<|Rd (kla_eval rfl (kla_makeFunction (mg:=mg) o.1 z.V.NH (u.keeps R.1) g.3 (g.4.keeps R.1) q.1 q.2 r g.9 {bm,X,x,a3,cp,dm,R.1 _ _ ep,fE,fF,gW} λm Aks Ay tk RQ Akt ng y4 y5=>Wk ?_)) rfl;clear u x a3 cp dm ep fE fF gW r y;have up:∀(d:Obj) a o,¬a=P->s.heap.get? a=U o->(Ay.push d).get? a=U o:=λZ a o n w=>D9 _<|RQ a o n w;have y6:∀d:Obj,d.isFreed=Ab->(Ay.push d).get? Ay.objs.size=U d:=λZ e=>Fn _ e;have B:=λd=>D9 d y5;have y7:=λd:Obj=>y4.keeps λb o w=>D9 d w;refine yO (np:=np) (TB:=TB) ok G D H Dn f g Ax j L M R o.3 o.2 (up _) (B _) (y6 _ ?_) ?_ (y7 _) (λw=>nomatch w) ?_
 ·rfl
 ·exact {_,rfl,rfl,rfl,rfl,rfl,rfl,rfl,rfl,by rfl}
 ·calcλa v b w=>N _ m v b rfl (up _) (B _) a w
end
def B6(f:Nat)(a:As):Er:=let r:=AaK.getD f ([],[],[],[]);{a,(M1 r.1).1,(M1 r.1).2,r.2.1,r.2.2.1,r.2.2.2}
inductive Bv where
 |F|Dd|A
 deriving DecidableEq
instance:Nonempty Bv:=⟨.F⟩
abbrev EA:=Nat->Str
structure Az where
 AR:Type
 C2:AR
 AH:EA->Bv->AR->T
 aW:Bool
 strict:Bool
 Dx:∀Ak l v,(AH Ak l v).D5=AH Ak .F v
 no:∀Ak v,(AH Ak .F v).EO=Y
 a5:∀Ak v,(AH Ak .A v).Fc=Y
 Bf:aW=Y->∀Ak l v,AH Ak l v=AH Ak .F v
 st:strict=Y->∀Ak v,(∀l,l≠.F->(AH Ak l v).EO=Ab)/\(AH Ak .F v).Fc=Ab
def Az.Dm(t:Az)(l:Bv):Bv:=if t.aW=Y then .F else l
def Az.gX(t:Az){v:t.AR}:t.AH Ak (t.Dm l) v=t.AH Ak l v:=by
 unfold Az.Dm;by_cases h:t.aW=Y;·rw[ao h,t.Bf h Ak l v]
 ·rw[ai h]
abbrev RU(α:Type)(d:α)(f:EA->α->T)(h:∀Ak v,(f Ak v).D5=f Ak v/\(f Ak v).EO=Y/\(f Ak v).Fc=Y):Az where
 AR:=α
 C2:=d
 AH Ak _ v:=f Ak v
 aW:=Y
 strict:=Ab
 Dx Ak _ v:=(h Ak v).1
 no Ak v:=(h Ak v).2.1
 a5 Ak v:=(h Ak v).2.2
 Bf _ _ _ _:=rfl
 st:=br
abbrev O:Az:=RU Nat 0 (λZ n=>.au n) λZ Z=>{rfl,rfl,rfl}
instance:Nonempty Az:=⟨O⟩
instance(t:Az):Nonempty t.AR:=⟨t.C2⟩
abbrev EZ:Az:=RU Int 0 (λZ n=>.au n) λZ Z=>{rfl,rfl,rfl}
abbrev Aj:Az:=RU Bool Ab (λZ b=>.b3 b) λZ Z=>{rfl,rfl,rfl}
abbrev ER:Az:=RU Unit () (λZ Z=>.none) λZ Z=>{rfl,rfl,rfl}
abbrev YX:Az:=RU Str "" (λZ b=>.aZ b) λZ Z=>{rfl,rfl,rfl}
abbrev Ac:Az:=RU Nat 0 (λa n=>.aZ<|a n) λZ Z=>{rfl,rfl,rfl}
def Bv.B2:Bv->Bv
 |.A=>.A|_=>.F
noncomputable def Bv.b:Bv->Bool
 |.F=>Ab|_=>Y
section
variable{t:Az}{f:α->t.AR}
def dz(xs:-α):Fp (xs.map λx=>t.AH Ak l<|f x)=xs.map λx=>t.AH Ak .F (f x):=by
 cases xs with
 |nil=>rfl|cons x xs a=>show(t.AH Ak l<|f x).D5::_=_;rw[a,t.Dx];rfl
def er(xs:-α):GZ (xs.map λx=>t.AH Ak .F<|f x)=Y:=by
 cases xs with
 |nil=>rfl|cons x xs a=>calc bc {t.no Ak<|f x,a}
def fG(xs:-α):NC (xs.map λx=>t.AH Ak .A<|f x)=Y:=by
 cases xs with
 |nil=>rfl|cons x xs a=>calc bc {t.a5 Ak<|f x,a}
end
abbrev tL(t:Az):Az where
 AR:=↑t.AR
 C2:=[]
 AH Ak l xs:=.Bo l.b (xs.map λx=>t.AH Ak l.B2 x)
 aW:=Ab
 strict:=Y
 Dx Ak l xs:=ah (T.ab .Bo Ab) (dz xs)
 no Ak xs:=er xs
 a5 Ak xs:=fG xs
 Bf:=br
 st _ Ak xs:=⟨λl h=>by cases l with|F=>calc ar rfl h|_=>rfl,rfl⟩
abbrev Ar(t:Az):Az where
 AR:=↑t.AR
 C2:=[]
 AH Ak l xs:=.aT (xs.map λx=>t.AH Ak l x)
 aW:=t.aW
 strict:=Ab
 Dx Ak l xs:=ah (T.ab .aT Ab) (dz xs)
 no Ak xs:=er xs
 a5 Ak xs:=fG xs
 Bf h Ak l xs:=ah T.aT (FI λx Z=>t.Bf h Ak l x)
 st:=br
def oo(t u:Az)(h:(t.strict||u.strict)=Y)(Ak:EA)(x:t.AR)(y:u.AR):(∀l,l≠.F->(T.aT [t.AH Ak l x,u.AH Ak l y]).EO=Ab)/\(T.aT [t.AH Ak .F x,u.AH Ak .F y]).Fc=Ab:=by
 have AW:∀l,(T.aT [t.AH Ak l x,u.AH Ak l y]).EO=((t.AH Ak l x).EO&&((u.AH Ak l y).EO&&Y)):=λZ=>rfl;have A3:(T.aT [t.AH Ak .F x,u.AH Ak .F y]).Fc=((t.AH Ak .F x).Fc&&((u.AH Ak .F y).Fc&&Y)):=rfl;rcases cW h with h|h
 ·have q:=t.st h Ak x;exact {λl e=>by rw[AW,q.1 l e];rfl,by rw[A3,q.2];rfl}
 ·have q:=u.st h Ak y;calc {λl e=>by rw[AW,q.1 l e,tj,Pk],by rw[A3,q.2,tj,Pk]}
abbrev A0(t u:Az):Az where
 AR:=t.AR×u.AR
 C2:=(t.C2,u.C2)
 AH Ak l x:=.aT [t.AH Ak l x.1,u.AH Ak l x.2]
 aW:=t.aW&&u.aW
 strict:=t.strict||u.strict
 Dx Ak l x:=by show T.aT [_,_]=_;rw[t.Dx,u.Dx]
 no Ak x:=by show(_&&(_&&Y))=Y;rw[t.no,u.no];rfl
 a5 Ak x:=by show(_&&(_&&Y))=Y;rw[t.a5,u.a5];rfl
 Bf h Ak l x:=by have h:=bQ h;rw[t.Bf h.1 Ak l,u.Bf h.2 Ak l]
 st h Ak x:=oo t u h Ak x.1 x.2
abbrev DN(t u v:Az):Az where
 AR:=t.AR×u.AR×v.AR
 C2:=(t.C2,u.C2,v.C2)
 AH Ak l x:=.aT [t.AH Ak l x.1,u.AH Ak l x.2.1,v.AH Ak l x.2.2]
 aW:=t.aW&&(u.aW&&v.aW)
 strict:=t.strict||(u.strict||v.strict)
 Dx Ak l x:=by show T.aT [_,_,_]=_;rw[t.Dx,u.Dx,v.Dx]
 no Ak x:=by show(_&&(_&&(_&&Y)))=Y;rw[t.no,u.no,v.no];rfl
 a5 Ak x:=by show(_&&(_&&(_&&Y)))=Y;rw[t.a5,u.a5,v.a5];rfl
 Bf h Ak l x:=by have h:=bQ h;have a:=bQ h.2;rw[t.Bf h.1 Ak l,u.Bf a.1 Ak l,v.Bf a.2 Ak l]
 st h Ak x:=(cW h).elim (λh=>have q:=t.st h Ak x.1;{λl e=>by show(_&&_)=Ab;rw[q.1 l e];rfl,by show(_&&_)=Ab;rw[q.2];rfl}) λh=>have q:=oo u v h Ak x.2.1 x.2.2;⟨λl e=>by have:=q.1 l e;show(_&&_)=Ab;rw[show GZ [u.AH Ak l x.2.1,v.AH Ak l x.2.2]=Ab from this,Pk],by show(_&&_)=Ab;rw[show NC [u.AH Ak .F x.2.1,v.AH Ak .F x.2.2]=Ab from q.2,Pk]⟩
abbrev BU(t:Az):Az where
 AR:=↥t.AR
 C2:=Ai
 AH Ak l x:=x.elim .none (t.AH Ak l)
 aW:=t.aW
 strict:=Ab
 Dx Ak l x:=by cases x with|none=>rfl|some x=>exact t.Dx Ak l x
 no Ak x:=by cases x with|none=>rfl|some x=>exact t.no Ak x
 a5 Ak x:=by cases x with|none=>rfl|some x=>exact t.a5 Ak x
 Bf h Ak l x:=by cases x with|none=>rfl|some x=>exact t.Bf h Ak l x
 st:=br
def Ao:-Az->Type
 |[]=>Unit|t::V=>t.AR×Ao V
def Ao.C2:(BB:-Az)->Ao BB
 |[]=>()
 |t::BB=>(t.C2,Ao.C2 BB)
instance(V:-Az):Nonempty (Ao V):=⟨Ao.C2 V⟩
abbrev gt:-Az->Nat->Az
 |[],_=>ER|t::_,0=>t|_::V,i+1=>gt V i
def Ao.Cq:(V:-Az)->(i:Nat)->Ao V->(gt V i).AR
 |[],_,_=>()
 |_::_,0,Af=>Af.1|_::V,i+1,Af=>Ao.Cq V i Af.2
def Ao.BG:(V:-Az)->(i:Nat)->(gt V i).AR->Ao V->Ao V
 |[],_,_,Af=>Af|_::_,0,v,Af=>(v,Af.2)
 |_::V,i+1,v,Af=>(Af.1,Ao.BG V i v Af.2)
def Ao.PF:(V:-Az)->↑Bool->Ao V->Ao V->Ao V
 |[],_,Af,_=>Af|_::V,D,Af,a=>(if D.headD Ab=Y then Af.1 else a.1,Ao.PF V D.tail Af.2 a.2)
abbrev Br:=↑↥Bv
abbrev Br.EP(st:Br):↥Bv:=st.headD Ai
noncomputable def Br.at:Br->Nat->↥Bv
 |st,0=>st.EP|st,i+1=>Br.at st.tail i
def Br.C7:Br->Nat->↥Bv->Br
 |st,0,o=>o::st.tail|st,i+1,o=>st.EP::Br.C7 st.tail i o
def Cc(Ak:EA):(V:-Az)->Br->Ao V->B5->Prop
 |[],_,_,Am=>Am=[]|t::V,st,Af,Am=>∃x r,Am=x::r/\(∀l,st.EP=U l->x=U (t.AH Ak l Af.1))/\Cc Ak V st.tail Af.2 r
def Hy:Br->Br->Bool
 |[],_=>Y|a::st,b=>(a==Ai||a==b.EP)&&Hy st b.tail
def QT(st:Br):Br:=st.map<|Lo λZ=>.F
def EY:-Bool->Br->Br
 |[],_=>[]
 |d::D,st=>(if d=Y then st.EP else Ai)::EY D st.tail
section
variable{Ak:EA}
def Cc.bj:∀{V:-Az} {st:Br} {Af:Ao V} {Am:B5},Cc Ak V st Af Am->J Am=(J V)
 |[],_,_,_=>λh=>ah J h|_::V,_,_,_=>λh=>a8 h λZ r e Z q=>e⊂ah (·+1) q.bj
theorem Cc.Cq:∀{V:-Az} {i:Nat} {st:Br} {Af:Ao V} {Am:B5},Cc Ak V st Af Am->i<J V->st.at i=U l->Am[i]?=U (U<|(gt V i).AH Ak l<|Ao.Cq V i Af)
 |_::V,0,_,_,_,h,_=>λq=>a8 h λx r e a Z=>e⊂ah U (a l q)|_::V,i+1,_,_,_,h,a=>λq=>a8 h λx r e Z b=>e⊂b.Cq (MU a) q
def Cc.b6{st:Br}(h:Cc Ak V st Af Am)(a:i<J V)(q:st.at i=U l):HP Am i=U ((gt V i).AH Ak l<|Ao.Cq V i Af):=by unfold HP;rw[h.Cq a q];rfl
theorem Cc.BG:∀{V:-Az} {i:Nat} {st:Br} {Af:Ao V} {Am:B5} {v:(gt V i).AR},Cc Ak V st Af Am->i<J V->(∀l,o=U l->x=U ((gt V i).AH Ak l v))->Cc Ak V (st.C7 i o) (Ao.BG V i v Af) (Am.set i x)
 |_::V,0,_,_,_,_,h,_=>λq=>a8 h λy r e Z a=>e⊂{x,r,rfl,q,a}|_::V,i+1,_,_,_,_,h,b=>λq=>a8 h λy r e c a=>e⊂{y,_,rfl,c,a.BG (MU b) q}
def y8(h:Hy a b=Y)(q:a.EP=U l):b.EP=U l:=by
 cases a using List.casesOn with
 |nil=>delta q|cons o a=>calc(cW<|gm h).elim (λc=>nomatch D8 (show o=U l from q).symm (eq_of_beq c)) λc=>(eq_of_beq c).symm^q
def y9(h:Hy a b=Y):Hy a.tail b.tail=Y:=by
 cases a using List.casesOn with
 |nil=>rfl|cons o a=>calc(fe h)
def Cc.le:∀{V:-Az} {st a:Br} {Af:Ao V} {Am:B5},Cc Ak V st Af Am->Hy a st=Y->Cc Ak V a Af Am
 |[],_,_,_,_,h=>λZ=>h|_::V,_,_,_,_,h=>λq=>let⟨x,r,e,Ag,b⟩:=h;{x,r,e,λl w=>Ag l<|y8 q w,b.le<|y9 q}
def za{st:Br}(h:(QT st).EP=U l):l=.F/\∃Dl,st.EP=U Dl:=by
 cases st using List.casesOn with
 |nil=>delta h|cons o st=>calc ae (bD h) λDl q w=>?_;calc {w.symm,Dl,q}
def zb{st:Br}:(QT st).tail=QT st.tail:=by induction st<;>rfl
theorem Cc.CT:∀{V:-Az} {st:Br} {Af:Ao V} {Am:B5},Cc Ak V st Af Am->Cc Ak V (QT st) Af (Kl Am)
 |[],_,_,_=>λh=>ah Kl h|t::V,_,Af,_=>λh=>let⟨x,r,e,Ag,a⟩:=h;e▸⟨_,_,rfl,λl w=>by obtain⟨e,Dl,w⟩:=za w;rw[Ag Dl w,e];calc ah U<|t.Dx Ak Dl Af.1,zb⊂a.CT⟩
def Cc.none:∀{V:-Az} {Af:Ao V} {Am:B5},J Am=J V->Cc Ak V [] Af Am
 |[],_,[],_=>rfl|_::_,_,x::r,h=>{x,r,rfl,nofun,Cc.none<|Qx h}
theorem Cc.PF:∀{V:-Az} {D:-Bool} {st:Br} {Af a:Ao V} {Am:B5},Cc Ak V (EY D st) Af Am->Cc Ak V (EY D st) (Ao.PF V D Af a) Am
 |[],_,_,_,_,_=>λh=>h|_::V,[],st,_,_,_=>λh=>Cc.none h.bj|_::V,d::D,st,Af,a,_=>λh=>a8 h λx r e f b=>⟨x,r,e,λl w=>by obtain⟨c,w⟩:=c8 (c:=d=Y) (by induction d<;>calc w);show x=U (Az.AH _ Ak l<|if d=Y then Af.1 else a.1);rw[ao c];calc f l (by rw[c];calc w),b.PF⟩
end
def GO(l:-A2):-A2×Nat×Str×↥Dz:=(l,0,"",Ai)
def YK(e:A2):-A2×Nat×Str×↥Dz:=e.casesOn (λZ l Z=>GO l) (λZ Z Z=>GO []) (λa Z b Z=>GO [a,b]) (λZ a Z=>GO [a]) (λZ Z Z Z=>GO []) (λa b c Z=>GO [a,b,c]) (λk l Z=>GO<|k.filterMap id++l) (λZ Z Z=>GO []) (λe g s Z=>(e::g.flatMap λg=>g.target::g.iter::g.ifs,0,"",U s)) (λZ Z Z Z=>GO []) (λZ Z Z Z Z=>GO []) (λZ Z Z Z=>GO []) (λZ Z=>GO []) (λZ Z=>GO []) (λZ Z=>GO []) (λa Z l Z=>GO (a::l)) (λa l Z Z=>GO (a::l)) (λZ Z Z Z=>GO []) (λZ Z=>GO []) (λZ k Z=>([],k,"",Ai)) (λa x Z=>([a],0,x,Ai)) (λa b Z=>GO [a,b]) (λZ Z=>GO []) (λx Z=>([],0,x,Ai)) (λl Z=>GO l) (λl k Z=>(l,k,"",Ai)) λa b Z Z=>GO<|a.toList++b.toList
def Dg(e:A2):-A2:=(YK e).1
def Ap(e:A2)(i:Nat):A2:=(Dg e).getD i e
def GG(e:A2):Nat:=(YK e).2.1
def CN(e:A2):Str:=(YK e).2.2.1
def L4(e:A2):Dz:=(YK e).2.2.2.getD {.function,[],Ab,Ab,[]}
def YZ(e:A2)(pl cm nb:Bool):Prop:=MO
 (HQ e=Ab)
 (Px e=Ab)
 (RD e=Ab)
 (VU e=pl)
 (WN e=cm)
 (My e=nb)
def YZ.zc{pl cm nb:Bool}(g:YZ e pl cm nb)(op:CmpOp):sG op e=Ab:=by cases e<;>first|rfl|(injection g.3<;>subst_vars)
def MD(C:Ea)(i:Nat)(x:Str):Bool:=C.Aq[i]?==U (U x)&&x !="__debug__"&&x !="__classdict__"
def d8(h:MD C i x=Y):C.Aq[i]?=U (U x)/\(x==("__debug__":Str))=Ab/\(x==("__classdict__":Str))=Ab:=by have h:=bQ h;have Ag:=bQ h.1;calc {eq_of_beq Ag.1,EJ _∣Ag.2,EJ _∣h.2}
def QW(f:Nat):↥(Str×Bool):=Ke[f]?.map λx=>(Qo x,decide<|4<=f/\f<=7)
def NX(Aa:C0)(DD:Nat->As):Prop:=Pr
 (DY Aa)
 (∀x∈([("END",.au 0),("ERROR",.au 1),("OWN_TERMINALS",.aT [.aZ "$end",.aZ "error",.aZ "$undefined"])]:-(Str×T)),x∈Aa.GT)
 (∀f x,QW f=U (x,Ab)->Pe Aa.K (.ref<|DD f)=Y/\(x,.ref<|DD f)∈Aa.G)
 (∀f x,QW f=U (x,Y)->KG Aa 1 x (DD f))
 (∀f,f<62->(f<1\/3<f)->HS Aa (B6 f<|DD f))
 (ND 0=U (DD 1)/\ND 0=U (DD 2)/\ND 1=U (DD 3))
 (∃a0 a,(HS Aa (B6 1 a0)/\HS Aa (B6 2 a0)/\HS Aa (B6 3 a))/\(H4 Aa.K (.ref<|DD 1) "__init__"=U (U<|.ref a0)/\isFn Aa.K (.ref a0)=Y)/\H4 Aa.K (.ref<|DD 3) "__init__"=U (U<|.ref a)/\isFn Aa.K (.ref a)=Y)
structure Bk where
 AA:EA
 inj:∀i j,AA i=AA j->i=j
 aZ:∀i,PyData.strOk (AA i)=Y
 Aa:C0
 DD:Nat->As
 d:Nat
def zd:∃Ak:EA,(∀i j,Ak i=Ak j->i=j)/\∀i,PyData.strOk (Ak i)=Y:=⟨λi=>⟨tu i 65⟩,λi j e=>by rw[<-Ajq (n:=i) (v:=65),show tu i 65=tu j 65 from ah Str.cps e,Ajq],λi=>by exact Array.all_eq_true.mpr λj h=>by rw[Array.getElem_replicate];rfl⟩
instance:Nonempty Bk:=zd.elim λa h=>{a,h.1,h.2,U9,λZ=>0,0}
def TC(w:Bk)(z:A5):Prop:=Dy
 (z.Aa=w.Aa)
 (z.V.k=w.d)
 (NX w.Aa w.DD)
def In(w:Bk)(V:-Az)(st:Br)(Af:Ao V)(z:A5):Prop:=Em
 (TC w z)
 (Cc w.AA V st Af z.Am)
def TC.ok(H:TC w z):DY z.Aa:=H.1⊂H.3.1
inductive DP(w:Bk)(Bc:Az)(r:By×Bv)(Q:Bc.AR->Prop):T->By->Prop
 |mk {v:Bc.AR} (q:Q v):DP w Bc r Q (Bc.AH w.AA r.2 v) r.1
theorem DP.Dm{Q:Bc.AR->Prop}{v:Bc.AR}(q:Q v):DP w Bc (AJ,Bc.Dm l) Q (Bc.AH w.AA l v) AJ:=by
 have h:DP w Bc (AJ,Bc.Dm l) Q (Bc.AH w.AA (Bc.Dm l) v) AJ:=.mk q
 rwa [Az.gX] at h
def BM.em(H:BM z e (DP w Bc r Q))(k:∀v,Q v->P (Bc.AH w.AA r.2 v) r.1):BM z e P:=H.aq λZ Z p=>p.rec λq=>k _ q
def oq(H:BM z e λt a=>(t.EO=Y/\t.Fc=Y)/\Q t .AU):BM z e Q:=λs R=>H.aG R λv a t b q S y=>{t,.AU,q.2,S,y.bh (by induction b;calc rfl;calc q.1.1;calc q.1.2)}
def ze(h:P->a)(q:E2 op b P Q):E2 op b a Q:=by induction op<;>induction b<;>first|calc h q|calc q
structure Bx(V:-Az)(Bc:Az) where
 An:A2->A2
 pl:Bool
 cm:Bool
 nb:Bool
 AI:Ea->A2->Bool
 AB:Br->↥(By×Bv)
 wp:Bk->Ao V->(Bc.AR->Prop)->Prop
 B1:∀e,YZ (An e) pl cm nb
 AX:∀{w:Bk} {st:Br} {Af:Ao V} {z:A5} {r Q},In w V st Af z->∀e,AI z.V.C e=Y->AB st=U r->wp w Af Q->BM z (An e) (DP w Bc r Q)
structure GH(V:-Az) where
 An:A2->A2
 pl:Bool
 cm:Bool
 nb:Bool
 AI:Ea->A2->Bool
 AB:Br->Bool
 wp:Bk->Ao V->(Bool->Prop)->Prop
 B1:∀e,YZ (An e) pl cm nb
 AX:∀{w:Bk} {st:Br} {Af:Ao V} {z:A5} {Q},In w V st Af z->∀e,AI z.V.C e=Y->AB st=Y->wp w Af Q->BT z (An e) Q
def aD(h:(a&&b)=Y):a=Y/\b=Y:=bQ h
def a3{G:Prop}(x:(a&&b)=Y)(k:a=Y->b=Y->G):G:=k (aD x).1 (aD x).2
def cp{c:Bool}{G:Prop}(x:(a&&(b&&c))=Y)(k:a=Y->b=Y->c=Y->G):G:=a3 x λp q=>a3 q<|k p
def dm{c d:Bool}{G:Prop}(x:(a&&(b&&(c&&d)))=Y)(k:a=Y->b=Y->c=Y->d=Y->G):G:=a3 x λp q=>cp q<|k p
def ep{c e:Bool}{G:Prop}(x:(a&&(b&&(c&&(d&&e))))=Y)(k:a=Y->b=Y->c=Y->d=Y->e=Y->G):G:=a3 x λp q=>dm q<|k p
def fE{c f:Bool}{G:Prop}(x:(a&&(b&&(c&&(d&&(e&&f)))))=Y)(k:a=Y->b=Y->c=Y->d=Y->e=Y->f=Y->G):G:=a3 x λp q=>ep q<|k p
def fF{c g:Bool}{G:Prop}(x:(a&&(b&&(c&&(d&&(e&&(f&&g))))))=Y)(k:a=Y->b=Y->c=Y->d=Y->e=Y->f=Y->g=Y->G):G:=a3 x λp q=>fE q<|k p
def gW{c h:Bool}{G:Prop}(x:(a&&(b&&(c&&(d&&(e&&(f&&(g&&h)))))))=Y)(k:a=Y->b=Y->c=Y->d=Y->e=Y->f=Y->g=Y->h=Y->G):G:=a3 x λp q=>fF q<|k p
def ot{c i:Bool}{G:Prop}(x:(a&&(b&&(c&&(d&&(e&&(f&&(g&&(h&&i))))))))=Y)(k:a=Y->b=Y->c=Y->d=Y->e=Y->f=Y->g=Y->h=Y->i=Y->G):G:=a3 x λp q=>gW q<|k p
def zf{c j:Bool}{G:Prop}(x:(a&&(b&&(c&&(d&&(e&&(f&&(g&&(h&&(i&&j)))))))))=Y)(k:a=Y->b=Y->c=Y->d=Y->e=Y->f=Y->g=Y->h=Y->i=Y->j=Y->G):G:=a3 x λp q=>ot q<|k p
def zg{c k:Bool}{G:Prop}(x:(a&&(b&&(c&&(d&&(e&&(f&&(g&&(h&&(i&&(j&&k))))))))))=Y)(k:a=Y->b=Y->c=Y->d=Y->e=Y->f=Y->g=Y->h=Y->i=Y->j=Y->k=Y->G):G:=a3 x λp q=>zf q<|k p
section
variable{G:Type}
def aV{G:Prop}(h:o.bind f=U b)(k:∀a,o=U a->f a=U b->G):G:=ae (dh h) k
def bT{G:Prop}(h:o.map f=U b)(k:∀a,o=U a->f a=b->G):G:=ae (bD h) k
def bC{G:Prop}(h:o.isSome=Y)(k:∀a,o=U a->G):G:=ak (Vc.mp h) k
noncomputable def v(i:Nat):Bx V (gt V i) where
 An e:=.Name (CN e) e.pos
 pl:=Y
 cm:=Ab
 nb:=Y
 AI C e:=MD C i (CN e)
 AB st:=if i<J V then(st.at i).map λl=>(.DC,(gt V i).Dm l) else Ai
 wp _ Af Q:=Q (Ao.Cq V i Af)
 B1 _:={rfl,rfl,rfl,rfl,rfl,rfl}
 AX H e h c q:=aC (c8 c) λd c=>bT c λl c e=>e▸cT (d8 h) λe a b=>kV e a b (H.2.b6 d c)<|.Dm q
def W8(t:Az)(c:Ry)(x:t.AR)(h:∀Ak,c.Hu=t.AH Ak .F x):Bx V t where
 An e:=.Constant c.Aa0 (GG e) e.pos
 pl:=Y
 cm:=Ab
 nb:=Ab
 AI _ _:=c.ok
 AB _:=U (.AU,.F)
 wp _ _ Q:=Q x
 B1 _:={rfl,rfl,rfl,rfl,rfl,rfl}
 AX _ e hs c q:=eQ hs<|BQ c▸rwr (h _) (.mk q)
abbrev n(i:Nat):Bx V O:=W8 O (.au i) i λZ=>rfl
abbrev B7(b:Bool):Bx V Aj:=W8 Aj (.b3 b) b λZ=>rfl
abbrev WV(x:Str):Bx V YX:=W8 YX (.aZ x) x λZ=>rfl
abbrev W9(i:Nat):Az:=RU Unit () (λZ Z=>.au i) λZ Z=>{rfl,rfl,rfl}
abbrev k(i:Nat):Bx V (W9 i):=W8 (W9 i) (.au i) () λZ=>rfl
abbrev no(t:Az):Bx V (BU t):=W8 (BU t) .none Ai λZ=>rfl
def B3(x:Str):Bx V Ac where
 An e:=.Constant (.str x) (GG e) e.pos
 pl:=Y
 cm:=Ab
 nb:=Ab
 AI _ _:=PyData.strOk x
 AB _:=U (.AU,.F)
 wp w _ Q:=∃i,w.AA i=x/\Q i
 B1 _:={rfl,rfl,rfl,rfl,rfl,rfl}
 AX _ e h c q:=eQ (c:=.aZ x) h<|ae q λi h q=>BQ c▸rwl h (.mk q)
def Xa(a:Bx V t):Bx V (BU t) where
 An:=a.An
 pl:=a.pl
 cm:=a.cm
 nb:=a.nb
 AI:=a.AI
 AB:=a.AB
 wp w Af Q:=a.wp w Af λx=>Q (U x)
 B1:=a.B1
 AX H e h c q:=(a.AX H e h c q).em λx q=>.mk (Bc:=BU t) q
structure TF(Bc σ Bd:Az) where
 wp:Bc.AR->σ.AR->(Bd.AR->Prop)->Prop
 B2:Bv->Bv
 ok:∀{w:Bk} {z:A5} {l Dl m a x i Q} {value slice:A2},Px slice=Ab->wp x i Q->GU z (Vd value slice) (Bc.AH w.AA l x) m (σ.AH w.AA Dl i) a (DP w Bd (m,Bd.Dm<|B2 l) Q)
def A6{Bd:Az}(S:TF Bc σ Bd)(a:Bx V Bc)(b:Bx V σ):Bx V Bd where
 An e:=.Subscript (a.An<|Ap e 0) (b.An<|Ap e 1) e.pos
 pl:=Y
 cm:=Ab
 nb:=Y
 AI C e:=a.AI C (Ap e 0)&&b.AI C (Ap e 1)
 AB st:=(a.AB st).bind λr=>(b.AB st).map λZ=>(r.1,Bd.Dm<|S.B2 r.2)
 wp w Af Q:=a.wp w Af λx=>b.wp w Af λi=>S.wp x i Q
 B1 _:={rfl,rfl,rfl,rfl,rfl,rfl}
 AX H e h c q:=a3 h λd f=>aV c λl g c=>bT c λc j e=>e∣uJ (b.B1 _).2 ((a.AX H _ d g q).em λx q=>(b.AX H _ f j q).em λi q=>S.ok (b.B1 _).2 q)
structure PG(Bc σ Bd:Az) where
 op:Operator
 AB:By×Bv->By×Bv->↥(By×Bv)
 wp:Bc.AR->σ.AR->(Bd.AR->Prop)->Prop
 ok:∀{w:Bk} {z:A5} {a DZ r x y Q},AB a DZ=U r->wp x y Q->GU z (LW op) (Bc.AH w.AA a.2 x) a.1 (σ.AH w.AA DZ.2 y) DZ.1 (DP w Bd r Q)
def BJ{Bd:Az}(Dd:PG Bc σ Bd)(a:Bx V Bc)(b:Bx V σ):Bx V Bd where
 An e:=.BinOp (a.An<|Ap e 0) Dd.op (b.An<|Ap e 1) e.pos
 pl:=Y
 cm:=Ab
 nb:=Ab
 AI C e:=a.AI C (Ap e 0)&&b.AI C (Ap e 1)
 AB st:=(a.AB st).bind λr=>(b.AB st).bind λq=>Dd.AB r q
 wp w Af Q:=a.wp w Af λx=>b.wp w Af λy=>Dd.wp x y Q
 B1 _:={rfl,rfl,rfl,rfl,rfl,rfl}
 AX H e h c q:=a3 h λd f=>aV c λj g c=>aV c λe i c=>um<|(a.AX H _ d g q).em λx q=>(b.AX H _ f i q).em λy q=>Dd.ok c q
structure La(Bc σ:Az) where
 op:CmpOp
 wp:Bc.AR->σ.AR->(Bool->Prop)->Prop
 ok:∀{w:Bk} {z:A5} {l Dl m a x y Q},wp x y Q->Lv z (I0 op) (Bc.AH w.AA l x) m (σ.AH w.AA Dl y) a Q
def Bg{σ:Az}(Dd:La Bc σ)(a:Bx V Bc)(b:Bx V σ):GH V where
 An e:=.Compare (a.An<|Ap e 0) [Dd.op] [b.An<|Ap e 1] e.pos
 pl:=Ab
 cm:=Ab
 nb:=Ab
 AI C e:=a.AI C (Ap e 0)&&b.AI C (Ap e 1)
 AB st:=(a.AB st).isSome&&(b.AB st).isSome
 wp w Af Q:=a.wp w Af λx=>b.wp w Af λy=>Dd.wp x y Q
 B1 _:={rfl,rfl,rfl,rfl,rfl,rfl}
 AX H e h c q:=a3 h λd f=>bC (aD c).1 λj g=>bC (aD c).2 λc i=>uo ((b.B1 _).zc _)<|(a.AX H _ d g q).em λx q=>(b.AX H _ f i q).em λy q=>Dd.ok q
def ou(a:∀Ak l x,(t.AH Ak l x).RA=Ab)(x:↥t.AR):((BU t).AH Ak l x).RA=x.isNone:=by cases x with|none=>rfl|some x=>calc a _ _ x
def QX{t:Az}(b:∀Ak l x,(t.AH Ak l x).RA=Ab)(a:Bx V (BU t)):GH V where
 An e:=.Compare (a.An<|Ap e 0) [.Is] [.Constant .none (GG<|Ap e 1) (Ap e 1).pos] e.pos
 pl:=Ab
 cm:=Ab
 nb:=Ab
 AI C e:=a.AI C (Ap e 0)
 AB st:=(a.AB st).isSome
 wp w Af Q:=a.wp w Af λx=>Q x.isNone
 B1 _:={rfl,rfl,rfl,rfl,rfl,rfl}
 AX H e h c q:=bC c λf d=>uM<|(a.AX H _ h d q).em λx q=>ou b x⊂q
def TG{t:Az}(b:∀Ak l x,(t.AH Ak l x).RA=Ab)(a:Bx V (BU t)):GH V where
 An e:=.Compare (a.An<|Ap e 0) [.IsNot] [.Constant .none (GG<|Ap e 1) (Ap e 1).pos] e.pos
 pl:=Ab
 cm:=Ab
 nb:=Ab
 AI C e:=a.AI C (Ap e 0)
 AB st:=(a.AB st).isSome
 wp w Af Q:=a.wp w Af λx=>Q (!x.isNone)
 B1 _:={rfl,rfl,rfl,rfl,rfl,rfl}
 AX H e h c q:=bC c λf d=>uN<|(a.AX H _ h d q).em λx q=>ou b x⊂q
def CI(a:Bx V Aj):GH V where
 An:=a.An
 pl:=a.pl
 cm:=a.cm
 nb:=a.nb
 AI C e:=a.AI C e&&a.pl
 AB st:=(a.AB st).isSome
 wp:=a.wp
 B1:=a.B1
 AX H e h c q:=a3 h λb d=>bC c λg f=>uP ((a.B1 e).4^d)<|(a.AX H e b f q).em λx q=>.mk q
def Fi(a:GH V):Bx V Aj where
 An:=a.An
 pl:=a.pl
 cm:=a.cm
 nb:=a.nb
 AI:=a.AI
 AB st:=if a.AB st=Y then U (.AU,.F) else Ai
 wp:=a.wp
 B1:=a.B1
 AX H e h c q:=aC (bf c) λc b=>b∣oq ((a.AX H e h c q).1.aq λZ Z p=>p.rec λq=>{{rfl,rfl},.mk q})
def DO(a:GH V):GH V where
 An e:=.UnaryOp .Not (a.An<|Ap e 0) e.pos
 pl:=Ab
 cm:=Ab
 nb:=Ab
 AI C e:=a.AI C (Ap e 0)
 AB:=a.AB
 wp w Af Q:=a.wp w Af λb=>Q (!b)
 B1 _:={rfl,rfl,rfl,rfl,rfl,rfl}
 AX H e h c q:=uQ<|a.AX H _ h c q
structure YY(V:-Az)(op:PySem.BoolOp) where
 An:-A2->↑A2
 AI:Ea->↑A2->Bool
 AB:Br->Bool
 wp:Bk->Ao V->(Bool->Prop)->Prop
 bx:∀l,∃e r,An l=e::r
 AX:∀{w:Bk} {st:Br} {Af:Ao V} {z:A5} {Q},In w V st Af z->∀l pos,AI z.V.C l=Y->AB st=Y->wp w Af Q->BT z (.BoolOp op (An l) pos) Q
def L5(l:-A2):A2:=l.headD<|.Name "" default
def Cf(op:PySem.BoolOp)(a:GH V):YY V op where
 An l:=[a.An<|L5 l]
 AI C l:=a.AI C (L5 l)
 AB:=a.AB
 wp:=a.wp
 bx _:={_,_,rfl}
 AX H l pos h c q:=uS<|a.AX H _ h c q
def CG(op:PySem.BoolOp)(a:GH V)(r:YY V op):YY V op where
 An l:=a.An (L5 l)::r.An l.tail
 AI C l:=a.AI C (L5 l)&&r.AI C l.tail
 AB st:=a.AB st&&r.AB st
 wp w Af Q:=a.wp w Af λb=>E2 op b (r.wp w Af Q) Q
 bx _:={_,_,rfl}
 AX H l pos h c q:=a3 h λd f=>a4 (r.bx l.tail) λe t g=>g⊂uT ((a.AX H _ d (aD c).1 q).aq λb q=>ze (λq=>g▸r.AX H l.tail pos f (aD c).2 q) q)
def DI(r:YY V op):GH V where
 An e:=.BoolOp op (r.An<|Dg e) e.pos
 pl:=Ab
 cm:=Ab
 nb:=Ab
 AI C e:=r.AI C (Dg e)
 AB:=r.AB
 wp:=r.wp
 B1 _:={rfl,rfl,rfl,rfl,rfl,rfl}
 AX H e h c q:=r.AX H _ _ h c q
def PH{Bc:Az}(c:GH V)(a b:Bx V Bc):Bx V Bc where
 An e:=.IfExp (c.An<|Ap e 0) (a.An<|Ap e 1) (b.An<|Ap e 2) e.pos
 pl:=Ab
 cm:=Ab
 nb:=Ab
 AI C e:=c.AI C (Ap e 0)&&(a.AI C (Ap e 1)&&b.AI C (Ap e 2))
 AB st:=if c.AB st=Y then(a.AB st).bind λr=>(b.AB st).bind λq=>if Bc.aW=Y then U (.AU,.F) else if r=q then U r else Ai else Ai
 wp w Af Q:=c.wp w Af λx=>if x=Y then a.wp w Af Q else b.wp w Af Q
 B1 _:={rfl,rfl,rfl,rfl,rfl,rfl}
 AX {w st Af z r Q} H e h k q:=cp h λi j m=>aC (c8 k) λo k=>aV k λg h k=>aV k λp s k=>by
  have E:∀P:T->By->Prop,(∀v,Q v->P (Bc.AH w.AA g.2 v) g.1/\P (Bc.AH w.AA p.2 v) p.1)->BM z (.IfExp (c.An<|Ap e 0) (a.An<|Ap e 1) (b.An<|Ap e 2) e.pos) P:=λP d=>
   uW ((c.AX H _ i o q).aq λx q=>by
    cases x with
    |true=>calc(a.AX H _ j h q).em λv q=>(d v q).1|false=>calc(b.AX H _ m s q).em λv q=>(d v q).2).2
  by_cases d:Bc.aW=Y
  ·rw[ao d] at k;have f:∀l v,Q v->((Bc.AH w.AA l v).EO=Y/\(Bc.AH w.AA l v).Fc=Y)/\DP w Bc r Q (Bc.AH w.AA l v) .AU:=λl v q=>by rw[Bc.Bf d w.AA l v];exact {{Bc.no w.AA v,Bc.Bf d w.AA .A v∣Bc.a5 w.AA v},BQ k∣.mk q}
   exact oq<|E _ λv q=>{f g.2 v q,f p.2 v q}
  ·rw[ai d] at k;calc aC (bf k) λa b=>b▸E _ λv q=>{.mk q,a∣.mk q}
end
abbrev Xb(Ak:EA):Prop:=∀i j,Ak i=Ak j->i=j
structure EB(Bc:Az) where
 D6:DecidableEq Bc.AR
 Ig:EA->Bc.AR->Rc
 Lb:Nat
 ok:∀Ak l x m,Lb<=m->FP m (Bc.AH Ak l x)=U (Ig Ak x)
 PI:∀Ak,Xb Ak->∀x y,PyData.eqv (Ig Ak x) (Ig Ak y)=Y↔x=y
section
variable{Bd:Az}
def gK(E:EB Bc)(Ak:EA)(l:Bv)(h:E.Lb<=m)(xs:-Bc.AR):Mv m (xs.map λx=>Bc.AH Ak l x)=U (xs.map<|E.Ig Ak):=by
 cases xs with
 |nil=>rfl|cons x xs a=>show((FP m _).bind λd=>_)=_;rw[E.ok Ak l x m h,WG,a];rfl
def iF(E:EB Bc)(a:Xb Ak):∀xs Al:-Bc.AR,PyData.eqvAll (xs.map<|E.Ig Ak) (Al.map<|E.Ig Ak)=Y↔xs=Al
 |[],[]=>{λZ=>rfl,λZ=>rfl}
 |[],_::_=>{br,nofun}
 |_::_,[]=>{br,nofun}
 |x::xs,y::Al=>by rw[Rm,E.PI Ak a x y,iF E a xs Al,List.cons.injEq]
abbrev D0:EB O:={inferInstance,λZ n=>.int n,0,λZ Z Z m Z=>by induction m<;>rfl,λZ Z x y=>by rw[PyData.eqv,beq_iff_eq,Vv]}
abbrev RV:EB Aj:={inferInstance,λZ b=>.bool b,0,λZ Z Z m Z=>by induction m<;>rfl,λZ Z x y=>by rw[PyData.eqv,beq_iff_eq]}
abbrev JD:EB YX:={inferInstance,λZ b=>.str b,0,λZ Z Z m Z=>by induction m<;>rfl,λZ Z x y=>by rw[PyData.eqv,beq_iff_eq]}
abbrev Ck:EB Ac:={inferInstance,λa n=>.str<|a n,0,λZ Z Z m Z=>by induction m<;>rfl,λZ h x y=>by rw[PyData.eqv,beq_iff_eq];calc {h x y,λe=>e∣rfl}}
def gZ{k:DR}(h:d+1<=m)(e:∀m,d<=m->Mv m xs=U ds)(Ax:∀m,FP (m+1) (.ab k o xs)=(Mv m xs).map c):FP m (.ab k o xs)=U (c ds):=by
 cases m using Nat.casesOn with
 |zero=>cases h|succ m=>rw[Ax,e m<|Z7 h];rfl
abbrev CZ(E:EB Bc):EB ⇑Bc:={@instDecidableEqList _ E.D6,λa b=>.list<|b.map<|E.Ig a,E.Lb+1,λa l b m h=>gZ h (λm h=>gK E a l.B2 h b) λZ=>rfl,λa b c d=>iF E b c d}
abbrev F4(E:EB Bc):EB (Ar Bc):={@instDecidableEqList _ E.D6,λa b=>.tuple<|b.map<|E.Ig a,E.Lb+1,λa l b m h=>gZ h (λm h=>gK E a l h b) λZ=>rfl,λa b c d=>iF E b c d}
def fH(h:FP m t=U d)(hs:Mv m Av=U ds):Mv m (t::Av)=U (d::ds):=by show((FP m t).bind λd=>(Mv m Av).map (d::·))=_;rw[h,WG,hs];rfl
def ov:Mv m []=U []:=by induction m<;>rfl
abbrev JE(E:EB Bc)(F:EB σ):EB (A0 Bc σ):=⟨@instDecidableEqProd _ _ E.D6 F.D6,λa x=>.tuple [E.Ig a x.1,F.Ig a x.2],max E.Lb F.Lb+1,λa l x m h=>gZ h (λm h=>fH (E.ok a l x.1 m<|tv _ _\h)<|fH (F.ok a l x.2 m<|tw _ _\h) ov) λZ=>rfl,λa b x y=>by show(PyData.eqv _ _&&(PyData.eqv _ _&&Y))=Y↔_;rw[jO,Rm,E.PI a b,F.PI a b,tx]⟩
abbrev DU(E:EB Bc)(F:EB σ)(G:EB Bd):EB (DN Bc σ Bd):=⟨@instDecidableEqProd _ _ E.D6<|@instDecidableEqProd _ _ F.D6 G.D6,λa x=>.tuple [E.Ig a x.1,F.Ig a x.2.1,G.Ig a x.2.2],max E.Lb (max F.Lb G.Lb)+1,λb l x m h=>gZ h (λm h=>have a:=tw _ _\h;fH (E.ok b l x.1 m<|tv _ _\h) (fH (F.ok b l x.2.1 m<|tv _ _\a)<|fH (G.ok b l x.2.2 m<|tw _ _\a) ov)) λZ=>rfl,λa b x y=>by show(PyData.eqv _ _&&(PyData.eqv _ _&&(PyData.eqv _ _&&Y)))=Y↔_;rw[jO,Rm,Rm,E.PI a b,F.PI a b,G.PI a b,tx,tx]⟩
abbrev zh(E:EB Bc):EB (BU<|Ar Bc):=⟨@Option.instDecidableEq _ (F4 E).D6,λa x=>x.elim .none<|(F4 E).Ig a,(F4 E).Lb,λa l x m h=>by
 cases x with
 |none=>induction m<;>rfl|some x=>exact(F4 E).ok a l x m h,λa b x y=>by
 induction x<;>induction y;·exact {λZ=>rfl,λZ=>rfl}
 ·exact {br,dJ}
 ·exact {br,nofun}
 ·rw[Option.some.injEq];calc(F4 E).PI a b _ _⟩
def EB.b7(E:EB Bc){w:Bk}:PyData.eqv (E.Ig w.AA x) (E.Ig w.AA y)=@decide (x=y) (E.D6 x y):=cn<|(E.PI w.AA w.inj x y).trans (@bB _<|E.D6 x y).symm
abbrev FT(E:EB Bc)(h:autoParam (E.Lb<=8) mAd):La Bc Bc:={.Eq,λx y Q=>Q<|@decide (x=y)<|E.D6 x y,λq=>kO (E.ok _ _ _ _ h) (E.ok _ _ _ _ h)<|E.b7⊂q}
abbrev Fu(E:EB Bc)(h:autoParam (E.Lb<=8) mAd):La Bc Bc:={.NotEq,λx y Q=>Q<|!@decide (x=y) (E.D6 x y),λq=>uG (E.ok _ _ _ _ h) (E.ok _ _ _ _ h)<|E.b7⊂q}
def zi{a b:Nat}:PyData.eqv (.int a) (.int b)=decide (a=b):=rfl^cX Vv
abbrev RJ(i:Nat):La O (W9 i):={.Eq,λx Z Q=>Q<|decide<|x=i,λ{Z _ _ _ _ _ x _ _} q=>kO rfl rfl (zi⊂q)}
abbrev YU(op:CmpOp)(s:Nat->Nat->Bool)(h:∀{z:A5} {a b:Nat} {m c:By} {Q:Bool->Prop},Q (s a b)->Lv z (I0 op) (.au (a:Int)) m (.au (b:Int)) c Q):La O O:={op,λx y Q=>Q<|s x y,h}
abbrev bR:La O O:=YU .Lt (λa b=>decide<|a<b) λq=>kJ<|cX Nx⊂q
abbrev ow:La O O:=YU .LtE (λa b=>decide<|a<=b) λq=>uB<|cX Qw⊂q
abbrev YV:La O O:=YU .Gt (λa b=>decide<|b<a) λq=>uC<|cX Nx⊂q
abbrev zj:La O O:=YU .GtE (λa b=>decide<|b<=a) λq=>uD<|cX Qw⊂q
abbrev JF:La EZ O:={.Lt,λx y Q=>Q<|decide<|x<(y:Int),kJ}
def EB.ox(E:EB Bc):@LawfulBEq Bc.AR (@instBEqOfDecidableEq _ E.D6):=by have:=E.D6;infer_instance
abbrev EB.cq(E:EB Bc)(x:Bc.AR)(xs:-Bc.AR):Bool:=@decide (x∈xs)<|@Ajr _ (@instBEqOfDecidableEq _ E.D6) E.ox x xs
def oy(E:EB Bc){w:Bk}(xs:-Bc.AR):(xs.map<|E.Ig w.AA).any (λe=>PyData.eqv e<|E.Ig w.AA x)=E.cq x xs:=by rw[AiA,Ai3];calc tA ?_ (@bB _<|@Ajr _ (@instBEqOfDecidableEq _ E.D6) E.ox x xs).symm;calc⟨λa=>ae a λe b h=>by obtain⟨y,c,rfl⟩:=b0 b;calc(E.PI w.AA w.inj y x).mp h∣c,λh=>{_,Po h,(E.PI w.AA w.inj x x).mpr rfl}⟩
abbrev GI(E:EB Bc)(h:autoParam (E.Lb<=8) mAd):La Bc ⇑Bc:={.In,λx a Q=>Q<|E.cq x a,λ{Z _ _ a _ _ _ c _} q=>k0 (b:=Ab) (E.ok _ _ _ _ h) (gK E _ a.B2 h c)<|oy E c⊂q}
abbrev YJ(E:EB Bc)(h:autoParam (E.Lb<=8) mAd):La Bc (Ar Bc):={.In,λx a Q=>Q<|E.cq x a,λ{Z _ _ a _ _ _ c _} q=>k0 (b:=Y) (E.ok _ _ _ _ h) (gK E _ a h c)<|oy E c⊂q}
end
section
variable{α c:Type}[DecidableEq α]
def C1:-(α×c)->α->↥c
 |[],_=>Ai|e::AE,a=>if a=e.1 then U e.2 else C1 AE a
def B9:-(α×c)->α->c->↑(α×c)
 |[],a,b=>[(a,b)]
 |e::AE,a,b=>if a=e.1 then(e.1,b)::AE else e::B9 AE a b
end
structure KS where
 CC:Az
 D6:DecidableEq CC.AR
 PL:EA->CC.AR->Fo
 ok:∀Ak l x,Kk (CC.AH Ak l x)=U (PL Ak x)
 cj:∀Ak x,(PL Ak x).Hu=CC.AH Ak .F x
 inj:∀Ak,Xb Ak->∀x y,PL Ak x=PL Ak y->x=y
abbrev AZ:KS:={O,inferInstance,λZ x=>.i x,λZ Z Z=>rfl,λZ Z=>rfl,λZ Z Z Z h=>Vv.mp<|Fo.i.inj h}
abbrev DE:KS:={Ac,inferInstance,λa x=>.s<|a x,λZ Z Z=>rfl,λZ Z=>rfl,λZ a Z Z h=>a _ _<|Fo.s.inj h}
structure EC where
 CC:Az
 D6:DecidableEq CC.AR
 aI:EA->CC.AR->BE
 ok:∀Ak l x,Mw (CC.AH Ak l x)=U (aI Ak x)
 cj:∀Ak x,(aI Ak x).Hu=CC.AH Ak .F x
 inj:∀Ak,Xb Ak->∀x y,aI Ak x=aI Ak y->x=y
 b7:∀Ak x y,BE.b7 (aI Ak x) (aI Ak y)=Y
abbrev A7:EC:={Ac,inferInstance,λa x=>.s<|a x,λZ Z Z=>rfl,λZ Z=>rfl,λZ a Z Z h=>a _ _<|BE.s.inj h,λZ Z Z=>rfl}
def eO(h:Kk t=U p)(hs:Ta Av=U AN):Ta (t::Av)=U (p::AN):=by show((Kk t).bind _)=_;rw[h,WG,hs];rfl
def iG(h:Ta Av=U AN):Mw (.aT Av)=U (.t AN):=by show((Ta Av).map BE.t)=_;rw[h];rfl
abbrev C3(p:KS):EC:=⟨Ar p.CC,@instDecidableEqList _ p.D6,λa b=>.t<|b.map<|p.PL a,λb l c=>iG (by
  cases c with
  |nil=>rfl|cons x c a=>calc eO (p.ok b l x) a),λa b=>ah T.aT<|Fy ..^FI λx Z=>p.cj a x,λa b c d h=>List.map_inj_right (p.inj a b)|>.mp (BE.t.inj h),λZ Z Z=>rfl⟩
abbrev Ds(p q:KS):EC:=⟨A0 p.CC q.CC,@instDecidableEqProd _ _ p.D6 q.D6,λa x=>.t [p.PL a x.1,q.PL a x.2],λa l x=>iG<|eO (p.ok a l _)<|eO (q.ok a l _) rfl,λa x=>by show T.aT [_,_]=_;rw[p.cj,q.cj],λa b x y h=>by have h:=Ge<|BE.t.inj h;calc LK (p.inj a b _ _ h.1)<|q.inj a b _ _ (Ge h.2).1,λZ Z Z=>rfl⟩
abbrev CH(p q r:KS):EC:=⟨DN p.CC q.CC r.CC,@instDecidableEqProd _ _ p.D6<|@instDecidableEqProd _ _ q.D6 r.D6,λa x=>.t [p.PL a x.1,q.PL a x.2.1,r.PL a x.2.2],λa l x=>iG<|eO (p.ok a l _)<|eO (q.ok a l _)<|eO (r.ok a l _) rfl,λa x=>by show T.aT [_,_,_]=_;rw[p.cj,q.cj,r.cj],λb c x y h=>by have h:=Ge<|BE.t.inj h;have a:=Ge h.2;calc LK (p.inj b c _ _ h.1)<|LK (q.inj b c _ _ a.1)<|r.inj b c _ _ (Ge a.2).1,λZ Z Z=>rfl⟩
abbrev zk(K:EC)(t:Az)(Ak:EA)(l:Bv)(d:-(K.CC.AR×t.AR)):T:=.ab (.Dh<|d.map λe=>K.aI Ak e.1) l.b<|d.map λe=>t.AH Ak l.B2 e.2
abbrev AQ(K:EC)(t:Az):Az where
 AR:=↑(K.CC.AR×t.AR)
 C2:=[]
 AH:=zk K t
 aW:=Ab
 strict:=Y
 Dx Ak l d:=ah (T.ab _ Ab) (dz d)
 no Ak d:=er d
 a5 Ak d:=fG d
 Bf:=br
 st _ Ak d:=⟨λl h=>by cases l with|F=>calc ar rfl h|_=>rfl,rfl⟩
section
variable{K:EC}{t:Az}{w:Bk}
abbrev GL(K:EC)(d:-(K.CC.AR×β))(x:K.CC.AR):↥β:=@C1 _ _ K.D6 d x
abbrev FD(K:EC)(d:-(K.CC.AR×β))(x:K.CC.AR)(y:β):-(K.CC.AR×β):=@B9 _ _ K.D6 d x y
def dA(Ak:EA)(x:K.CC.AR)(d:-(K.CC.AR×β)):I4 (K.aI Ak x) (d.map λe=>K.aI Ak e.1)=Y:=Rl.mpr λk Ax=>by calc ae (b0 Ax) λe Z a=>?_;subst a;calc K.b7 Ak x e.1
def es(d:-(K.CC.AR×β))(x:K.CC.AR):Mx (d.map λe=>K.aI w.AA e.1) (d.map λe=>f e.2) (K.aI w.AA x)=(GL K d x).map f/\(CK (d.map λe=>K.aI w.AA e.1)<|K.aI w.AA x).isSome=(GL K d x).isSome:=by
 cases d with
 |nil=>calc {rfl,rfl}|cons e d a=>
  letI:=K.D6
  show(((if K.aI w.AA x=K.aI w.AA e.1 then U 0 else(CK _ _).map (·+1)):↥Nat).bind _=Lo f (if x=e.1 then U e.2 else GL K d x))/\Ajs (if K.aI w.AA x=K.aI w.AA e.1 then U 0 else(CK _ _).map (·+1))=Ajs (if x=e.1 then U e.2 else GL K d x);by_cases h:x=e.1;·rw[ao h,ao<|ah (K.aI w.AA) h];exact {rfl,rfl}
  ·rw[ai h,ai λz=>h<|K.inj _ w.inj _ _ z,j2,<-a.1,<-a.2];calc {by rw[sM];rfl,rfl}
def gY{f:β->T}(d:-(K.CC.AR×β))(x:K.CC.AR)(y:β):Hv (d.map λe=>K.aI w.AA e.1) (K.aI w.AA x)=(FD K d x y).map (λe=>K.aI w.AA e.1)/\Gi (CK (d.map λe=>K.aI w.AA e.1)<|K.aI w.AA x) (d.map λe=>f e.2) (f y)=(FD K d x y).map λe=>f e.2:=by
 cases d with
 |nil=>calc {rfl,rfl}|cons e d a=>
  letI:=K.D6
  unfold Hv Gi at a⊢;show tB (if K.aI w.AA x=K.aI w.AA e.1 then U 0 else(CK _ _).map (·+1)) _ _=Hs _ (if x=e.1 then(e.1,y)::d else e::FD K d x y)/\tB (if K.aI w.AA x=K.aI w.AA e.1 then U 0 else(CK _ _).map (·+1)) _ _=Hs _ (if x=e.1 then(e.1,y)::d else e::FD K d x y);by_cases h:x=e.1;·rw[ao h,ao<|ah (K.aI w.AA) h];exact {rfl,rfl}
  ·rw[ai h,ai λz=>h<|K.inj _ w.inj _ _ z];cases q:CK (d.map λe=>K.aI w.AA e.1) (K.aI w.AA x) with
   |none=>rw[q] at a;calc {ah (_::·) a.1,ah (_::·) a.2}|some i=>rw[q] at a;calc {ah (_::·) a.1,ah (_::·) a.2}
abbrev Hz(K:EC)(t:Az):La K.CC (AQ K t):={.In,λx d Q=>Q (GL K d x).isSome,λ{w _ _ a _ _ x d _} q=>uV (K.ok _ _ _) (dA _ x d)<|(es (w:=w) (f:=t.AH w.AA a.B2) d x).2⊂q}
abbrev Gk(Dd:La Bc σ)(h:Dd.op=.In):La Bc σ:={.NotIn,λx y Q=>Dd.wp x y λb=>Q<|!b,λq=>uH<|h∣Dd.ok q}
abbrev E4(K:EC)(t:Az):TF (AQ K t) K.CC t:={λd x Q=>∃y,GL K d x=U y/\Q y,Bv.B2,λ{w _ l _ _ _ d x _ _ _} c q=>ae q λy h q=>aV ((es d x).1.trans<|ah _ h) λj a b=>uO c (K.ok _ _ _) (dA _ x d) a b<|.Dm q}
def Cu(n:Nat):Prop:=n<1000000
def Cu.au{n:Nat}(h:Cu n):(n:Int)<2^63:=Int.lt_of_lt_of_le (Nx.mpr h) ∅
def iH{xs:-α}(h:i<J xs):(xs.map f)[i]?=U (f<|xs.getD i d):=by rw[Gw,CO,Dv h];rfl
abbrev BR(t:Az):TF ⇑t O t:={λa i Q=>(i<J a/\Cu i)/\Q (a.getD i t.C2),Bv.B2,λa h=>gw (b:=Ab) a (Hr _) h.1.2.au (iH h.1.1)<|.Dm h.2}
abbrev oz(t:Az):TF (Ar t) O t:={λa i Q=>(i<J a/\Cu i)/\Q (a.getD i t.C2),id,λa h=>gw (b:=Y) a (Hr _) h.1.2.au (iH h.1.1)<|.Dm h.2}
abbrev RO(t u:Az):TF (A0 t u) (W9 0) t:={λx Z Q=>Q x.1,id,λa h=>gw (b:=Y) (i:=((0:Nat):Int)) a ∅ ∅ rfl (.Dm h)}
abbrev Xc(t u:Az):TF (A0 t u) (W9 1) u:={λx Z Q=>Q x.2,id,λa h=>gw (b:=Y) (i:=((1:Nat):Int)) a ∅ ∅ rfl (.Dm h)}
abbrev KW(op:Operator)(c:Nat->Nat->Prop)(f:Nat->Nat->Nat)(h:∀{z:A5} {a b:Nat} {m d:By} {Q:T->By->Prop},c a b->Q (.au (f a b:Nat)) .AU->GU z (LW op) (.au (a:Int)) m (.au (b:Int)) d Q):PG O O O:={op,λZ Z=>U (.AU,.F),λa b Q=>c a b/\Q (f a b),λe q=>h q.1<|BQ e∣DP.mk q.2}
abbrev JG(op:Operator)(f:Nat->Nat->Nat)(h:∀{z:A5} {a b:Nat} {m c:By} {Q:T->By->Prop},Q (.au (f a b:Nat)) .AU->GU z (LW op) (.au (a:Int)) m (.au (b:Int)) c Q):PG O O O:={op,λZ Z=>U (.AU,.F),λa b Q=>Q<|f a b,λe q=>h<|BQ e∣DP.mk q}
def iI(x:Int):Builtin.bitNot (Builtin.bitNot x)=x:=ah (·-1) ((Int.neg_sub (Neg.neg x) 1).trans<|(Int.sub_neg 1 x).trans<|Int.add_comm 1 x)^Int.add_sub_cancel x 1
def zl(a b:Nat):Builtin.bitOr (a:Int) (b:Int)=((a|||b:Nat):Int):=by have n:∀c:Nat,decide (0<=Builtin.bitNot (c:Int))=Ab:=λc=>decide_eq_false<|Int.not_le.mpr<|Int.sub_neg_of_lt<|ZX (Int.neg_nonpos_of_nonneg<|Hr c) ∅;unfold Builtin.bitOr Builtin.bitAnd;rw[n a,n b];show Builtin.bitNot (Builtin.bitNot _)=_;rw[iI,iI,iI,Wq,Wq]
def zm(a b:Nat):Builtin.bitAnd (a:Int) (b:Int)=((a&&&b:Nat):Int):=by unfold Builtin.bitAnd;rw[aJ<|Hr a,aJ<|Hr b];rw[Wq,Wq]
def zo(a b:Nat):(a:Int).fdiv (2^(b:Int).toNat)=((a>>>b:Nat):Int):=by rw[Wq,tC,Ajt _<|Int.le_of_lt<|Int.pow_pos ∅];calc ah (λz:Int=>(a:Int)/z) (Aju 2 b).symm^(Ajv a _).symm
def zp(a b:Nat):(a:Int)*2^(b:Int).toNat=((a<<<b:Nat):Int):=by rw[Wq,Nat.shiftLeft_eq,Ajw,Aju];rfl
abbrev PM:=JG .BitOr (·|||·) λ{Z a b _ _ _} q=>ux<|zl a b⊂q
abbrev JH:=JG .BitAnd (·&&&·) λ{Z a b _ _ _} q=>uy<|zm a b∣q
abbrev JI:=JG .RShift (·>>>·) λ{Z a b _ _ _} q=>uA (Hr b)<|zo a b⊂q
abbrev JL:=KW .LShift (λa b=>b<=1000000/\a<2^64) (·<<<·) λ{Z a b _ _ _} h q=>uz (Hr b) (Qw.mpr h.1) h.2<|zp a b⊂q
abbrev JM:=KW .Sub (λa b=>b<=a) (·-·) λ{Z a b _ _ _} h q=>ur<|sU h∣q
end
noncomputable def tk(t:Az)(AJ:By)(l:Bv):↥Bv:=if t.aW=Y then U .A else if l=.Dd then Ai else match AJ with
 |.AU=>U l|.DC=>if l=.F then U .F else Ai|.aM=>if l=.A then U .A else Ai
noncomputable def up(l:Bv):Bv:=if l=.A then .A else .Dd
def AP.bw{α:Type}{f:α->T}{xs:-α}(h:AP (J xs)):Fs (xs.map f)=Y:=aJ (by rw[Bq];calc h)
inductive KX(t:Az):By->Bv->Bv->Prop
 |aW {AJ l} (h:t.aW=Y):KX t AJ l .A
 |AU {l} (h:l≠.Dd):KX t .AU l l
 |DC:KX t .DC .F .F
 |aM:KX t .aM .A .A
section
variable{t u σ Bc Bd:Az}{w:Bk}{Ak:EA}{g:By}{l d:Bv}{x:t.AR}{BP:Bool}{α:Type}{f:α->t.AR}{xs:-α}
def iL(h:tk t g l=U d):KX t g l d:=by
 clear t g l d _ h;unfold tk at h;by_cases c:t.aW=Y;·rw[ao c] at h;exact BQ h∣.aW c
 ·rw[ai c] at h;by_cases o:l=.Dd;·rw[ao o] at h;delta h
  ·rw[ai o] at h;cases g with
   |AU=>calc BQ h∣.AU o|DC=>calc aC (bf h) λa b=>a▸rwl b .DC|aM=>calc aC (bf h) λa b=>a▸rwl b .aM
def dW(h:tk t g l=U d):d=.A\/d=.F:=by
 clear t g l d _ h;cases iL h with
 |AU c=>cases (l)with
  |Dd=>calc ar rfl c|A=>calc .inl rfl|F=>calc .inr rfl
 |DC=>calc .inr rfl|_=>calc .inl rfl
def dn(h:t.aW=Y)(a b:Bv):t.AH Ak a x=t.AH Ak b x:=t.Bf h Ak a x^(t.Bf h Ak b x).symm
def cQ(h:t.aW=Y):(t.AH Ak l x).EO=Y/\(t.AH Ak l x).Fc=Y:={t.Bf h Ak l x⊂t.no Ak x,dn h .A l∣t.a5 Ak x}
def fI(h:t.aW=Y)(a b:Bv):(xs.map λx=>t.AH Ak a<|f x)=xs.map λx=>t.AH Ak b (f x):=FI λZ Z=>dn h a b
def dB(h:tk t g l=U d):LV Ab (t.AH Ak l x) g (t.AH Ak d x):=by
 clear t Ak g l d _ x _ h;cases iL h with
 |aW c=>calc dn c l .A∣.bh (by cases g;calc rfl;calc(cQ c).1;calc(cQ c).2)|AU=>calc .bh rfl|DC=>calc .bh<|t.no Ak x|aM=>calc .bh<|t.a5 Ak x
def fL(h:tk t g l=U d)(f:α->t.AR)(xs:-α):(xs.map λx=>t.AH Ak l<|f x)=(xs.map λx=>t.AH Ak d<|f x)/\QI (xs.map λx=>t.AH Ak l<|f x) g=Y:=by
 clear t Ak g l d α _ f xs _ h;cases iL h with
 |aW c=>calc {fI c l .A,by induction g;calc rfl;calc fI c .F l∣er xs;calc fI c .A l∣fG xs}|AU=>calc {rfl,rfl}|DC=>calc {rfl,er xs}|aM=>calc {rfl,fG xs}
def e0(h:tk t g l=U d)(f:α->t.AR)(xs:-α):Pu Ab (xs.map λx=>t.AH Ak l<|f x) g (xs.map λx=>t.AH Ak d<|f x):=aC (fL h f xs) λe o=>e∣.bh o
def gU(h:l=.A\/l=.F):(up l).B2=l/\(up l).b=Y:=by rcases h with rfl|rfl<;>calc {rfl,rfl}
def zq(h:tk t g l=U d)(xs:-t.AR):T.Bo Y (xs.map λx=>t.AH Ak d x)=(⇑t).AH Ak (up d) xs:=by show _=T.Bo (up d).b (xs.map λx=>t.AH Ak (up d).B2 x);rw[(gU<|dW h).1,(gU<|dW h).2]
abbrev F5(t:Az):PG ⇑t ⇑t ⇑t:=⟨.Add,λr q=>(tk t r.1 r.2.B2).bind λa=>(tk t q.1 q.2.B2).bind λb=>if a=b then U (.AU,up a) else Ai,λa b Q=>(AP (J a)/\AP (J b))/\Q (a++b),λ{w z j DZ r xs Al Q} h q=>aV h λa Ag h=>aV h λb c h=>aC (bf h) λe i=>by subst e;have DT:=fL (Ak:=w.AA) Ag (λx=>x) xs;have DW:=fL (Ak:=w.AA) c (λx=>x) Al;calc uE DT.2 DW.2 q.1.1.bw q.1.2.bw ?_;rw[DT.1,DW.1,<-Ee];calc zq Ag (xs++Al)▸rwl i (.mk q.2)⟩
abbrev R0(t:Az):PG (Ar t) (Ar t) (Ar t):=⟨.Add,λr q=>(tk t r.1 r.2).bind λa=>(tk t q.1 q.2).bind λb=>if a=b then U (.AU,t.Dm a) else Ai,λa b Q=>(AP (J a)/\AP (J b))/\Q (a++b),λ{w z j DZ r xs Al Q} h q=>aV h λa Ag h=>aV h λb c h=>aC (bf h) λe i=>by subst e;have DT:=fL (Ak:=w.AA) Ag (λx=>x) xs;have DW:=fL (Ak:=w.AA) c (λx=>x) Al;calc uF DT.2 DW.2 q.1.1.bw q.1.2.bw ?_;rw[DT.1,DW.1,<-Ee];calc i∣.Dm q.2⟩
abbrev FW:PG O O O:={.Add,λZ Z=>U (.AU,.F),λa b Q=>Q<|a+b,λe q=>uq<|BQ e∣DP.mk q}
def oA{α:Type}{x:α}:∀m:Nat,(CV m [x]).flatten=CV m x
 |0=>rfl|m+1=>ah (x::·)<|oA m
abbrev TH(t:Az)(a:autoParam (t.aW=Y) mAr):PG ⇑t O ⇑t:=⟨.Mult,λZ Z=>U (.AU,.A),λa m Q=>∃x,a=[x]/\AP m/\Q (CV m x),λ{w z i DZ r xs m Q} h q=>aE q λx e b c=>by subst e;calc xG (by show(_&&Y)=Y;rw[(cQ a).1];rfl) (e0 (ao a) (λx=>x) [x]) (by show 1<=4;decide) b ?_;rw[oA];calc(List.map_replicate)▸rwl (BQ h) (.mk c)⟩
end
def Lc(Ak:EA):(FX:-Az)->Ao FX->↑T
 |[],_=>[]
 |t::FX,v=>t.AH Ak .F v.1::Lc Ak FX v.2
inductive YO(w:Bk)(FX:-Az)(Q:Ao FX->Prop):-T->Prop
 |mk {Ae:Ao FX} (q:Q Ae):YO w FX Q (Lc w.AA FX Ae)
structure NK(V FX:-Az) where
 An:-A2->↑A2
 AI:Ea->↑A2->Bool
 AB:Br->Bool
 wp:Bk->Ao V->(Ao FX->Prop)->Prop
 Xd:∀AE,I5 (An AE)=Y
 bj:∀AE,(An AE).length=(J FX)
 AX:∀{w:Bk} {st:Br} {Af:Ao V} {z:A5} {Q},In w V st Af z->∀AE,AI z.V.C AE=Y->AB st=Y->wp w Af Q->HN z (An AE) Y (YO w FX Q)
 arg:∀{w:Bk} {st:Br} {Af:Ao V} {z:A5} {Q},In w V st Af z->∀AE,AI z.V.C AE=Y->AB st=Y->wp w Af Q->Ts z (YO w FX Q) (An AE)
section
variable{AE:-A2}
def HN.aq(H:HN z AE b Q)(q:∀Av,Q Av->DH Av):HN z AE b DH:=λa s R=>H.aG R λa b c p S y=>{c,q c p,S,y}
def Ts.aq(H:Ts z Q AE)(q:∀Av,Q Av->DH Av):Ts z DH AE:=by
 cases (H)with
 |nil h=>calc .nil<|q _ h|cons h=>calc .cons<|h.aq q
def Gh.aq{t:T}(h:Gh Q t)(q:∀t AJ,Q t AJ->DH t AJ):Gh DH t:=h.rec (λf h=>.bh f<|q _ _ h) λh=>.Gz<|q _ _ h
def Ia.aq{k:Nat}(h:Ia Aa k EN Av Q)(q:∀t,Q t->DH t):Ia Aa k EN Av DH:=λz s a b c R y=>CW (h z s a b c R y) (λv a o=>o.rec λt f p S y a b=>{t,f,q t p,S,y,a,b}) bu
def DP.aq{t:T}(h:DP w Bc r Q t AJ)(q:∀v,Q v->DH v):DP w Bc r DH t AJ:=h.rec λh=>.mk<|q _ h
def TC.iM(H:TC w z)(h:Ia w.Aa w.d EN Av Q):Ia z.Aa z.V.k EN Av Q:=by rw[H.1,H.2];calc h
def Be:NK V [] where
 An _:=[]
 AI _ _:=Y
 AB _:=Y
 wp _ _ Q:=Q ()
 Xd _:=rfl
 bj _:=rfl
 AX _ _ _ _ q:=dQ (.mk q)
 arg _ _ _ _ q:=.nil<|.mk q
def oB(a:Bx V t)(r:NK V FX){st:Br}(H:In w V st Af z)(AE:-A2)(h:(a.AI z.V.C (L5 AE)&&r.AI z.V.C AE.tail)=Y)(c:((a.AB st).isSome&&r.AB st)=Y)(q:a.wp w Af λx=>r.wp w Af λa=>Q (x,a)):HN z (a.An (L5 AE)::r.An AE.tail) Y (YO w (t::FX) Q):=
 bC (aD c).1 λb d=>c7 (a.B1 _).1<|(a.AX H _ (aD h).1 d q).em λx q=>{_,.Gz,(r.AX H _ (aD h).2 (aD c).2 q).aq λa p=>p.rec λ{a} q=>t.Dx w.AA b.2 x⊂.mk (FX:=t::FX) q}
def Bb(a:Bx V t)(r:NK V FX):NK V (t::FX) where
 An AE:=a.An (L5 AE)::r.An AE.tail
 AI C AE:=a.AI C (L5 AE)&&r.AI C AE.tail
 AB st:=(a.AB st).isSome&&r.AB st
 wp w Af Q:=a.wp w Af λx=>r.wp w Af λa=>Q (x,a)
 Xd AE:=bc {by rw[(a.B1 _).1];rfl,r.Xd _}
 bj AE:=ah (·+1) (r.bj _)
 AX H AE h c q:=oB a r H AE h c q
 arg H AE h c q:=.cons<|oB a r H AE h c q
structure Ci(as:-Az)(Bd:Az) where
 id:Nat
 R1:By×Bv
def Ci.BZ(F:Ci as Bd)(w:Bk)(Ae:Ao as)(Q:Bd.AR->Prop):Prop:=NX w.Aa w.DD->Ia w.Aa w.d (.ref<|w.DD F.id) (Lc w.AA as Ae) (Gh<|DP w Bd F.R1 Q)
def Ci.BZ.aq{F:Ci as Bd}{Ae:Ao as}{Q:Bd.AR->Prop}(h:F.BZ w Ae Q)(q:∀y,Q y->DH y):F.BZ w Ae DH:=λa=>Ia.aq (h a) λZ h=>h.aq λZ Z h=>h.aq q
def Abj(Bd:Az)(l:Bv):↥(By×Bv):=if Bd.aW=Y then U (.AU,.F) else if l=.A then U (.AU,.A) else if l=.F/\Bd.strict=Y then U (.aM,.F) else Ai
def KZ(C:Ea)(x:Str):Bool:=C.BN.names.lookup x==U .globalImplicit&&x !="__debug__"
def gV(h:KZ C x=Y):C.BN.names.lookup x=U .globalImplicit/\(x==("__debug__":Str))=Ab:={eq_of_beq (aD h).1,EJ _∣(aD h).2}
def Bs(F:Ci (t::FX) Bd)(a:Bx V t)(r:NK V FX):Bx V Bd where
 An e:=.Call (.Name (CN<|Ap e 0) (Ap e 0).pos) ((Bb a r).An (Dg e).tail) [] e.pos
 pl:=Y
 cm:=Ab
 nb:=Ab
 AI C e:=KZ C (CN<|Ap e 0)&&(QW F.id==U (CN<|Ap e 0,Ab)&&(Bb a r).AI C (Dg e).tail)
 AB st:=if(Bb a r).AB st=Y then U F.R1 else Ai
 wp w Af Q:=(Bb a r).wp w Af λa=>F.BZ w a Q
 B1 _:={rfl,rfl,rfl,rfl,rfl,rfl}
 AX {w _ _ _ _ _} H e h c q:=cp h λb d f=>aC (gV b) λb e=>aC (H.1.3.3 F.id _<|eq_of_beq d) λd g=>aC (bf c) λc h=>h∣v5 H.1.ok (H.1.1▸d) b (H.1.1▸g) e ((Bb a r).Xd _) (((Bb a r).AX H _ f c q).aq λa p=>p.rec λq=>H.1.iM<|q H.1.3)
def JN(t:Az)(x:Str):Prop:=∀Ak l y,∃as a xs,t.AH Ak l y=.ab (.DM 1 as) a xs/\Tr x as=Y
def F6(F:Ci (t::FX) Bd)(x:Str)(bF:JN t x)(o:Bx V t)(r:NK V FX):Bx V Bd where
 An e:=.Call (.Attribute (o.An<|Ap (Ap e 0) 0) x (Ap e 0).pos) (r.An (Dg e).tail) [] e.pos
 pl:=Y
 cm:=Ab
 nb:=Ab
 AI C e:=(QW F.id==U (x,Y)&&o.nb)&&(((Ap e 0).pos.endLine==e.pos.line)&&decide (J FX<29))&&(o.AI C (Ap (Ap e 0) 0)&&r.AI C (Dg e).tail)
 AB st:=if(o.AB st).isSome&&r.AB st then U F.R1 else Ai
 wp w Af Q:=o.wp w Af λg=>r.wp w Af λa=>F.BZ w (g,a) Q
 B1 _:={rfl,rfl,rfl,rfl,rfl,rfl}
 AX {w _ _ _ _ _} H e h c q:=aC (aD h) λh a=>aC (aD h) λb d=>aC (bf c) λc h=>bC (aD c).1 λf i=>h∣xa H.1.ok (H.1.1▸H.1.3.4 F.id _ (eq_of_beq (aD b).1)) ((o.B1 _).6^(aD b).2) (aD d).1 (r.Xd _) (r.bj _▸aL (aD d).2) ((o.AX H _ (aD a).1 i q).em λg q=>cB (bF w.AA f.2 g) λb j d e l=>{b,j,d,e,l,(r.arg H _ (aD a).2 (aD c).2 q).aq λa p=>p.rec λq=>t.Dx w.AA f.2 g▸H.1.iM (q H.1.3)})
structure I9(Bc Bd:Az) where
 B3:Str
 EN:Aw
 Lu:B3∈Pt/\SI B3=U EN/\Tb EN=Y
 AB:By×Bv->↥(By×Bv)
 wp:Bk->Bc.AR->(Bd.AR->Prop)->Prop
 ok:∀{w:Bk} {z:A5} {r a x Q},TC w z->AB r=U a->wp w x Q->Mz z EN (Bc.AH w.AA r.2 x) r.1 (DP w Bd a Q)
def Cd(Dd:I9 Bc Bd)(a:Bx V Bc):Bx V Bd where
 An e:=.Call (.Name Dd.B3 (Ap e 0).pos) [a.An<|Ap e 1] [] e.pos
 pl:=Y
 cm:=Ab
 nb:=Ab
 AI C e:=KZ C Dd.B3&&a.AI C (Ap e 1)
 AB st:=(a.AB st).bind Dd.AB
 wp w Af Q:=a.wp w Af λx=>Dd.wp w x Q
 B1 _:={rfl,rfl,rfl,rfl,rfl,rfl}
 AX H e h c q:=a3 h λb d=>aV c λr f g=>u4 H.1.ok (gV b).1 Dd.Lu.1 Dd.Lu.2.1 Dd.Lu.2.2 (a.B1 _).1<|(a.AX H _ d f q).em λx q=>Dd.ok H.1 g q
end
inductive oC(w:Bk)(t:Az)(l:Bv)(n:Nat)(Q:-t.AR->Prop):-T->Prop
 |mk {xs:-t.AR} (a:J xs=n) (q:Q xs):oC w t l n Q (xs.map λx=>t.AH w.AA l x)
structure KY(V:-Az)(t:Az) where
 An:-A2->↑A2
 AI:Ea->↑A2->Bool
 n:Nat
 AB:Br->↥Bv
 wp:Bk->Ao V->(-t.AR->Prop)->Prop
 BP:∀{st l},AB st=U l->l=.A\/l=.F
 AX:∀{w:Bk} {st:Br} {Af:Ao V} {z:A5} {l Q},In w V st Af z->∀AE,AI z.V.C AE=Y->AB st=U l->wp w Af Q->HN z (An AE) Ab (oC w t l n Q)
section
variable{t v:Az}{st:Br}
def In.aA(H:In w V st Af z):In w V st Af (z.aA X Bj):=⟨⟨H.1.1,H.1.2,H.1.3⟩,H.2⟩
def fM(h:l=.A\/l=.F)(xs:-t.AR):T.Bo Y (xs.map λx=>t.AH Ak l x)=(⇑t).AH Ak (up l) xs:=by show _=T.Bo (up l).b (xs.map λx=>t.AH Ak (up l).B2 x);rw[(gU h).1,(gU h).2]
def Ag(a:Bx V t):KY V t where
 An AE:=[a.An<|L5 AE]
 AI C AE:=a.AI C (L5 AE)
 n:=1
 AB st:=(a.AB st).bind λr=>tk t r.1 r.2
 wp w Af Q:=a.wp w Af λx=>Q [x]
 BP c:=aV c λZ Z c=>dW c
 AX H AE h c q:=aV c λr b d=>c7 (a.B1 _).1<|(a.AX H _ h b q).em λx q=>{_,dB d,dQ<|.mk rfl q}
def A4(a:Bx V t)(r:KY V t):KY V t where
 An AE:=a.An (L5 AE)::r.An AE.tail
 AI C AE:=a.AI C (L5 AE)&&r.AI C AE.tail
 n:=r.n+1
 AB st:=(a.AB st).bind λq=>(tk t q.1 q.2).bind λl=>if r.AB st=U l then U l else Ai
 wp w Af Q:=a.wp w Af λx=>r.wp w Af λa=>Q (x::a)
 BP c:=aV c λZ Z c=>aV c λZ b c=>(bf c).2▸dW b
 AX H AE h c q:=a3 h λd f=>aV c λp b c=>aV c λl g c=>aC (bf c) λi e=>e▸c7 (a.B1 _).1 ((a.AX H _ d b q).em λx q=>{_,dB g,(r.AX H _ f i q).aq λa p=>p.rec λ{a} j q=>.mk (ah (·+1) j) q})
def Bo(r:KY V t):Bx V ⇑t where
 An e:=.List (r.An<|Dg e) e.pos
 pl:=Y
 cm:=Ab
 nb:=Ab
 AI C e:=r.AI C (Dg e)
 AB st:=if r.n<=1000 then(r.AB st).map λl=>(.AU,up l) else Ai
 wp w Af Q:=r.wp w Af Q
 B1 _:={rfl,rfl,rfl,rfl,rfl,rfl}
 AX H e h c q:=aC (c8 c) λb c=>bT c λl a e=>e∣hW ((r.AX H _ h a q).aq λc p=>p.rec λ{c} d q=>{AP.bw<|(d▸b)\∅,fM (r.BP a) c▸.mk q})
def Gl(r:KY V t):Bx V (Ar t) where
 An e:=.Tuple (r.An<|Dg e) (GG e) e.pos
 pl:=Y
 cm:=Ab
 nb:=Ab
 AI C e:=r.AI C (Dg e)
 AB st:=if r.n<=1000 then(r.AB st).map λl=>(.AU,t.Dm l) else Ai
 wp w Af Q:=r.wp w Af Q
 B1 _:={rfl,rfl,rfl,rfl,rfl,rfl}
 AX H e h c q:=aC (c8 c) λa c=>bT c λl b e=>e∣eR ((r.AX H _ h b q).aq λb p=>p.rec λ{b} d q=>{AP.bw<|(d▸a)\∅,.Dm q})
def C4(t:Az):Bx V ⇑t where
 An e:=.List [] e.pos
 pl:=Y
 cm:=Ab
 nb:=Ab
 AI _ _:=Y
 AB _:=U (.AU,.A)
 wp _ _ Q:=Q []
 B1 _:={rfl,rfl,rfl,rfl,rfl,rfl}
 AX H e h c q:=BQ c∣hW (b:=Ab) (dQ {rfl,.mk (Bc:=⇑t) q})
def PN(t:Az):Bx V (Ar t) where
 An e:=.Tuple [] (GG e) e.pos
 pl:=Y
 cm:=Ab
 nb:=Ab
 AI _ _:=Y
 AB _:=U (.AU,.F)
 wp _ _ Q:=Q []
 B1 _:={rfl,rfl,rfl,rfl,rfl,rfl}
 AX H e h c q:=BQ c∣eR (b:=Ab) (dQ {rfl,.mk (Bc:=Ar t) q})
def KU(t u:Az)(a b:Bv):↥Bv:=if t.aW=Y then U b else if u.aW=Y then U a else if a=b then U a else Ai
def gJ(h:KU t u a b=U l):t.AH Ak a x=t.AH Ak l x/\u.AH Ak b y=u.AH Ak l y:=by
 clear t u Ak a b l _ x y _ h;unfold KU at h;by_cases c:t.aW=Y;·rw[ao c] at h;delta h;exact {dn c _ _,rfl}
 ·rw[ai c] at h;by_cases d:u.aW=Y;·rw[ao d] at h;delta h;exact {rfl,dn d _ _}
  ·rw[ai d] at h;calc aC (bf h) λe f=>?_;subst f;calc {rfl,e∣rfl}
def ED(a:Bx V t)(b:Bx V u):Bx V (A0 t u) where
 An e:=.Tuple [a.An<|Ap e 0,b.An<|Ap e 1] (GG e) e.pos
 pl:=Y
 cm:=Ab
 nb:=Ab
 AI C e:=a.AI C (Ap e 0)&&b.AI C (Ap e 1)
 AB st:=(a.AB st).bind λr=>(tk t r.1 r.2).bind λl=>(b.AB st).bind λq=>(tk u q.1 q.2).bind λm=>(KU t u l m).map λn=>(.AU,(A0 t u).Dm n)
 wp w Af Q:=a.wp w Af λx=>b.wp w Af λy=>Q (x,y)
 B1 _:={rfl,rfl,rfl,rfl,rfl,rfl}
 AX {w _ _ _ _ _} H e h c q:=a3 h λd f=>aV c λo g c=>aV c λl h c=>aV c λo i c=>aV c λm o c=>bT c λn j e=>e▸eR (b:=Ab) (c7 (a.B1 _).1 ((a.AX H _ d g q).em λx q=>⟨_,dB h,c7 (b.B1 _).1 ((b.AX H _ f i q).em λy q=>⟨_,dB o,dQ ⟨rfl,by
  rw[(gJ (Ak:=w.AA) (x:=x) (y:=y) j).1,(gJ (Ak:=w.AA) (x:=x) j).2];calc .Dm (Bc:=A0 t u) (l:=n) (v:=(x,y)) q⟩⟩)⟩))
def Ld(a:Bx V t)(b:Bx V u)(c:Bx V v):Bx V (DN t u v) where
 An e:=.Tuple [a.An<|Ap e 0,b.An<|Ap e 1,c.An<|Ap e 2] (GG e) e.pos
 pl:=Y
 cm:=Ab
 nb:=Ab
 AI C e:=a.AI C (Ap e 0)&&b.AI C (Ap e 1)&&c.AI C (Ap e 2)
 AB st:=(a.AB st).bind λr=>(tk t r.1 r.2).bind λl=>(b.AB st).bind λq=>(tk u q.1 q.2).bind λm=>(c.AB st).bind λp=>(tk v p.1 p.2).bind λo=>(KU u v m o).bind λn=>(KU t (A0 u v) l n).map λi=>(.AU,(DN t u v).Dm i)
 wp w Af Q:=a.wp w Af λx=>b.wp w Af λy=>c.wp w Af λz=>Q (x,y,z)
 B1 _:={rfl,rfl,rfl,rfl,rfl,rfl}
 AX {w _ _ _ _ _} H e h k q:=a3 h λg s=>aV k λE A k=>aV k λl h k=>aV k λp B k=>aV k λm p k=>aV k λF D k=>aV k λo m k=>aV k λn d k=>bT k λi f e=>e▸eR (b:=Ab) (c7 (a.B1 _).1 ((a.AX H _ (aD g).1 A q).em λx q=>⟨_,dB h,c7 (b.B1 _).1 ((b.AX H _ (aD g).2 B q).em λy q=>⟨_,dB p,c7 (c.B1 _).1 ((c.AX H _ s D q).em λz q=>⟨_,dB m,dQ ⟨rfl,by
  have f:=gJ (Ak:=w.AA) (x:=x) (y:=((y,z):(A0 u v).AR)) f;have d:=gJ (Ak:=w.AA) (x:=y) (y:=z) d;have j:=Ge (T.ab.inj f.2).2.2;rw[f.1,d.1,d.2,j.1,(Ge j.2).1];calc .Dm (Bc:=DN t u v) (l:=i) (v:=(x,y,z)) q⟩⟩)⟩)⟩))
structure IL(Bc Bd:Az) where
 n:Nat
 f:Bc.AR->Bd.AR
 B2:Bv->Bv
 ok:∀{Ak l x AJ Q},Q (Bd.AH Ak (B2 l)<|f x) AJ->VO n Q (Bc.AH Ak l x) AJ
def Bw(A:IL Bc Bd)(a:Bx V Bc):Bx V Bd where
 An e:=.Attribute (a.An<|Ap e 0) (En A.n) e.pos
 pl:=Y
 cm:=Ab
 nb:=Y
 AI C e:=a.nb&&a.AI C (Ap e 0)
 AB st:=(a.AB st).map λr=>(r.1,Bd.Dm<|A.B2 r.2)
 wp w Af Q:=a.wp w Af λx=>Q (A.f x)
 B1 _:={rfl,rfl,rfl,rfl,rfl,rfl}
 AX H e h c q:=a3 h λb d=>bT c λr g e=>e∣u2 H.1.ok ((a.B1 _).6^b) ((a.AX H _ d g q).em λx q=>A.ok<|.Dm q)
def JP(t:Az)(x:Str)(c:T)(d:Bk->(t.AR->Prop)->Prop)(a:(x,c)∈([("END",.au 0),("ERROR",.au 1),("OWN_TERMINALS",.aT [.aZ "$end",.aZ "error",.aZ "$undefined"])]:-(Str×T)))(EP:(x==("__debug__":Str))=Ab)(ok:∀{w Q},d w Q->∃y,c=t.AH w.AA .F y/\Q y):Bx V t where
 An e:=.Name x e.pos
 pl:=Y
 cm:=Ab
 nb:=Y
 AI C _:=C.BN.names.lookup x==U .globalImplicit
 AB _:=U (.AU,.F)
 wp w _ Q:=d w Q
 B1 _:={rfl,rfl,rfl,rfl,rfl,rfl}
 AX {w _ _ _ _ _} H e h k q:=u3 H.1.ok (eq_of_beq h) (H.1.1⊂H.1.3.2 _ a) EP<|ae (ok q) λy e q=>BQ k▸rwr e (.mk q)
abbrev JQ:Bx V O:=JP O "END" (.au 0) (λZ Q=>Q 0) (.head _) ∅ λq=>{0,rfl,q}
abbrev oD:Bx V O:=JP O "ERROR" (.au 1) (λZ Q=>Q 1) (.tail _<|.head _) ∅ λq=>{1,rfl,q}
abbrev zr:Bx V (Ar Ac):=JP (Ar Ac) "OWN_TERMINALS" (.aT [.aZ "$end",.aZ "error",.aZ "$undefined"]) (λw Q=>∃a b c,w.AA a="$end"/\w.AA b="error"/\w.AA c="$undefined"/\Q [a,b,c]) (.tail _<|.tail _<|.head _) ∅ λ⟨a,b,c,Ag,d,e,q⟩=>{[a,b,c],by rw[<-Ag,<-d,<-e];rfl,q}
def NZ(K:EC)(t:Az):Bx V (AQ K t) where
 An e:=.Dict [] [] e.pos
 pl:=Y
 cm:=Ab
 nb:=Ab
 AI _ _:=Y
 AB _:=U (.AU,.A)
 wp _ _ Q:=Q []
 B1 _:={rfl,rfl,rfl,rfl,rfl,rfl}
 AX H e h c q:=w5 H.1.ok<|BQ c∣.mk (Bc:=AQ K t) q
def Abk(K:EC)(t:Az)(d:t.aW=Y)(a:Bx V K.CC)(b:Bx V t):Bx V (AQ K t) where
 An e:=.Dict [U<|a.An<|Ap e 0] [b.An<|Ap e 1] e.pos
 pl:=Y
 cm:=Ab
 nb:=Ab
 AI C e:=a.AI C (Ap e 0)&&b.AI C (Ap e 1)
 AB st:=if(a.AB st).isSome&&(b.AB st).isSome then U (.AU,.A) else Ai
 wp w Af Q:=a.wp w Af λx=>b.wp w Af λy=>Q [(x,y)]
 B1 _:={rfl,rfl,rfl,rfl,rfl,rfl}
 AX {w _ _ z _ _} H e h c q:=a3 h λf g=>aC (bf c) λc e=>bC (aD c).1 λl i=>bC (aD c).2 λc j=>e▸xx H.1.ok λX e=>(a.AX (z:=z.aA X e) H.aA _ f i q).em λx q=>{_,K.ok _ _ _,(b.AX (z:=z.aA X e) H.aA _ g j q).em λy q=>{t.AH w.AA .A y,dn d c.2 .A∣.bh (by induction c.1;calc rfl;calc(cQ d).1;calc(cQ d).2) (.inl (cQ d).1),t.a5 _ _,.mk (Bc:=AQ K t) q}}
def oE(H:BM z e λt Z=>Q t.D5 .aM):BM z e Q:=λs R=>H.aG R λv a t b q S y=>{_,_,q,S,y.aM S.2 R.bb}
def JR(K:EC)(t:Az)(a:Bx V (AQ K t))(b:Bx V K.CC)(c:Bx V t):Bx V t where
 An e:=.Call (.Attribute (a.An<|Ap (Ap e 0) 0) "get" (Ap e 0).pos) [b.An<|Ap e 1,c.An<|Ap e 2] [] e.pos
 pl:=Y
 cm:=Ab
 nb:=Ab
 AI C e:=(a.nb&&((Ap e 0).pos.endLine==e.pos.line))&&(a.AI C (Ap (Ap e 0) 0)&&(b.AI C (Ap e 1)&&c.AI C (Ap e 2)))
 AB st:=if(a.AB st).isSome&&(b.AB st).isSome&&(c.AB st).isSome then U (.aM,.F) else Ai
 wp w Af Q:=a.wp w Af λd=>b.wp w Af λx=>c.wp w Af λy=>Q ((GL K d x).getD y)
 B1 _:={rfl,rfl,rfl,rfl,rfl,rfl}
 AX {w _ _ _ _ _} H e h k q:=dm h λf j l m=>aC (bf k) λk e=>bC (aD (aD k).1).1 λg o=>bC (aD (aD k).1).2 λh p=>bC (aD k).2 λs u=>e▸oE (ij ((a.B1 _).6^(aD f).1) (aD f).2 (b.B1 _).1 (c.B1 _).1 ((a.AX H _ j o q).em λd q=>⟨_,_,_,rfl,(b.AX H _ l p q).em λx q=>⟨_,{K.ok _ _ _,dA _ x d},(c.AX H _ m u q).em λy q=>by
  rw[(es d x).1];cases i:GL K d x with
  |none=>rw[i] at q;calc t.Dx w.AA s.2 y⊂.mk q|some v=>rw[i] at q;calc(show DP w t (.aM,.F) _ (t.AH w.AA g.2.B2 v).D5 .aM from t.Dx w.AA g.2.B2 v⊂.mk (r:=(.aM,.F)) q)⟩⟩))
end
def JS(e:A2):Prop:=∃x p,e=.Name x p
def JT(e:A2):Prop:=∃AE n p,e=.Tuple AE n p
def HA(C:Ea)(i:Nat)(x:Str):Bool:=C.Aq[i]?==U (U x)&&(C.BN.names.lookup x==U .local||C.BN.names.lookup x==U .cell)
def ck(h:HA C i x=Y):Lw C i x:={eq_of_beq (aD h).1,(cW (aD h).2).imp eq_of_beq eq_of_beq}
structure ME(V:-Az)(t:Az) where
 An:A2->A2
 KV:A2->↑Str
 Cf:Bool
 AI:Ea->A2->Bool
 idx:↑Nat
 C7:Br->Br
 BG:t.AR->Ao V->Ao V
 E2:∀e,if Cf=Y then JS (An e) else JT (An e)
 AX:∀{Ak:EA} {st:Br} {Af:Ao V} {z:A5} {x},Cc Ak V st Af z.Am->∀e,AI z.V.C e=Y->∃a,WR z (An e) (t.AH Ak .F x) a idx/\Cc Ak V (C7 st) (BG x Af) a
inductive Y0(w:Bk)(t:Az)(Q:-t.AR->Prop):-T->Prop
 |mk {xs:-t.AR} (q:Q xs):Y0 w t Q (xs.map λx=>t.AH w.AA .F x)
structure Gm(V:-Az)(t:Az) where
 An:A2->A2
 Nc:Bool
 MF:Bool
 AI:Ea->A2->Bool
 AB:Bool->Br->Bool
 wp:Bk->Ao V->(-t.AR->Prop)->Prop
 BG:∀e,RD (An e)=Ab
 AX:∀{w:Bk} {st:Br} {Af:Ao V} {z:A5} {Q},In w V st Af z->∀Bf target e,AI z.V.C e=Y->(Nc=Y->JS target)->(MF=Y->JT target)->AB Bf st=Y->wp w Af Q->MB z Bf target (An e) (Y0 w t Q)
section
variable{t:Az}
def BF(i:Nat)(h:autoParam (i<J V) mAd):ME V (gt V i) where
 An e:=.Name (CN e) e.pos
 KV e:=[CN e]
 Cf:=Y
 AI C e:=HA C i (CN e)
 idx:=[i]
 C7 st:=st.C7 i (U .F)
 BG x Af:=Ao.BG V i x Af
 E2 e:=⟨_,_,rfl⟩
 AX R e c:=⟨_,lI<|ck c,R.BG h λl e=>by delta e;rfl⟩
def Ih(i j:Nat)(Cj:autoParam (i<J V) mAd)(b:autoParam (j<J V) mAd):ME V (A0 (gt V i)<|gt V j) where
 An e:=.Tuple [.Name (CN<|Ap e 0) (Ap e 0).pos,.Name (CN<|Ap e 1) (Ap e 1).pos] (GG e) e.pos
 KV e:=[CN<|Ap e 0,CN<|Ap e 1]
 Cf:=Ab
 AI C e:=HA C i (CN<|Ap e 0)&&HA C j (CN<|Ap e 1)&&decide (i≠j)
 idx:=[i,j]
 C7 st:=(st.C7 i<|U .F).C7 j (U .F)
 BG x Af:=Ao.BG V j x.2 (Ao.BG V i x.1 Af)
 E2 e:=⟨_,_,_,rfl⟩
 AX R e h:=a3 h λa c=>{_,lM [(i,CN<|Ap e 0),(j,CN<|Ap e 1)] (.cons<|.cons .nil) (cw {λz=>aL c<|aF z,cw {CR,.nil}}) (b9 {ck (aD a).1,b9 {ck (aD a).2,λZ h=>ar h CR}}) rfl,(R.BG Cj λl e=>by delta e;rfl).BG b λl e=>by delta e;rfl}
def oF{g:ME V t}{n:Bool}(h:(!n||g.Cf)=Y)(e:A2)(q:n=Y):JS (g.An e):=(ao (show g.Cf=Y by rw[q] at h;calc h)).mp<|g.E2 e
def oG{g:ME V t}{n:Bool}(h:(!n||!g.Cf)=Y)(e:A2)(q:n=Y):JT (g.An e):=(ai (λc=>by rw[q,c] at h;delta h)).mp<|g.E2 e
def c9{G:Prop}(h:o.elim Ab f=Y)(k:∀r,o=U r->f r=Y->G):G:=by
 cases o with
 |none=>delta h|some r=>calc k r rfl h
def TL(Bf:Bool)(t:Az)(AJ:By)(o:Bool)(l:Bv):Bool:=match AJ with
 |.AU=>Y|.DC=>!(Bf&&o)&&(t.aW||decide (l=.F))|.aM=>Ab
def e1(h:TL Bf t AJ o l=Y)(xs:-t.AR):(AJ=.AU\/AJ=.DC/\(Bf&&o)=Ab)/\(AJ=.AU\/GZ (xs.map λx=>t.AH Ak l x)=Y):=by
 cases AJ with
 |AU=>calc {.inl rfl,.inl rfl}|aM=>delta h|DC=>calc aC (aD h) λa b=>{.inr {rfl,EJ _∣a},.inr<|(cW b).elim (λc=>fI c .F l∣er xs) λc=>aL c⊂er xs}
def CP(a:Bx V ⇑t):Gm V t where
 An:=a.An
 Nc:=Ab
 MF:=Ab
 AI:=a.AI
 AB Bf st:=(a.AB st).elim Ab λr=>TL Bf t r.1 r.2.b r.2.B2
 wp w Af Q:=a.wp w Af λa=>AP (J a)/\Q a
 BG e:=(a.B1 e).3
 AX {w _ _ _ _} H Bf target e h _ _ c q:=c9 c λr d f=>h2<|(a.AX H e h d q).em λa q=>aC (e1 (Ak:=w.AA) f a) λc d=>{_,.Kr (b:=Ab) c d,dz a⊂.mk q.2}
def Fj(a:Bx V (Ar t)):Gm V t where
 An:=a.An
 Nc:=Ab
 MF:=Ab
 AI:=a.AI
 AB Bf st:=(a.AB st).elim Ab λr=>TL Bf t r.1 Ab r.2
 wp w Af Q:=a.wp w Af λa=>AP (J a)/\Q a
 BG e:=(a.B1 e).3
 AX {w _ _ _ _} H Bf target e h _ _ c q:=c9 c λr d f=>h2<|(a.AX H e h d q).em λa q=>aC (e1 (Ak:=w.AA) f a) λc d=>{_,.Kr (b:=Y) c d,dz a⊂.mk q.2}
def Abl(Bf o:Bool):By->Bool
 |.AU=>Y|.DC=>!(Bf&&o)|.aM=>Ab
def zt(h:Abl Bf o AJ=Y):AJ=.AU\/AJ=.DC/\(Bf&&o)=Ab:=by
 cases AJ with
 |AU=>calc .inl rfl|aM=>delta h|DC=>calc .inr {rfl,EJ _∣h}
def MG{K:EC}(a:Bx V (AQ K t)):Gm V K.CC where
 An:=a.An
 Nc:=Ab
 MF:=Ab
 AI:=a.AI
 AB Bf st:=(a.AB st).elim Ab λr=>Abl Bf r.2.b r.1
 wp w Af Q:=a.wp w Af λd=>AP (J d)/\Q (d.map (·.1))
 BG e:=(a.B1 e).3
 AX {w _ _ _ _} H Bf target e h _ _ c q:=c9 c λr f g=>h2 ((a.AX H e h f q).em λd q=>⟨_,.Dh<|zt g,by
  have e:((d.map λe=>K.aI w.AA e.1).map BE.Hu)=(d.map (·.1)).map λx=>K.CC.AH w.AA .F x:=by rw[Fy,Fy];exact FI λx Z=>K.cj w.AA x.1
  calc e⊂.mk q.2⟩)
def Nd(a:Bx V O):Gm V O where
 An e:=.Call (.Name "range" (Ap e 0).pos) [a.An<|Ap e 1] [] e.pos
 Nc:=Y
 MF:=Ab
 AI C e:=C.BN.names.lookup ("range":Str)==U .globalImplicit&&a.AI C (Ap e 1)
 AB _ st:=(a.AB st).isSome
 wp w Af Q:=a.wp w Af λn=>AP n/\Q (Cn 0 n)
 BG _:=rfl
 AX H Bf target e h Ag _ c q:=a3 h λb d=>bC c λr f=>vB H.1.ok (Ag rfl) (eq_of_beq b) (a.B1 _).1<|(a.AX H _ d f q).em λn q=>{n,rfl,q.1,.mk q.2}
def JW(a b:Bx V O):Gm V O where
 An e:=.Call (.Name "range" (Ap e 0).pos) [a.An<|Ap e 1,b.An<|Ap e 2] [] e.pos
 Nc:=Y
 MF:=Ab
 AI C e:=C.BN.names.lookup ("range":Str)==U .globalImplicit&&a.AI C (Ap e 1)&&b.AI C (Ap e 2)
 AB _ st:=(a.AB st).isSome&&(b.AB st).isSome
 wp w Af Q:=a.wp w Af λm=>b.wp w Af λn=>(AP m/\AP n)/\Q (Cn m<|n-m)
 BG _:=rfl
 AX H Bf target e h Ag _ c q:=a3 h λd f=>bC (aD c).1 λr g=>bC (aD c).2 λs i=>vC H.1.ok (Ag rfl) (eq_of_beq (aD d).1) (a.B1 _).1 (b.B1 _).1<|(a.AX H _ (aD d).2 g q).em λm q=>{m,rfl,(b.AX H _ f i q).em λn q=>{n,rfl,q.1,.mk q.2}}
def Abm(a:Bx V (Ar t)):Gm V t where
 An e:=.Call (.Name "reversed" (Ap e 0).pos) [a.An<|Ap e 1] [] e.pos
 Nc:=Y
 MF:=Ab
 AI C e:=C.BN.names.lookup ("reversed":Str)==U .globalImplicit&&a.AI C (Ap e 1)
 AB Bf st:=(a.AB st).elim Ab λr=>TL Bf t r.1 Ab r.2
 wp w Af Q:=a.wp w Af λa=>AP (J a)/\Q a.reverse
 BG _:=rfl
 AX {w _ _ _ _} H Bf target e h Ag _ c q:=a3 h λb d=>c9 c λr f g=>vT H.1.ok (Ag rfl) (eq_of_beq b) (a.B1 _).1<|(a.AX H _ d f q).em λa q=>aC (e1 g a) λa b=>{_,rfl,q.1.bw,a.imp_right λk=>{k.1,b.elim (λe=>nomatch k.1.symm.trans e) id},by rw[dz,<-Ai5];calc .mk q.2}
def oH:∀(xs:-t.AR) (i:Nat),Th i (xs.map λx=>t.AH Ak .F x)=(xs.zipIdx i).map λx=>(A0 O t).AH Ak .F (x.2,x.1)
 |[]=>λZ=>rfl|x::xs=>λi=>ah (_::·)<|oH xs<|i+1
abbrev MH(xs:-α):-(Nat×α):=xs.zipIdx.map λx=>(x.2,x.1)
def oI(q:Q (MH xs)):Y0 w (A0 O t) Q (Th 0<|Fp<|xs.map λx=>t.AH w.AA l x):=by rw[dz,oH];calc Fy∣Y0.mk q
def Xe(a:Bx V ⇑t):Gm V (A0 O t) where
 An e:=.Call (.Name "enumerate" (Ap e 0).pos) [a.An<|Ap e 1] [] e.pos
 Nc:=Ab
 MF:=Y
 AI C e:=C.BN.names.lookup ("enumerate":Str)==U .globalImplicit&&a.AI C (Ap e 1)
 AB Bf st:=(a.AB st).elim Ab λr=>TL Bf t r.1 r.2.b r.2.B2
 wp w Af Q:=a.wp w Af λa=>AP (J a)/\Q (MH a)
 BG _:=rfl
 AX {w _ _ _ _} H Bf target e h _ Ag c q:=a3 h λd f=>c9 c λr g i=>l6 H.1.ok (Ag rfl) (eq_of_beq d) (a.B1 _).1<|(a.AX H _ f g q).em λa q=>{Ab,_,_,rfl,e1 i a,oI q.2}
def Aeh(a:Bx V (Ar t)):Gm V (A0 O t) where
 An e:=.Call (.Name "enumerate" (Ap e 0).pos) [a.An<|Ap e 1] [] e.pos
 Nc:=Ab
 MF:=Y
 AI C e:=C.BN.names.lookup ("enumerate":Str)==U .globalImplicit&&a.AI C (Ap e 1)
 AB Bf st:=(a.AB st).elim Ab λr=>TL Bf t r.1 Ab r.2
 wp w Af Q:=a.wp w Af λa=>AP (J a)/\Q (MH a)
 BG _:=rfl
 AX {w _ _ _ _} H Bf target e h _ Ag c q:=a3 h λb d=>c9 c λr f g=>l6 H.1.ok (Ag rfl) (eq_of_beq b) (a.B1 _).1<|(a.AX H _ d f q).em λa q=>{Y,_,_,rfl,e1 g a,oI q.2}
def HB:Nat->Br->Br
 |0,_=>[]
 |n+1,st=>st.EP::HB n st.tail
def Ao.DL:(V:-Az)->{BB:-Az}->Ao V->Ao BB->Ao (V++BB)
 |[],_,_,a=>a|_::V,_,Af,a=>(Af.1,Ao.DL V Af.2 a)
def Cc.cP:∀(BB:-Az) {a:Ao BB},Cc Ak BB [] a<|CV BB.length Wl
 |[],_=>rfl|_::BB,_=>{_,_,rfl,nofun,Cc.cP BB}
theorem Cc.DL:∀{V:-Az} {st:Br} {Af:Ao V} {Am:B5},Cc Ak V st Af Am->Cc Ak (V++BB) (HB (J V) st) (Ao.DL V Af b) (Am++CV BB.length Wl)
 |[],_,_,_=>λh=>h⊂Cc.cP BB|_::V,_,_,_=>λh=>a8 h λx r e b a=>e⊂{x,_,rfl,b,a.DL}
def JX(C:Ea)(S:Dz)(Eh:-Str):Bool:=S.kind==.function&&(C.BN.kind==.function)&&(S.names.all λy=>y.2 !=.cell&&(y.2 !=.local||S.names.lookup y.1==U .local)&&(y.2 !=.free||C.BN.names.lookup y.1==U .cell))&&(Eh.all λx=>S.names.lookup x==U .local)&&decide Eh.Nodup&&decide (S.names.map (·.1)).Nodup
def iN(h:JX C S Eh=Y):M6 C S Eh:=by clear C S Eh _ h;have Ag:=aD h;have a:=aD Ag.1;have b:=aD a.1;have d:=aD b.1;have f:=aD d.1;calc {eq_of_beq f.1,eq_of_beq f.2,λy i=>?_,λx j=>eq_of_beq<|Rl.mp b.2 x j,aL a.2,aL Ag.2};have q:=aD<|Rl.mp d.2 y i;have g:=aD q.1;calc {bne_iff_ne.mp g.1,λe=>eq_of_beq<|(cW g.2).resolve_left λc=>bne_iff_ne.mp c e,λe=>eq_of_beq<|(cW q.2).resolve_left λc=>bne_iff_ne.mp c e}
end
structure KJ(V:-Az) where
 An:-A2->↑A2
 AI:Ea->↑A2->Bool
 AB:Br->Bool
 wp:Bk->Ao V->(Bool->Prop)->Prop
 AX:∀{w:Bk} {st:Br} {Af:Ao V} {z:A5} {Q},In w V st Af z->∀l,AI z.V.C l=Y->AB st=Y->wp w Af Q->RM z (An l) Q
inductive IM(z:A5)(Q:T->By->Prop):A2->Prop
 |mk {elt target iter:A2} {ifs:-A2} {rest:-Vp} {S:Dz} {Eh:-Str} {p:Pos} (ok:M6 z.V.C S Eh) (Cj:RD iter=Ab) (h:KA z elt (⟨target,iter,ifs,0⟩::rest) S p iter Q):IM z Q (.ListComp elt (⟨target,iter,ifs,0⟩::rest) S p)
def IM.d7(h:IM z Q e):BM z e Q:=h.rec λb a h=>mF b a h
def IM.aq(h:IM z Q e)(q:∀t AJ,Q t AJ->DH t AJ):IM z DH e:=h.rec λc a h=>.mk c a λs R b a=>h s R b λD L b c g t d p=>a D L b c g t d<|q t d p
structure KO(V:-Az)(u:Az) where
 x:Bx V (tL u)
 oL:∀{w:Bk} {st:Br} {Af:Ao V} {z:A5} {r Q},In w V st Af z->∀e,x.AI z.V.C e=Y->x.AB st=U r->x.wp w Af Q->IM z (DP w (tL u) r Q) (x.An e)
section
variable{V:-Az}{t u:Az}
def D7:KJ V where
 An _:=[]
 AI _ _:=Y
 AB _:=Y
 wp _ _ Q:=Q Y
 AX _ _ _ _ q:=.inl {rfl,q}
def G0(c:GH V):KJ V where
 An l:=[c.An<|L5 l]
 AI C l:=c.AI C (L5 l)
 AB:=c.AB
 wp:=c.wp
 AX H l h k q:=.inr {_,rfl,(c.AX H _ h k q).2}
def Nf(S:α->β->Prop):-α->↑β->Prop
 |[],Al=>Al=[]|x::xs,Al=>∃y zs,Al=y::zs/\S x y/\Nf S xs zs
def iP:∀{xs:-α} {Al:-β},Nf (λx y=>y=f x) xs Al->Al=xs.map f
 |[],_,h=>h|_::_,_,⟨_,_,e,h,q⟩=>by rw[e,h,iP q];rfl
def iQ{S:β->Prop}:∀{xs:-α} {Al:-β},Nf (λZ y=>S y) xs Al->J Al=J xs/\∀y∈Al,S y
 |[],_,h=>by rw[show _=[] from h];calc {rfl,λZ h=>ar h CR}|_::_,_,⟨_,_,e,h,q⟩=>by rw[e];calc {ah (·+1) (iQ q).1,b9 {h,(iQ q).2}}
def TM(BB:-Az)(g:ME (V++BB) t)(s:Gm V t)(c:KJ (V++BB))(b:Bx (V++BB) u)(C:Ea)(e:A2):Bool:=let a:=PB C (L4 e)<|g.KV<|Ap e 1;decide (J C.Aq=J V/\(g.KV<|Ap e 1).length=BB.length)&&(JX C (L4 e) (g.KV<|Ap e 1)&&((g.idx.all λj=>decide (J V<=j)&&decide (j<J V+BB.length))&&(s.AI C (Ap e 2)&&(g.AI a (Ap e 1)&&((!s.Nc||g.Cf)&&((!s.MF||!g.Cf)&&(c.AI a ((Dg e).drop 3)&&b.AI a (Ap e 0))))))))
def Aei(S:t.AR->u.AR->Prop)(p:t.AR->Bool)(xs:-t.AR)(em:u.AR->T)(j:Nat)(ay:-T)(Al:List u.AR):Prop:=Dy
 (ay=Al.map em)
 (J Al<=j)
 (∀zs,Nf S ((xs.drop j).filter p) zs->Nf S (xs.filter p) (Al++zs))
def oM{w:Bk}{st:Br}(H:In w V st Af z)(e:A2)(h:TM BB g s c d z.V.C e=Y)(DT:s.AB Ab st=Y)(DW:c.AB (g.C7<|HB (J V) st)=Y)(CH:d.AB (g.C7<|HB (J V) st)=U i)(A8:∀y,LV b (u.AH w.AA i.2 y) i.1<|em y)
  (q:s.wp w Af r)(BA:∀xs,r xs->AP (J xs)/\∃(p:t.AR->Bool) (S:t.AR->u.AR->Prop),(∀x∈xs,c.wp w (g.BG x<|Ao.DL V Af<|Ao.C2 BB) (λb=>b=p x)/\(p x=Y->d.wp w (g.BG x<|Ao.DL V Af<|Ao.C2 BB) (S x)))/\∀Al,Nf S (xs.filter p) Al->Q (.Bo (!b)<|Al.map em) (Fe b)):
  IM z Q (.ListComp (d.An<|Ap e 0) [{g.An<|Ap e 1,s.An<|Ap e 2,c.An<|(Dg e).drop 3,0}] (L4 e) e.pos):=by
 clear V t u BB w st _ z i b Q e _ Af em r _ g s c d H h DT DW CH A8 q BA;exact ot h λG A L M N W X KN Ag=>aC (aL G) λAW A3=>by
  calc .mk (iN A) (s.BG _)<|wq (b:=b) (iN A) (H.2.bj^AW.symm) (λj a=>aC (aD<|Rl.mp L j a) λa b=>by rw[AW,A3];calc {aL a,aL b}) λs0 R=>?_;calc CW (s.AX H Ab _ _ M (oF W<|Ap e 1) (oG X<|Ap e 1) DT q s0 R) (λJl s1 zu=>CW zu (λit s2 P=>P.rec λBW q K zv at_=>{BW,?_,K,zv,at_}) bu) bu;refine q.rec λ{xs} q=>have q:=BA xs q;bP q.2 λp S RY zw=>{λj a=>∃Al,Aei S p xs em j a Al,{[],rfl,C9 _,λa h=>h},λB a j T ay MC l=>?_,λay l=>ak l λAl I=>?_}
  ·calc bT (Gw.symm.trans MC) λx m DU=>ak l λAl I=>?_;have o:In w (V++BB) (HB (J V) st) (Ao.DL V Af<|Ao.C2 BB) B:={{a.1^H.1.1,a.3^H.1.2,H.1.3},a.4▸rwr A3 H.2.DL}
   have D:=RY x<|GK m;have lt:=(bK m)
   have K0:=WB lt^ah (·::_) (BQ<|(Dv lt).symm.trans m);refine DU▸ae (g.AX o.2 (Ap e 1)<|a.2⊂N) λE BF WQ=>{E,BF,λJK=>?_}
   have F:In w (V++BB) (g.C7<|HB (J V) st) (g.BG x<|Ao.DL V Af<|Ao.C2 BB) (B.ax E JK):={{o.1.1,o.1.2,H.1.3},WQ}
   calc(c.AX F _ (a.2⊂KN) DW D.1).aq λok eq=>?_;rw[eq];have al:=I.3;rw[K0] at al;by_cases f:p x=Y
   ·rw[ao f];rw[Rn f] at al;exact {I.1⊂AP.bw (I.2\(BY lt\q.1)),(d.AX F _ (a.2⊂Ag) CH<|D.2 f).em λy a=>{em y,A8 y,Al++[y],by rw[Ee,I.1];rfl,by rw[BD];exact GX I.2,λb c=>by rw[Dr];calc al (y::b) {y,b,rfl,a,c}}}
   ·rw[ai f];rw[SY f] at al;exact {Al,I.1,Ml I.2,al}
  ·have al:=I.3 [];rw[Bq,tg,Ct] at al;calc I.1⊂zw Al (al rfl)
def oN{st:Br}(H:In w V st Af z)(e:A2)(h:TM BB g s c a z.V.C e=Y)(k:(if s.AB Ab st=Y/\c.AB (g.C7<|HB (J V) st)=Y then(a.AB<|g.C7<|HB (J V) st).bind λr=>(tk u r.1 r.2).map λl=>((.AU,up l):By×Bv) else Ai)=U r)(q:s.wp w Af f)(BA:∀xs,f xs->AP (J xs)/\∃(p:t.AR->Bool) (S:t.AR->u.AR->Prop),(∀x∈xs,c.wp w (g.BG x<|Ao.DL V Af<|Ao.C2 BB) (λb=>b=p x)/\(p x=Y->a.wp w (g.BG x<|Ao.DL V Af<|Ao.C2 BB) (S x)))/\∀Al,Nf S (xs.filter p) Al->Q Al):
  IM z (DP w (tL u) r Q) (.ListComp (a.An<|Ap e 0) [{g.An<|Ap e 1,s.An<|Ap e 2,c.An<|(Dg e).drop 3,0}] (L4 e) e.pos):=
 aC (c8 k) λa k=>aV k λo b k=>bT k λl d c=>c▸oM H e h a.1 a.2 b (λy=>dB d) q λa q=>aC (BA a q) λi q=>bP q λp S j m=>{i,p,S,j,λa b=>fM (dW d) a⊂.mk (m a b)}
def CQ(BB:-Az)(g:ME (V++BB) t)(s:Gm V t)(c:KJ (V++BB))(a:Bx (V++BB) u):KO V u:=
 have key:∀{w:Bk} {st:Br} {Af:Ao V} {z:A5} {r Q},In w V st Af z->∀e,TM BB g s c a z.V.C e=Y->(if s.AB Ab st=Y/\c.AB (g.C7<|HB (J V) st)=Y then(a.AB<|g.C7<|HB (J V) st).bind λr=>(tk u r.1 r.2).map λl=>((.AU,up l):By×Bv) else Ai)=U r->(s.wp w Af λd=>AP (J d)/\∃(p:t.AR->Bool) (f:t.AR->u.AR),(∀x∈d,c.wp w (g.BG x<|Ao.DL V Af<|Ao.C2 BB) (λb=>b=p x)/\(p x=Y->a.wp w (g.BG x<|Ao.DL V Af<|Ao.C2 BB) λy=>y=f x))/\Q ((d.filter p).map f))->IM z (DP w (tL u) r Q) (.ListComp (a.An<|Ap e 0) [{g.An<|Ap e 1,s.An<|Ap e 2,c.An<|(Dg e).drop 3,0}] (L4 e) e.pos):=λH e h k q=>oN H e h k q λa q=>{q.1,bP q.2 λp f d i=>{p,λx y=>y=f x,d,λa b=>iP b⊂i}}
 ⟨⟨λe=>.ListComp (a.An<|Ap e 0) [{g.An<|Ap e 1,s.An<|Ap e 2,c.An<|(Dg e).drop 3,0}] (L4 e) e.pos,Y,Y,Ab,TM BB g s c a,λb=>if s.AB Ab b=Y/\c.AB (g.C7<|HB (J V) b)=Y then(a.AB<|g.C7<|HB (J V) b).bind λr=>(tk u r.1 r.2).map λl=>(.AU,up l) else Ai,
  λw d Q=>s.wp w d λe=>AP (J e)/\∃(p:t.AR->Bool) (f:t.AR->u.AR),(∀x∈e,c.wp w (g.BG x<|Ao.DL V d<|Ao.C2 BB) (λb=>b=p x)/\(p x=Y->a.wp w (g.BG x<|Ao.DL V d<|Ao.C2 BB) λy=>y=f x))/\Q ((e.filter p).map f),
  λZ=>{rfl,rfl,rfl,rfl,rfl,rfl},λH e h k q=>(key H e h k q).d7⟩,key⟩
def Y1(BB:-Az)(g:ME (V++BB) t)(s:Gm V t)(a:Bx (V++BB) u):KO V u:=
 have key:∀{w:Bk} {st:Br} {Af:Ao V} {z:A5} {r Q},In w V st Af z->∀e,TM BB g s D7 a z.V.C e=Y->(if s.AB Ab st=Y/\D7.AB (g.C7<|HB (J V) st)=Y then(a.AB<|g.C7<|HB (J V) st).bind λr=>(tk u r.1 r.2).map λl=>((.AU,up l):By×Bv) else Ai)=U r->(s.wp w Af λb=>AP (J b)/\∃S:t.AR->u.AR->Prop,(∀x∈b,a.wp w (g.BG x<|Ao.DL V Af<|Ao.C2 BB)<|S x)/\∀Al,Nf S b Al->Q Al)->IM z (DP w (tL u) r Q) (.ListComp (a.An<|Ap e 0) [{g.An<|Ap e 1,s.An<|Ap e 2,D7.An<|(Dg e).drop 3,0}] (L4 e) e.pos):=λH e h k q=>oN H e h k q λa q=>{q.1,ae q.2 λS b c=>{λZ=>Y,S,λx d=>{rfl,λZ=>b x d},λa b=>c a ((ah (Nf S · a)<|Z8|>.mpr λZ Z=>rfl).mp b)}}
 ⟨⟨λe=>.ListComp (a.An<|Ap e 0) [{g.An<|Ap e 1,s.An<|Ap e 2,D7.An<|(Dg e).drop 3,0}] (L4 e) e.pos,Y,Y,Ab,TM BB g s D7 a,λb=>if s.AB Ab b=Y/\D7.AB (g.C7<|HB (J V) b)=Y then(a.AB<|g.C7<|HB (J V) b).bind λr=>(tk u r.1 r.2).map λl=>(.AU,up l) else Ai,
  λw b Q=>s.wp w b λc=>AP (J c)/\∃S:t.AR->u.AR->Prop,(∀x∈c,a.wp w (g.BG x<|Ao.DL V b<|Ao.C2 BB)<|S x)/\∀Al,Nf S c Al->Q Al,
  λZ=>{rfl,rfl,rfl,rfl,rfl,rfl},λH e h k q=>(key H e h k q).d7⟩,key⟩
def Aej(BB:-Az)(g:ME (V++BB) t)(s:Gm V t)(c:KJ (V++BB))(a:Bx (V++BB) u):Bx V (tL u) where
 An e:=.ListComp (a.An<|Ap e 0) [{g.An<|Ap e 1,s.An<|Ap e 2,c.An<|(Dg e).drop 3,0}] (L4 e) e.pos
 pl:=Y
 cm:=Y
 nb:=Ab
 AI:=TM BB g s c a
 AB st:=if s.AB Ab st=Y/\c.AB (g.C7<|HB (J V) st)=Y/\(a.AB<|g.C7<|HB (J V) st).isSome=Y then U (.aM,.F) else Ai
 wp w Af Q:=s.wp w Af λd=>AP (J d)/\∃(p:t.AR->Bool) (f:t.AR->u.AR),(∀x∈d,c.wp w (g.BG x<|Ao.DL V Af<|Ao.C2 BB) (λb=>b=p x)/\(p x=Y->a.wp w (g.BG x<|Ao.DL V Af<|Ao.C2 BB) λy=>y=f x))/\Q ((d.filter p).map f)
 B1 _:={rfl,rfl,rfl,rfl,rfl,rfl}
 AX {w _ _ _ _ _} H e h k q:=aC (bf k) λk a=>bC k.2.2 λd c=>a∣(oM (b:=Y) (em:=λy=>u.AH w.AA .F y) H e h k.1 k.2.1 c (λy=>u.Dx w.AA d.2 y▸.Gz) q λa q=>{q.1,bP q.2 λp f i j=>{p,λx y=>y=f x,i,λa b=>iP b▸.mk j}}).d7
end
structure FK(V:-Az)(Bd:Az) where
 av:Ao V->Prop
 LA:Ao V->Prop
 Ft:Ao V->Prop
 bW:Bd.AR->Prop
instance {V:-Az}{Bd:Az}:Nonempty (FK V Bd):={λZ=>True,λZ=>True,λZ=>True,λZ=>True}
def Cp(Q:Bd.AR->Prop):FK V Bd:={λZ=>False,λZ=>False,λZ=>False,Q}
inductive LB{V:-Az}{Bd:Az}(BO:Bv)(Ak:EA)(L:Br)(o:↥Br)(P:FK V Bd):Fz->B5->Prop
 |av {st:Br} {Af:Ao V} {Am:B5} (e:o=U st) (R:Cc Ak V st Af Am) (q:P.av Af):LB BO Ak L o P .aX Am
 |LA {Af:Ao V} {Am:B5} (R:Cc Ak V L Af Am) (q:P.LA Af):LB BO Ak L o P .Tc Am
 |Ft {Af:Ao V} {Am:B5} (R:Cc Ak V L Af Am) (q:P.Ft Af):LB BO Ak L o P .RB Am
 |bW {y:Bd.AR} {Am:B5} (q:P.bW y):LB BO Ak L o P (.BS<|Bd.AH Ak BO y) Am
structure BC(V:-Az)(Bd:Az)(BO:Bv) where
 An:C8->C8
 AI:Ea->C8->Bool
 AB:Br->Br->↥↥Br
 wp:Bk->Ao V->FK V Bd->Prop
 AX:∀{w:Bk} {L st:Br} {Af:Ao V} {z:A5} {o P},In w V st Af z->∀s,AI z.V.C s=Y->AB L st=U o->wp w Af P->Dj z (Gx<|An s) (LB BO w.AA L o P)
structure Au(V:-Az)(Bd:Az)(BO:Bv) where
 An:-C8->↑C8
 AI:Ea->↑C8->Bool
 AB:Br->Br->↥↥Br
 wp:Bk->Ao V->FK V Bd->Prop
 AX:∀{w:Bk} {L st:Br} {Af:Ao V} {z:A5} {o P},In w V st Af z->∀s,AI z.V.C s=Y->AB L st=U o->wp w Af P->Dj z (DJ<|An s) (LB BO w.AA L o P)
def FE(l:-A2)(b:-C8)(p:Pos):-A2×↑C8×↑C8×Pos:=(l,b,[],p)
def Y2(s:C8):-A2×↑C8×↑C8×Pos:=s.casesOn (λZ Z Z Z Z Z Z Z Z Z=>FE [] [] default) (λZ Z Z Z Z Z Z Z Z Z=>FE [] [] default) (λZ Z Z Z Z Z Z Z Z Z Z=>FE [] [] default) (λa p=>FE a.toList [] p) (λZ Z=>FE [] [] default) (λl a p=>FE (a::l) [] p) (λZ Z Z Z Z Z Z=>FE [] [] default) (λZ Z Z Z=>FE [] [] default) (λZ Z Z Z Z=>FE [] [] default) (λa b l Z p=>FE [a,b] l p) (λZ Z Z Z Z=>FE [] [] default) (λa l Z p=>FE [a] l p) (λa l m p=>([a],l,m,p)) (λZ Z Z=>FE [] [] default) (λZ Z Z=>FE [] [] default) (λZ Z Z=>FE [] [] default) (λa Z p=>FE a.toList [] p) (λZ Z Z Z Z=>FE [] [] default) (λZ Z Z Z Z=>FE [] [] default) (λZ Z Z=>FE [] [] default) (λZ Z=>FE [] [] default) (λZ Z Z Z=>FE [] [] default) (λZ Z=>FE [] [] default) (λZ Z=>FE [] [] default) (λa p=>FE [a] [] p) (λZ=>FE [] [] default) (λp=>FE [] [] p) λp=>FE [] [] p
def Bh(s:C8)(i:Nat):A2:=(Y2 s).1.getD i<|.Name "" default
def LC(s:C8):-C8:=(Y2 s).2.1
def Abn(s:C8):-C8:=(Y2 s).2.2.1
def E5(s:C8):Pos:=(Y2 s).2.2.2
def IP(l:-C8):C8:=l.headD<|.Pass default
def Fd(t:Az)(st:Br)(r:By×Bv):↥(Br×Bv):=if t.aW=Y then U (st,.F) else match r with
 |(.AU,.F)=>U (st,.F)|(.AU,.A)=>U (st,.A)|(.DC,.F)=>U (st,.F)|(.aM,.A)=>U (st,.A)|(.DC,_)=>if t.strict=Y then U (QT st,.F) else Ai|(.aM,.F)=>if t.strict=Y\/QT st=st then U (QT st,.F) else Ai|_=>Ai
section
variable{t Bd:Az}{st:Br}{Af:Ao V}{run:PySem.Env->Sem Flow}
def In.ax(H:In w V st Af z)(R:Cc w.AA V a b Am):In w V a b (z.ax Am q):={{H.1.1,H.1.2,H.1.3},R}
def Dj.aq(H:Dj z run Q)(k:∀c Am,Q c Am->DH c Am):Dj z run DH:=λs R=>H.aG R λf a c b q h o=>{c,b,q,k c b h,o}
def fN{r:By×Bv}{q:Br×Bv}{Am:B5}(h:Fd t st r=U q)(R:Cc Ak V st Af Am):∃b,HR b (t.AH Ak r.2 x) r.1 (t.AH Ak q.2 x)/\Cc Ak V q.1 Af (I6 b Am):=by
 clear V t st Ak r q Am _ Af x _ h R;unfold Fd at h;have Gz:∀l AJ,∃b,HR b (t.AH Ak l x) AJ (t.AH Ak .F x)/\Cc Ak V (QT st) Af (I6 b Am):=λl a=>{Y,t.Dx Ak l x∣.Gz,R.CT}
 by_cases c:t.aW=Y;·rw[ao c] at h;delta h;exact {Ab,dn c r.2 .F∣.bh (by induction r.1;calc rfl;calc(cQ c).1;calc(cQ c).2) (.inl (cQ c).1),R}
 ·rw[ai c] at h;obtain⟨AJ,l⟩:=r;induction AJ<;>induction l<;>simp only at h;·delta h;exact {Ab,.bh rfl (.inl<|t.no Ak x),R}
  ·delta h
  ·delta h;exact {Ab,.bh rfl (.inr<|t.a5 Ak x),R}
  ·delta h;exact {Ab,.bh (t.no Ak x)<|.inl<|t.no Ak x,R}
  ·exact(bf h).2∣Gz _ _
  ·exact(bf h).2∣Gz _ _
  ·exact(bf h).2∣Gz _ _
  ·delta h
  ·delta h;calc {Ab,.bh (t.a5 Ak x)<|.inr<|t.a5 Ak x,R}
noncomputable def af:Au V Bd BO where
 An _:=[]
 AI _ _:=Y
 AB _ st:=U (U st)
 wp _ Af P:=P.av Af
 AX H _ _ c q:=lE<|.av (BQ c).symm H.2 q
def IQ(b:Au V Bd BO)(w:Bk)(P:FK V Bd):FK V Bd:={P with av:=λa=>b.wp w a P}
noncomputable def sq(s:BC V Bd BO)(b:Au V Bd BO):Au V Bd BO where
 An l:=s.An (IP l)::b.An l.tail
 AI C l:=s.AI C (IP l)&&b.AI C l.tail
 AB L st:=(s.AB L st).bind λo=>o.elim (U Ai) (b.AB L)
 wp w Af P:=s.wp w Af (IQ b w P)
 AX H l h c q:=a3 h λa d=>aV c λo f c=>h1 ((s.AX H _ a f q).aq λFt a r=>by
  cases r with
  |av e R q=>calcλw=>b.AX (H.ax R) _ d (rwl e c:(U _:↥Br).elim (U Ai) (b.AB _)=_) q|LA R q=>calc .LA R q|Ft R q=>calc .Ft R q|bW q=>calc .bW q)
def Ao.iR:∀(V:-Az) (i:Nat) (Af:Ao V),Ao.BG V i (Ao.Cq V i Af) Af=Af
 |[],_=>λZ=>rfl|_::_,0=>λZ=>rfl|_::V,i+1=>λa=>ah (Prod.mk a.1)<|Ao.iR V i a.2
def Mu(GY:T->T)(a:WO GY)(Bf:Bv->Bv)(i:Nat)(Cj:i<J V)(d:∀Ak l x,GY ((gt V i).AH Ak l x)=(gt V i).AH Ak (Bf l) x)(b:Au V Bd BO):Au V Bd BO where
 An:=b.An
 AI:=b.AI
 AB L st:=(st.at i).bind λl=>b.AB L (st.C7 i<|U<|Bf l)
 wp:=b.wp
 AX {w _ _ Af _ _ _} H s h c q:=aV c λl f c=>w1 a (H.2.b6 Cj f) λg=>b.AX (H.ax (by
  have:=H.2.BG (v:=Ao.Cq V i Af) Cj (x:=U<|(gt V i).AH w.AA (Bf l)<|Ao.Cq V i Af) (o:=U<|Bf l) λa e=>by delta e;rfl
  rw[Ao.iR] at this;calc d _ _ _⊂this)) _ h c q
def Bi(i:Nat)(a:Bx V (gt V i))(Cj:autoParam (i<J V) mAd):BC V Bd BO where
 An s:=.Assign [.Name (CN<|Bh s 1) (Bh s 1).pos] (a.An<|Bh s 0) (E5 s)
 AI C s:=HA C i (CN<|Bh s 1)&&!a.cm&&a.AI C (Bh s 0)
 AB _ st:=(a.AB st).bind λr=>(Fd (gt V i) st r).map λq=>U (q.1.C7 i<|U q.2)
 wp w Af P:=a.wp w Af λx=>P.av (Ao.BG V i x Af)
 AX H s h c q:=a3 h λd f=>aV c λr g c=>bT c λp j e=>e∣lF (ck (aD d).1) ((a.B1 _).5^(EJ _▸(aD d).2)) ((a.AX H _ f g q).em λx q=>ae (fN j H.2) λb k R=>{b,_,k,.av rfl (R.BG Cj λl e=>by delta e;rfl) q})
def iS(h:t=t'):t.AH Ak l (h▸x)=t'.AH Ak l x:=by subst h;rfl
theorem IM.Bi(a:Lw z.V.C i x)(h:IM z (λt a=>∃b t',HR b t a t'/\Q .aX ((I6 b z.Am).set i<|U t')) e):Dj z (Gx<|.Assign [.Name x pos'] e pos) Q:=h.rec λb c h=>wj a b c h
def PQ(i:Nat)(a:KO V u)(Cj:autoParam (i<J V) mAd)(d:autoParam (gt V i=tL u) mAr):BC V Bd BO where
 An s:=.Assign [.Name (CN<|Bh s 1) (Bh s 1).pos] (a.x.An<|Bh s 0) (E5 s)
 AI C s:=HA C i (CN<|Bh s 1)&&a.x.AI C (Bh s 0)
 AB _ st:=(a.x.AB st).bind λr=>(Fd (tL u) st r).map λq=>U (q.1.C7 i<|U q.2)
 wp w Af P:=a.x.wp w Af λx=>P.av (Ao.BG V i (d▸x) Af)
 AX {w _ _ _ _ _ _} H s h c q:=a3 h λf g=>aV c λr j c=>bT c λp m e=>e▸IM.Bi (ck f) ((a.oL H _ g j q).aq λt a k=>k.rec λ{x} q=>ae (fN m H.2) λb k R=>{b,_,k,.av rfl (R.BG Cj λl e=>by delta e;rw[<-iS d]) q})
def Abo(t:Az)(AJ:By)(l:Bv):↥Bv:=match AJ with
 |.AU=>U l|.DC=>if t.aW=Y then U l else if l=.F then U .F else if t.strict=Y then U .F else Ai|.aM=>if l=.Dd then Ai else U l
def zx{AJ:By}{l Dl:Bv}(h:Abo t AJ l=U Dl):∃b,LV b (t.AH Ak l x) AJ (t.AH Ak Dl x):=by
 clear t Ak AJ l Dl _ x _ h;cases AJ with
 |AU=>delta h;calc {Ab,.bh rfl}|aM=>
  have h:=h;cases l with
  |Dd=>delta h|A=>delta h;calc {Ab,.bh<|t.a5 Ak x}|F=>delta h;calc {Y,Eq.subst (t.Dx Ak .F x) .Gz}
 |DC=>
  replace h:(if t.aW=Y then U l else if l=.F then U .F else if t.strict=Y then U .F else Ai)=U Dl:=h;by_cases c:t.aW=Y;·rw[ao c] at h;delta h;exact {Ab,.bh (cQ c).1}
  ·rw[ai c] at h;by_cases d:l=.F;·rw[ao d] at h;cases h;subst d;exact {Ab,.bh<|t.no Ak x}
   ·rw[ai d] at h;calc(bf h).2∣{Y,t.Dx Ak l x▸.Gz}
theorem LB.BS(e:Bd.Dm l=Bd.Dm BO)(q:P.bW x):LB BO Ak L o P (.BS<|Bd.AH Ak l x) Am:=(Bd.gX.symm^(ah (Bd.AH Ak · x) e).trans Bd.gX)⊂.bW q
def BS(a:Bx V Bd):BC V Bd BO where
 An s:=.Return (U<|a.An<|Bh s 0) (E5 s)
 AI C s:=a.AI C (Bh s 0)
 AB _ st:=(a.AB st).bind λr=>(Abo Bd r.1 r.2).bind λq=>if Bd.Dm q=Bd.Dm BO then U Ai else Ai
 wp w Af P:=a.wp w Af P.bW
 AX H s h c q:=aV c λr d c=>aV c λp e c=>vq<|(a.AX H _ h d q).em λx q=>ak (zx e) λb k=>{b,_,k,.BS (bf c).1 q}
def F7(i:Nat)(Cj:autoParam (i<J V) mAd)(a:autoParam (gt V i=Bd) mAr):BC V Bd BO where
 An s:=.Return (U<|.Name (CN<|Bh s 0) (Bh s 0).pos) (E5 s)
 AI C s:=MD C i (CN<|Bh s 0)
 AB _ st:=(st.at i).bind λl=>if Bd.Dm l=Bd.Dm BO then U Ai else Ai
 wp w Af P:=P.bW (a▸Ao.Cq V i Af)
 AX H s h c q:=aV c λl b c=>by subst a;calc cT (d8 h) λa d e=>vr a d e (H.2.b6 Cj b)<|.BS (bf c).1 q
def Aek:BC V Bd BO where
 An s:=.Break (E5 s)
 AI _ _:=Y
 AB L st:=if Hy L st=Y then U Ai else Ai
 wp _ Af P:=P.LA Af
 AX H _ _ c q:=vn<|.LA (H.2.le (bf c).1) q
def JZ:BC V Bd BO where
 An s:=.Continue (E5 s)
 AI _ _:=Y
 AB L st:=if Hy L st=Y then U Ai else Ai
 wp _ Af P:=P.Ft Af
 AX H _ _ c q:=vo<|.Ft (H.2.le (bf c).1) q
def K1:BC V Bd BO where
 An s:=s
 AI _ _:=Y
 AB _ _:=U Ai
 wp _ _ _:=False
 AX _ _ _ _ q:=q.elim
def Abp:↥Br->↥Br->↥↥Br
 |none,o=>U o|o,Ai=>U o|some a,U b=>let m:=(a.zip b).map λp=>if p.1=p.2 then p.1 else Ai;if Hy m a&&Hy m b then U (U m) else Ai
def oP(h:Abp a b=U o):(o=a\/∃st,o=U st/\∀x,a=U x->Hy st x=Y)/\(o=b\/∃st,o=U st/\∀x,b=U x->Hy st x=Y):=by
 clear a b o _ h;cases a with
 |none=>
  cases h;cases (b)with
  |none=>calc {.inl rfl,.inl rfl}|some b=>calc {.inr {b,rfl,λZ e=>dJ e},.inl rfl}
 |some a=>
  cases b with
  |none=>delta h;calc {.inl rfl,.inr {a,rfl,λZ e=>dJ e}}|some b=>
   calc aC (bf h) λc d=>?_;subst d;calc {.inr {_,rfl,λx e=>by delta e;calc(aD c).1},.inr {_,rfl,λx e=>by delta e;calc(aD c).2}}
def LB.oQ(r:LB BO Ak L a P c Am)(h:o=a\/∃st,o=U st/\∀x,a=U x->Hy st x=Y):LB BO Ak L o P c Am:=h.elim (λe=>e⊂r) λh=>ae h λa e h=>by
 cases r with
 |av AW R q=>calc .av e (R.le<|h _ AW) q|LA R q=>calc .LA R q|Ft R q=>calc .Ft R q|bW q=>calc .bW q
def B8(c:GH V)(a b:Au V Bd BO):BC V Bd BO where
 An s:=.If (c.An<|Bh s 0) (a.An<|LC s) (b.An<|Abn s) (E5 s)
 AI C s:=c.AI C (Bh s 0)&&(a.AI C (LC s)&&b.AI C (Abn s))
 AB L st:=if c.AB st=Y then(a.AB L st).bind λx=>(b.AB L st).bind λy=>Abp x y else Ai
 wp w Af P:=c.wp w Af λx=>if x=Y then a.wp w Af P else b.wp w Af P
 AX H s h k q:=cp h λd e f=>aC (c8 k) λg k=>aV k λx h k=>aV k λy i k=>vp ((c.AX H _ d g q).aq λz q=>by
  cases z with
  |true=>calc(a.AX H _ e h q).aq λZ Z r=>r.oQ (oP k).1|false=>calc(b.AX H _ f i q).aq λZ Z r=>r.oQ (oP k).2).2
end
section
variable{z:A5}
def G1(D:-Bool)(Af:Ao V)(AV:Ao V->Prop)(P:FK V Bd):FK V Bd:={λa=>AV<|Ao.PF V D a Af,λa=>P.av<|Ao.PF V D a Af,λa=>AV<|Ao.PF V D a Af,P.bW}
def MB.aq(H:MB z Bf target e Q)(q:∀BW,Q BW->DH BW):MB z Bf target e DH:=λs R=>CW (H s R) (λc e b=>CW b (λd b p=>p.rec λb h K S a=>{b,q b h,K,S,a}) bu) bu
def d6{st:Br}{P:FK V Bd}(a:o.all (Hy<|EY D st)=Y)(r:LB BO Ak (EY D st) o (G1 D Af AV P) c Am):Te (λa=>∃b,Cc Ak V (EY D st) b a/\AV b) (LB BO Ak L (U<|EY D st) P) c Am:=by
 clear V Bd BO Ak L st o D Am c _ Af AV P _ a r;cases r with
 |av e R q=>subst e;calc {_,(R.le a).PF,q}|Ft R q=>calc {_,R.PF,q}|LA R q=>calc .av rfl R.PF q|bW q=>calc .bW q
def Te.bY(h:Te AV Q c Am)(k:∀Am,AV Am->a Am):Te a Q c Am:=by
 cases c with
 |aX=>calc k _ h|RB=>calc k _ h|_=>calc h
def BT.oR(H:BT z e Q)(q:∀b,Q b->DH b):Mt z e DH:=(H.aq q).2
def oS{g:ME V t}{b:Au V Bd BO}{st:Br}{I:-t.AR->Ao V->Prop}(H:TC w z)(xs:-t.AR)(m:b.AB (EY D st) (g.C7<|EY D st)=U o)(p:o.all (Hy<|EY D st)=Y)(q:g.AI z.V.C e=Y)(s:b.AI z.V.C body=Y)(u:∀x l a,I (x::l) a->b.wp w (g.BG x a) (G1 D Af (I l) P))(A:∀a,I [] a->P.av a)(B:BW=xs.map λx=>t.AH w.AA .F x)(E:Cc w.AA V (EY D st) Af G)(M:I xs Af):
  ∃AV:Nat->B5->Prop,AV 0 G/\(∀j T Am,BW[j]?=U T->AV j Am->Ys z (g.An e) (b.An body) g.idx (AV<|j+1) (LB BO w.AA L (U<|EY D st) P) T Am)/\∀Am,AV (J BW) Am->LB BO w.AA L (U<|EY D st) P .aX Am:=by
 subst B;calc {λj b=>∃a,Cc w.AA V (EY D st) a b/\I (xs.drop j) a,{_,E,M},λj T Am N d X Bj Q=>bT (Gw.symm.trans N) λy f AW=>ae d λa R i=>?_,λb d=>ae d λa R i=>.av rfl R (A a (by rw[Bq,tg] at i;calc i))};have lt:=(bK f)
 rw[(WB lt).trans (ah (·::_)<|BQ<|(Dv lt).symm^f)] at i;calc AW▸ae (g.AX (z:=(z.aA X Bj).ax Am Q) (x:=y) R e q) λh d S=>{h,d,λW=>(b.AX (z:=(z.aA X Bj).ax h W) {{H.1,H.2,H.3},S} _ s m<|u y _ a i).aq λc a r=>d6 p r}
def Ca(D:-Bool)(g:ME V t)(s:Gm V t)(b:Au V Bd BO):BC V Bd BO where
 An x:=.For (g.An<|Bh x 0) (s.An<|Bh x 1) (b.An<|LC x) [] (E5 x)
 AI C x:=(!s.Nc||g.Cf)&&((!s.MF||!g.Cf)&&(g.AI C (Bh x 0)&&(s.AI C (Bh x 1)&&b.AI C (LC x))))
 AB L st:=if s.AB Y st=Y then(b.AB (EY D st)<|g.C7<|EY D st).bind λo=>if o.all (Hy<|EY D st)&&Hy (EY D st) st then U (U<|EY D st) else Ai else Ai
 wp w Af P:=s.wp w Af λc=>∃I:-t.AR->Ao V->Prop,I c Af/\(∀x l a,I (x::l) a->b.wp w (g.BG x a) (G1 D Af (I l) P))/\∀a,I [] a->P.av a
 AX {w _ _ _ z _ _} H x h k q:=ep h λd f i a b=>aC (c8 k) λg k=>aV k λo h k=>aC (bf k) λc e=>e∣vz (s.BG _) ((s.AX H Y _ _ a (oF d _) (oG f _) g q).aq λa p=>p.rec λ{a} q=>aE q λI j m r=>oS H.1 a h (aD c).1 i b m r rfl (H.2.le (aD c).2) j)
def LD(D:-Bool)(c:GH V)(b:Au V Bd BO):BC V Bd BO where
 An x:=.While (c.An<|Bh x 0) (b.An<|LC x) [] (E5 x)
 AI C x:=c.AI C (Bh x 0)&&b.AI C (LC x)
 AB L st:=if c.AB (EY D st)=Y then(b.AB (EY D st)<|EY D st).bind λo=>if o.all (Hy<|EY D st)&&Hy (EY D st) st then U (U<|EY D st) else Ai else Ai
 wp w Af P:=∃I:Nat->Ao V->Prop,(∃n,I n Af)/\∀n a,I n a->c.wp w a λz=>if z=Y then b.wp w a (G1 D Af (λg=>∃m,m<n/\I m g) P) else P.av a
 AX {w _ _ _ _ _ _} H x h k q:=a3 h λl p=>aC (c8 k) λs k=>aV k λo g k=>aC (bf k) λf e=>ae q λI d t=>ak d λn d=>e▸vs (λn b=>∃a,Cc w.AA V (EY D _) a b/\I n a) {_,H.2.le (aD f).2,d} λn d E u=>ae u λa R i=>(c.AX (H.ax R) _ l s<|t n a i).oR λz q=>by
   cases z with
   |false=>calc .av rfl R q|true=>calc Dj.aq (b.AX (H.ax R) _ p g q) λc d r=>(d6 (aD f).1 r).bY λd h=>ae h λy A j=>ae j λm B j=>{m,B,y,A,j}
end
inductive Y3(w:Bk)(V:-Az)(Bc:Az)(st:Br)(l:Bv)(Q:Bc.AR->(Bc.AR->Ao V)->Prop):T->(T->B5)->Prop
 |mk {x:Bc.AR} {up:Bc.AR->Ao V} {f:T->B5} (C7:∀y,Cc w.AA V st (up y)<|f<|Bc.AH w.AA l y) (q:Q x up):Y3 w V Bc st l Q (Bc.AH w.AA l x) f
structure L6(V:-Az)(Bc:Az) where
 An:A2->A2
 AI:Ea->A2->Bool
 Y4:Nat
 AB:Br->↥Bv
 wp:Bk->Ao V->(Bc.AR->(Bc.AR->Ao V)->Prop)->Prop
 nb:∀e,My (An e)=Y
 AX:∀{w:Bk} {st:Br} {Af:Ao V} {z:A5} {l Q},In w V st Af z->∀e,AI z.V.C e=Y->AB st=U l->wp w Af Q->F2 z (An e) (Y3 w V Bc st l Q)
section
variable{w:Bk}
theorem Cc.CM:∀{V:-Az} {i:Nat} {st:Br} {Af:Ao V} {Am:B5} {x:(gt V i).AR},Cc Ak V st Af Am->i<J V->st.at i=U l->Cc Ak V st (Ao.BG V i x Af) (Am.set i<|U<|(gt V i).AH Ak l x)
 |_::V,0,_,_,_,_,h,_=>λq=>a8 h λy r e Z a=>e⊂{_,r,rfl,λa e=>by cases D8 q.symm e;rfl,a}|_::V,i+1,_,_,_,_,h,b=>λq=>a8 h λy r e c a=>e⊂{y,_,rfl,c,a.CM (MU b) q}
def Dp(i:Nat)(Cj:autoParam (i<J V) mAd):L6 V (gt V i) where
 An e:=.Name (CN e) e.pos
 AI C e:=MD C i (CN e)
 Y4:=i
 AB st:=st.at i
 wp _ Af Q:=Q (Ao.Cq V i Af) λy=>Ao.BG V i y Af
 nb _:=rfl
 AX H e h c q:=cT (d8 h) λd a b=>gL d a b (H.2.b6 Cj c)<|.mk (λy=>H.2.CM Cj c) q
structure JY(Bc σ t:Az) where
 wp:Bc.AR->σ.AR->(t.AR->(t.AR->Bc.AR)->Prop)->Prop
 ok:∀{w:Bk} {V:-Az} {st:Br} {z:A5} {value slice:A2} {pos:Pos} {r:By×Bv} {Q},Px slice=Ab->F2 z value (Y3 w V Bc st .A λx a=>BM z slice<|DP w σ r λi=>wp x i λy u=>Q y λz=>a<|u z)->F2 z (.Subscript value slice pos) (Y3 w V t st .A Q)
def Y5(S:JY Bc σ t)(p:L6 V Bc)(a:Bx V σ):L6 V t where
 An e:=.Subscript (p.An<|Ap e 0) (a.An<|Ap e 1) e.pos
 AI C e:=p.AI C (Ap e 0)&&a.AI C (Ap e 1)
 Y4:=p.Y4
 AB st:=if p.AB st=U .A/\(a.AB st).isSome then U .A else Ai
 wp w Af Q:=p.wp w Af λx b=>a.wp w Af λi=>S.wp x i λy u=>Q y λz=>b (u z)
 nb _:=rfl
 AX H e h c q:=a3 h λb d=>aC (bf c) λc e=>bC c.2 λr f=>e▸S.ok (a.B1 _).2 ((p.AX H _ b c.1 q).aq λt b p=>p.rec λb q=>.mk b<|a.AX H _ d f q)
def JU(t:Az):JY ⇑t O t:=⟨λa i Q=>(i<J a/\Cu i)/\Q (a.getD i t.C2) λz=>a.set i z,λ{w _ _ _ _ _ _ _ _} a H=>wA a (H.aq λT a p=>p.rec λ{a b f} c q=>⟨a.map λx=>t.AH w.AA .A x,rfl,q.em λi q=>⟨i,rfl,_,{Hr _,q.1.2.au,iH q.1.1},.mk (λy=>by calc XO∣c (a.set i y)) q.2⟩⟩)⟩
def oT{K:EC}{f:β->T}{x:K.CC.AR}:∀{d:-(K.CC.AR×β)},GL K d x=U y->∃j,CK (d.map λe=>K.aI w.AA e.1) (K.aI w.AA x)=U j/\(d.map λe=>f e.2)[j]?=U (f y)/\∀z,(FD K d x z).map (λe=>K.aI w.AA e.1)=d.map (λe=>K.aI w.AA e.1)/\(FD K d x z).map (λe=>f e.2)=(d.map λe=>f e.2).set j (f z)
 |e::d,h=>by
  letI:=K.D6
  have h:(if x=e.1 then U e.2 else GL K d x)=U y:=h;have AW:CK ((e::d).map λe=>K.aI w.AA e.1) (K.aI w.AA x)=if K.aI w.AA x=K.aI w.AA e.1 then U 0 else(CK (d.map λe=>K.aI w.AA e.1)<|K.aI w.AA x).map (·+1):=rfl;have A3:∀z,FD K (e::d) x z=if x=e.1 then(e.1,z)::d else e::FD K d x z:=λz=>rfl;by_cases c:x=e.1
  ·rw[ao c] at h;cases h;exact {0,by rw[AW,ao<|ah (K.aI w.AA) c],rfl,λz=>by rw[A3,ao c];calc {rfl,rfl}}
  ·rw[ai c] at h;obtain⟨j,g1,g2,g3⟩:=oT h;calc {j+1,by rw[AW,ai λz=>c<|K.inj _ w.inj _ _ z,g1];rfl,g2,λz=>by rw[A3,ai c];calc {ah (_::·) (g3 z).1,ah (_::·) (g3 z).2}}
def Ael(K:EC)(t:Az):JY (AQ K t) K.CC t:=⟨λd x Q=>∃y,GL K d x=U y/\Q y λz=>FD K d x z,λ{w _ _ _ _ _ _ _ _} a H=>wB a (H.aq λT a p=>p.rec λ{d a f} b q=>⟨d.map λe=>K.aI w.AA e.1,d.map λe=>t.AH w.AA .A e.2,rfl,q.em λx q=>ae q λy h q=>aE (oT h) λj a c e=>⟨_,j,{K.ok _ _ _,dA _ x d,a},_,c,.mk (λy=>by rw[<-(e y).1,<-(e y).2];calc b<|FD K d x y) q⟩⟩)⟩
theorem LV.Fd(h:LV Ab a AJ b)(q:b.EO=Y\/b.Fc=Y):HR Ab a AJ b:=by
 cases (h)with
 |bh e=>calc .bh e q
def gO(h:tk t AJ l=U Dl):HR Ab (t.AH Ak l x) AJ (t.AH Ak Dl x):=(dB h).Fd<|(dW h).elim (λe=>e⊂.inr (t.a5 Ak x)) λe=>e⊂.inl (t.no Ak x)
def JV(t:Az)(l Dl:Bv):Bool:=t.aW||decide (l.B2=Dl)
def oW(h:JV t l Dl=Y):t.AH Ak Dl x=t.AH Ak l.B2 x:=(cW h).elim (λh=>dn h _ _) λh=>by rw[aL h]
def dX(h:l.b=Y)(xs:-t.AR):(⇑t).AH Ak l xs=.Bo Y (xs.map λx=>t.AH Ak l.B2 x):=ah (T.ab .Bo · _) h
def E6(p:L6 V ⇑t)(a:Bx V t):BC V Bd BO where
 An s:=.Expr (.Call (.Attribute (p.An<|Ap (Ap (Bh s 0) 0) 0) "append" (Ap (Bh s 0) 0).pos) [a.An<|Ap (Bh s 0) 1] [] (Bh s 0).pos) (E5 s)
 AI C s:=((Ap (Bh s 0) 0).pos.endLine==(Bh s 0).pos.line)&&(p.AI C (Ap (Ap (Bh s 0) 0) 0)&&a.AI C (Ap (Bh s 0) 1))
 AB _ st:=(p.AB st).bind λl=>(a.AB st).bind λr=>(tk t r.1 r.2).bind λa=>if l.b&&JV t l a then U (U st) else Ai
 wp w Af P:=p.wp w Af λb c=>a.wp w Af λx=>AP (J b)/\P.av (c<|b++[x])
 AX {w _ _ _ _ _ _} H s h c q:=cp h λg i j=>aV c λl m c=>aV c λr o c=>aV c λb u c=>aC (bf c) λd e=>e▸wI (p.nb _) g (a.B1 _).1 ((p.AX H _ i m q).aq λT b p=>p.rec λ{b c f} e q=>⟨b.map λx=>t.AH w.AA l.B2 x,dX (aD d).1 b,(a.AX H _ j o q).em λx q=>⟨_,gO u,q.1.bw,.av rfl (by
  have h:=e<|b++[x];rw[dX (aD d).1,Ee] at h;calc oW (aD d).2⊂h) q.2⟩⟩)
structure JJ(Bc σ t:Az) where
 wp:Bc.AR->σ.AR->t.AR->(Bc.AR->Prop)->Prop
 ok:∀{w:Bk} {l Dl x i a} {Q:Bc.AR->Prop} {R:T->Prop},l.b=Y->wp x i a Q->(∀y,Q y->R (Bc.AH w.AA l y))->YD (σ.AH w.AA Dl i) (t.AH w.AA l.B2 a) R (Bc.AH w.AA l x)
def Ii(S:JJ Bc σ t)(p:L6 V Bc)(i:Bx V σ)(a:Bx V t):BC V Bd BO where
 An s:=.Assign [.Subscript (p.An<|Ap (Bh s 1) 0) (i.An<|Ap (Bh s 1) 1) (Bh s 1).pos] (a.An<|Bh s 0) (E5 s)
 AI C s:=!a.cm&&(a.AI C (Bh s 0)&&(p.AI C (Ap (Bh s 1) 0)&&i.AI C (Ap (Bh s 1) 1)))
 AB _ st:=(a.AB st).bind λr=>(p.AB st).bind λl=>(tk t r.1 r.2).bind λa=>if l.b&&(JV t l a&&(i.AB st).isSome) then U (U st) else Ai
 wp w Af P:=a.wp w Af λz=>p.wp w Af λx a=>i.wp w Af λj=>S.wp x j z λy=>P.av (a y)
 AX {w _ _ _ z _ _} H s h c q:=dm h λf g m o=>aV c λr u c=>aV c λl A c=>aV c λb B c=>aC (bf c) λd e=>bC (aD (aD d).2).2 λb D=>e∣mU ((a.B1 _).5^(EJ _▸f)) ((a.AX H _ g u q).em λy q=>{_,gO B,λX a=>(p.AX (z:=z.aA X a) H.aA _ m A q).aq λT b p=>p.rec λb q=>(i.AX (z:=z.aA X a) H.aA _ o D q).em λj q=>oW (aD (aD d).2).1▸S.ok (aD d).1 q λy q=>.av rfl (b y) q})
def NY(t:Az):JJ ⇑t O t:=⟨λa i z Q=>(i<J a/\Cu i)/\Q (a.set i z),λ{w l c d i a Q R} e q b=>by have h:=b _ q.2;rw[dX e] at h⊢;calc .Bo (i:=(i:Int)) rfl (Hr _) q.1.2.au (by rw[Bq];calc q.1.1) (XO (f:=λx=>t.AH w.AA l.B2 x) (l:=d) (i:=i) (a:=a)∣h)⟩
def TN(K:EC)(t:Az):JJ (AQ K t) K.CC t:=⟨λd x z Q=>AP (J d)/\Q (FD K d x z),λ{w l g d x a Q R} i q c=>by have e:∀d:-(K.CC.AR×t.AR),(AQ K t).AH w.AA l d=.ab (.Dh<|d.map λe=>K.aI w.AA e.1) Y (d.map λe=>t.AH w.AA l.B2 e.2):=λd=>ah (T.ab _ · _) i;have h:=c _ q.2;have b:=gY (w:=w) (f:=t.AH w.AA l.B2) d x a;rw[e,<-b.1,<-b.2] at h;rw[e];calc .Dh (K.ok _ _ _) (dA _ x d) (by rw[Bq];calc q.1) h⟩
end
section
variable{V:-Az}{t u v Bc Bd:Az}{BO:Bv}
def oX{Ak:EA}{l:Bv}{Al:-t.AR}{x:t.AR}(a:t.aW=Y)(b:AP (Al++[x]).length):(t.AH Ak l x).EO=Y/\(t.AH Ak l x).Fc=Y/\Fs ((Al.map λx=>t.AH Ak l x)++[t.AH Ak l x])=Y:={(cQ a).1,(cQ a).2,aJ (by rw[BD,Bq];rw[BD] at b;calc b)}
def Aem(j:Nat)(p:L6 V ⇑(gt V j))(d:autoParam (j<J V) mAd)(a:autoParam ((gt V j).aW=Y) mAr):BC V Bd BO where
 An s:=.Assign [.Name (CN<|Bh s 1) (Bh s 1).pos] (.Call (.Attribute (p.An<|Ap (Ap (Bh s 0) 0) 0) "pop" (Ap (Bh s 0) 0).pos) [] [] (Bh s 0).pos) (E5 s)
 AI C s:=HA C j (CN<|Bh s 1)&&(((Ap (Bh s 0) 0).pos.endLine==(Bh s 0).pos.line)&&p.AI C (Ap (Ap (Bh s 0) 0) 0))
 AB _ st:=(p.AB st).bind λl=>if l.b=Y then U (U<|st.C7 j<|U .F) else Ai
 wp w Af P:=p.wp w Af λa b=>∃Al x,a=Al++[x]/\AP (J a)/\P.av (Ao.BG V j x<|b Al)
 AX {w _ _ _ _ _ _} H s h c q:=cp h λg i m=>aV c λl o c=>aC (bf c) λb e=>e▸wM (ck g) (p.nb _) i ((p.AX H _ m o q).aq λz c p=>p.rec λ{c g f} i q=>a8 q λc x f r y=>by subst f;have h:=i c;rw[dX b] at h;calc {c.map λx=>(gt V j).AH w.AA l.B2 x,(gt V j).AH w.AA l.B2 x,dX b _^ah (T.ab .Bo Y) Ee,oX a r,.av rfl (h.BG d λb e=>by cases e;rw[dn a l.B2 .F]) y})
def Abq(i j:Nat)(Cj:autoParam (i<J V) mAd)(a:autoParam (j<J V) mAd)(y:autoParam (i≠j) mAd)(b:autoParam (gt V j=gt V i) mAr):BC V Bd BO where
 An s:=.Assign [.Name (CN<|Bh s 1) (Bh s 1).pos] (.Name (CN<|Bh s 0) (Bh s 0).pos) (E5 s)
 AI C s:=HA C i (CN<|Bh s 1)&&MD C j (CN<|Bh s 0)
 AB _ st:=(st.at j).map λl=>U ((st.C7 j Ai).C7 i<|U l)
 wp w Af P:=P.av (Ao.BG V i (b▸Ao.Cq V j Af) Af)
 AX {w _ _ Af _ _ _} H s h c q:=a3 h λf g=>bT c λl m e=>e▸cT (d8 g) λc p r=>w3 (ck f) c p r (H.2.b6 a m) (.av rfl (by
  have d:=H.2.BG (o:=Ai) (x:=Ai) (v:=Ao.Cq V j Af) a λZ e=>dJ e;rw[Ao.iR] at d;exact d.BG Cj λa e=>by cases e;rw[iS b.symm]) q)
end
abbrev IS(e:A2):A2:=.Name (CN e) e.pos
abbrev Y6(e:A2):A2:=.Tuple [IS<|Ap e 0,IS<|Ap e 1] (GG e) e.pos
abbrev zy(e:A2):A2:=.Tuple [IS<|Ap e 0,IS<|Ap e 1,IS<|Ap e 2] (GG e) e.pos
abbrev oK(i j:Nat)(e:A2):-(Nat×Str):=[(i,CN<|Ap e 0),(j,CN<|Ap e 1)]
abbrev oZ(i j k:Nat)(e:A2):-(Nat×Str):=[(i,CN<|Ap e 0),(j,CN<|Ap e 1),(k,CN<|Ap e 2)]
structure Y7(Av:A2->↑A2)(xs:A2->↑(Nat×Str))(An:A2->A2)(a7:Bool) where
 AI:Ea->A2->A2->Bool
 ok:∀{C e v},AI C e v=Y->∀n p,YF C a7 (Av e) n p (An v)<|xs e
def Abr(e:A2):Bool:=Qs e.ctorIdx 25
def zz{C:Ea}{Av:-A2}{n:Nat}{p:Pos}{v:A2}{xs:-(Nat×Str)}(h:Abr v=Ab):YF C Ab Av n p v xs:=λa Z=>by cases v<;>first|rfl|delta h
def Abs{Av:A2->↑A2}{xs:A2->↑(Nat×Str)}{An:A2->A2}(h:∀e,Abr (An e)=Ab):Y7 Av xs An Ab:={λZ Z Z=>Y,λZ Z Z=>zz<|h _}
def R2(S:Dz)(Av:-A2):-Str:=Av.filterMap λ
 |.Name id pos=>if S.names.lookup id==U .local&&pos.line==(Av.head?.map (·.pos.line)).getD 0 then U id else Ai|_=>Ai
def Abt(a7:Bool)(S:Dz)(Av Ae:-A2)(xs:-Str):Bool:=(J Av==2||J Av==3)&&(J Ae==J Av)&&(S.kind==.function)&&!(Ae.any λ|.Starred ..=>Y|_=>Ab)&&
 ((R2 S Av).length !=J Av||(R2 S Av).eraseDups.length !=(R2 S Av).length)==!a7&&(!a7||(!(Ae.all<|foldedForSure 8)&&!(Ae.all<|tD 8)&&R2 S Av==xs))
def zA{a7:Bool}{C:Ea}{a Ae:-A2}{n m:Nat}{e p:Pos}{xs:-(Nat×Str)}(h:Abt a7 C.BN a Ae (xs.map (·.2))=Y):YF C a7 a n e (.Tuple Ae m p) xs:=by
 clear a7 C a Ae n m e p xs _ h;exactλenv d=>by
  have f:=aD h;have g:=aD f.1;have i:=aD g.1;have j:=aD i.1;have l:=aD j.1;have b:env.blockKind=.function:=by unfold Env.blockKind;rw[d,eq_of_beq j.2];rfl
  have g1:(!(J a==2||J a==3)||J Ae !=J a||env.blockKind !=.function)=Ab:=by rw[b,(eq_of_beq l.2),l.1,bne_self_eq_false];rfl
  have key:swappedStores [.Tuple a n e] (.Tuple Ae m p) env=(if(R2 C.BN a).length !=J a||(R2 C.BN a).eraseDups.length !=(R2 C.BN a).length then pure Ai else
    if Ae.all (foldedForSure 8) then pure Ai else if Ae.all (tD 8) then unsupported "assign.tuple-of-constant-expressions:order-of-the-stores" else pure (U<|R2 C.BN a)):=by calc(ai λz=>Bool.noConfusion<|g1.symm^z)^?_;calc(ai λz=>Bool.noConfusion<|(rwl (EJ _) i.2:_=Ab).symm^z)^?_;revert d;induction env;intro d;subst d;rfl
  rw[key,(eq_of_beq g.2)];cases a7 with
  |false=>rfl|true=>
   have c:=aD<|(cW f.2).resolve_left λz=>br z;have o:=aD c.1;have q:¬Ae.all (tD 8)=Y:=λz=>Bool.noConfusion<|(rwl (EJ _) o.2:_=Ab).symm^z;rw[ai λz=>br z,ai λz=>Bool.noConfusion<|(rwl (EJ _) o.1:_=Ab).symm^z,ai q,eq_of_beq c.2];rfl
def NU{Av:A2->↑A2}{xs:A2->↑(Nat×Str)}(a7:Bool)(a:A2->↑A2):Y7 Av xs (λv=>.Tuple (a v) (GG v) v.pos) a7:={λC e v=>Abt a7 C.BN (Av e) (a v) ((xs e).map (·.2)),λh Z Z=>zA h}
section
variable{V:-Az}{t u v Bc Bd:Az}{BO:Bv}
def dC{Ak:EA}{l:Bv}{i:Nat}{st:Br}{Af:Ao V}{Am:B5}(x:(gt V i).AR)(a:i<J V)(R:Cc Ak V st Af Am):Cc Ak V (st.C7 i<|U<|(gt V i).Dm l) (Ao.BG V i x Af) (Am.set i<|U<|(gt V i).AH Ak l x):=R.BG a λl e=>by delta e;rw[Az.gX]
def PR{a7:Bool}(i j:Nat)(a:Bx V (A0 (gt V i)<|gt V j))(S:Y7 (λe=>[IS<|Ap e 0,IS<|Ap e 1]) (oK i j) a.An a7)(Cj:autoParam (i<J V) mAd)(d:autoParam (j<J V) mAd):BC V Bd BO where
 An s:=.Assign [Y6<|Bh s 1] (a.An<|Bh s 0) (E5 s)
 AI C s:=HA C i (CN<|Ap (Bh s 1) 0)&&(HA C j (CN<|Ap (Bh s 1) 1)&&(!a.cm&&(S.AI C (Bh s 1) (Bh s 0)&&a.AI C (Bh s 0))))
 AB _ st:=(a.AB st).bind λr=>(Fd (A0 (gt V i)<|gt V j) st r).map λq=>U (if a7=Y then(q.1.C7 j<|U<|(gt V j).Dm q.2).C7 i (U<|(gt V i).Dm q.2) else(q.1.C7 i<|U<|(gt V i).Dm q.2).C7 j (U<|(gt V j).Dm q.2))
 wp w Af P:=a.wp w Af λx=>P.av (if a7=Y then Ao.BG V i x.1 (Ao.BG V j x.2 Af) else Ao.BG V j x.2 (Ao.BG V i x.1 Af))
 AX {w _ _ _ _ _ _} H s h c q:=ep h λt f g l m=>aV c λr o c=>bT c λp y e=>e▸m6 (a7:=a7) (xs:=oK i j<|Bh s 1) ((a.B1 _).5^(EJ _∣g)) (.cons<|.cons .nil) (S.ok l _ _) (b9 {ck t,b9 {ck f,λZ h=>ar h CR}}) ((a.AX H _ m o q).em λx q=>ae (fN (x:=x) y H.2) λb k R=>⟨b,_,_,k,rfl,by
  cases a7 with
  |false=>calc .av rfl (dC x.2 d<|dC x.1 Cj R) q|true=>calc .av rfl (dC x.1 Cj<|dC x.2 d R) q⟩)
def Aen(D:-Bool)(g:ME V u)(da:Nat)(p:L6 V ⇑t)(F:Ci [gt V da,t] (tL u))(x:Str)(bF:JN (gt V da) x)(b:Au V Bd BO)(E:autoParam (da<J V) mAd)(G:autoParam (t.aW=Y) mAr):BC V Bd BO where
 An s:=.For (g.An<|Bh s 0) (.Call (.Attribute (IS<|Ap (Ap (Bh s 1) 0) 0) x (Ap (Bh s 1) 0).pos) [.Call (.Attribute (p.An<|Ap (Ap (Ap (Bh s 1) 1) 0) 0) "pop" (Ap (Ap (Bh s 1) 1) 0).pos) [] [] (Ap (Bh s 1) 1).pos] [] (Bh s 1).pos) (b.An<|LC s) [] (E5 s)
 AI C s:=QW F.id==U (x,Y)&&(MD C da (CN<|Ap (Ap (Bh s 1) 0) 0)&&(((Ap (Bh s 1) 0).pos.endLine==(Bh s 1).pos.line)&&(((Ap (Ap (Bh s 1) 1) 0).pos.endLine==(Ap (Bh s 1) 1).pos.line)&&(p.AI C (Ap (Ap (Ap (Bh s 1) 1) 0) 0)&&(g.AI C (Bh s 0)&&b.AI C (LC s))))))
 AB L st:=(p.AB st).bind λl=>if(l.b&&decide (st.at da=U .F))&&TL Y u F.R1.1 F.R1.2.b F.R1.2.B2 then(b.AB (EY D st)<|g.C7<|EY D st).bind λo=>if o.all (Hy<|EY D st)&&Hy (EY D st) st then U (U<|EY D st) else Ai else Ai
 wp w Af P:=p.wp w Af λc d=>∃Al y,c=Al++[y]/\AP (J c)/\F.BZ w (Ao.Cq V da Af,y,()) λc=>AP (J c)/\∃I:List u.AR->Ao V->Prop,I c (d Al)/\(∀x l a,I (x::l) a->b.wp w (g.BG x a) (G1 D (d Al) (I l) P))/\∀a,I [] a->P.av a
 AX {w _ _ Af z _ _} H s h c q:=fF h λAg M N Q R S W=>aV c λl X c=>aC (c8 c) λd c=>aV c λo B7 c=>aC (bf c) λj e=>cT (d8 M) λJs zB zC=>cB (bF w.AA .F<|Ao.Cq V da Af) λas Aku Akv i KP=>e▸xl (idx:=g.idx) H.1.ok (H.1.1⊂H.1.3.4 F.id _ (eq_of_beq Ag)) Js zB zC (p.nb _) N Q (i∣H.2.b6 E (aL (aD (aD d).1).2)) KP (i∣(gt V da).no _ _) ((p.AX H _ R X q).aq λA CM p=>p.rec λ{xs up f} C7 q=>a8 q λAl y An Tg JO=>by subst An;have B:=C7 Al;rw[dX (aD (aD d).1).1] at B;calc {Al.map λx=>t.AH w.AA l.B2 x,t.AH w.AA l.B2 y,dX (aD (aD d).1).1 _^ah (T.ab .Bo Y) Ee,oX G Tg,?_};rw[<-i,(gt V da).Dx,t.Dx];calc(H.1.iM<|JO H.1.3).aq λA r=>r.aq λA a m=>m.rec λ{a} q=>aC (e1 (Ak:=w.AA) (aD d).2 a) λc d=>{_,.Kr (b:=Ab) c d,aE q.2 λI b c d=>oS H.1 a B7 (aD j).1 S W c d (dz a) (B.le (aD j).2) b})
end
section
variable{t:Az}
def oY:("len":Str)∈Pt/\SI "len"=U (.builtin "len")/\Tb (.builtin "len")=Y:={∅,rfl,rfl}
def oU{xs:-t.AR}(h:U ((.AU,.F):By×Bv)=U r)(q:Q (J xs)):DP w O r Q (.au (xs.map f).length) .AU:=by rw[Bq];calc BQ h∣.mk q
def G2(t:Az):I9 ⇑t O:={"len",_,oY,λZ=>U (.AU,.F),λZ a Q=>AP (J a)/\Q (J a),λZ h q=>lj (b:=Ab) q.1.bw<|oU h q.2}
def MI(t:Az):I9 (Ar t) O:={"len",_,oY,λZ=>U (.AU,.F),λZ a Q=>AP (J a)/\Q (J a),λZ h q=>lj (b:=Y) q.1.bw<|oU h q.2}
def iT:("list":Str)∈Pt/\SI "list"=U (.type "list")/\Tb (.type "list")=Y:={∅,rfl,rfl}
abbrev oV(t:Az)(AJ:By)(l:Bv):↥(By×Bv):=(tk t AJ l).map λl=>(.AU,up l)
def K2(t:Az):I9 ⇑t ⇑t:={"list",_,iT,λr=>oV t r.1 r.2.B2,λZ a Q=>AP (J a)/\Q a,λ{Z _ _ _ a _} Z h q=>bT h λl k e=>lp (c:=Ab) q.1.bw (e0 k (λx=>x) a)<|fM (dW k) a▸rwl e (.mk q.2)}
def Y8(t:Az):I9 (Ar t) ⇑t:={"list",_,iT,λr=>oV t r.1 r.2,λZ a Q=>AP (J a)/\Q a,λ{Z _ _ _ a _} Z h q=>bT h λl k e=>lp (c:=Y) q.1.bw (e0 k (λx=>x) a)<|fM (dW k) a▸rwl e (.mk q.2)}
def Y9(K:EC)(t:Az)(a:autoParam (K.CC.aW=Y) mAr):I9 (AQ K t) ⇑K.CC:=⟨"list",_,iT,λZ=>U (.AU,.A),λZ d Q=>AP (J d)/\Q (d.map (·.1)),λ{w _ _ _ d _} Z h q=>vh (by rw[Bq];calc q.1) (by
 have e:((d.map λe=>K.aI w.AA e.1).map BE.Hu)=(d.map (·.1)).map λx=>K.CC.AH w.AA .A x:=by rw[Fy,Fy];exact FI λx Z=>(K.cj w.AA x.1).trans<|dn a .F .A
 rw[e];calc BQ h∣.mk q.2)⟩
def PS(t:Az):I9 ⇑t (Ar t):={"tuple",_,{∅,rfl,rfl},λr=>(tk t r.1 r.2.B2).map λl=>(.AU,t.Dm l),λZ a Q=>AP (J a)/\Q a,λ{Z _ _ _ a _} Z h q=>bT h λl k e=>u9 q.1.bw (e0 k (λx=>x) a)<|e∣.Dm q.2}
def oJ{f:Nat->Str}(a:∀i j,f i=f j->i=j):∀xs:-Nat,(xs.map f).idxOf (f x)=xs.idxOf x
 |[]=>rfl|y::Al=>by
  rw[HI,Ajx,Ajx,oJ a Al];by_cases h:y=x;·subst h;rw[beq_self_eq_true,beq_self_eq_true]
  ·rw[beq_eq_false_iff_ne.mpr λz=>h<|a _ _ z,beq_eq_false_iff_ne.mpr h]
def oO:∀xs:-Nat,KD (xs.map λx=>T.aZ<|f x)=U (xs.map f)
 |[]=>rfl|y::Al=>by show((KD _).map _)=_;rw[oO Al];rfl
def K3(a:Bx V ⇑Ac)(b:Bx V Ac):Bx V O where
 An e:=.Call (.Attribute (a.An<|Ap (Ap e 0) 0) "index" (Ap e 0).pos) [b.An<|Ap e 1] [] e.pos
 pl:=Y
 cm:=Ab
 nb:=Ab
 AI C e:=a.nb&&(((Ap e 0).pos.endLine==e.pos.line)&&(a.AI C (Ap (Ap e 0) 0)&&b.AI C (Ap e 1)))
 AB st:=if(a.AB st).isSome&&(b.AB st).isSome then U (.AU,.F) else Ai
 wp w Af Q:=a.wp w Af λa=>b.wp w Af λx=>(x∈a/\AP (J a))/\Q (a.idxOf x)
 B1 _:={rfl,rfl,rfl,rfl,rfl,rfl}
 AX {w _ _ _ _ _} H e h c q:=dm h λd f g i=>aC (bf c) λc e=>bC (aD c).1 λm j=>bC (aD c).2 λc l=>e▸w8 ((a.B1 _).6^d) f (b.B1 _).1 ((a.AX H _ g j q).em λa q=>{_,_,_,rfl,oO a,(b.AX H _ i l q).em λx q=>{_,rfl,{by rw[Bq];calc q.1.2,Po q.1.1},by rw[oJ w.inj];calc .mk q.2}})
def PE.aq(H:PE z x Q)(q:∀i,Q i->DH i):PE z x DH:=H.imp (λh=>{h.1,q _ h.2}) λh=>ae h λe a h=>{e,a,h.aq λt a h=>ae h λn e h=>{n,e,q _ h}}
structure J0(V:-Az) where
 An:↥A2->↥A2
 AI:Ea->↥A2->Bool
 AB:Br->Bool
 wp:Bk->Ao V->(↥Nat->Prop)->Prop
 AX:∀{w:Bk} {st:Br} {Af:Ao V} {z:A5} {Q},In w V st Af z->∀e,AI z.V.C e=Y->AB st=Y->wp w Af Q->PE z (An e) Q
def NV:J0 V where
 An _:=Ai
 AI _ _:=Y
 AB _:=Y
 wp _ _ Q:=Q Ai
 AX _ _ _ _ q:=.inl {rfl,q}
def LF(a:Bx V O):J0 V where
 An e:=U (a.An<|e.getD<|.Name "" default)
 AI C e:=a.AI C (e.getD<|.Name "" default)
 AB st:=(a.AB st).isSome
 wp w Af Q:=a.wp w Af λn=>Q (U n)
 AX H e h c q:=bC c λr b=>.inr {_,rfl,(a.AX H _ h b q).em λn q=>{n,rfl,q}}
def o1(f:α->β)(xs:-α)(BP a:↥Nat):Fh (xs.map f) BP a=(Fh xs BP a).map f:=by
 cases a with
 |none=>calc List.map_drop.symm|some k=>show((xs.map f).drop _).take _=((xs.drop _).take _).map f;rw[List.map_take,List.map_drop]
structure J1(Bc:Az) where
 α:Type
 BW:Bc.AR->↑α
 AB:By×Bv->↥(By×Bv)
 cj:-α->Bc.AR
 ok:∀{w:Bk} {r a x Q} {BP Cj:↥Nat},AB r=U a->AP (BW x).length->Q (cj<|Fh (BW x) BP Cj)->KL BP Cj (DP w Bc a Q) (Bc.AH w.AA r.2 x) r.1
def Xf(t:Az):J1 ⇑t:=⟨t.AR,id,λr=>(tk t r.1 r.2.B2).map λl=>(.AU,up l),id,λ{w _ _ b _ _ _} h a q=>bT h λl k e=>.Bo a.bw (e0 k (λx=>x) b) (by
 rw[o1];calc fM (dW k) (Fh b _ _)▸rwl e (.mk q))⟩
def TP(t:Az):J1 (Ar t):=⟨t.AR,id,λr=>(tk t r.1 r.2).map λl=>(.AU,t.Dm l),id,λ{w _ _ b _ _ _} h a q=>bT h λl k e=>.aT a.bw (e0 k (λx=>x) b) (by
 rw[o1];calc e∣.Dm q)⟩
def Xg:A2->↥A2×↥A2
 |.Slice a b _ _=>(a,b)
 |_=>(Ai,Ai)
def ML(K:J1 Bc)(a:Bx V Bc)(BP Cj:J0 V):Bx V Bc where
 An e:=.Subscript (a.An<|Ap e 0) (.Slice (BP.An (Xg<|Ap e 1).1) (Cj.An (Xg<|Ap e 1).2) Ai (Ap e 1).pos) e.pos
 pl:=Y
 cm:=Ab
 nb:=Y
 AI C e:=a.AI C (Ap e 0)&&(BP.AI C (Xg<|Ap e 1).1&&Cj.AI C (Xg<|Ap e 1).2)
 AB st:=if BP.AB st&&Cj.AB st then(a.AB st).bind K.AB else Ai
 wp w Af Q:=a.wp w Af λx=>BP.wp w Af λi=>Cj.wp w Af λj=>AP (K.BW x).length/\Q (K.cj<|Fh (K.BW x) i j)
 B1 _:={rfl,rfl,rfl,rfl,rfl,rfl}
 AX H e h c q:=cp h λb d f=>aC (c8 c) λc g=>aV g λr l m=>nB<|(a.AX H _ b l q).em λx q=>(BP.AX H _ d (aD c).1 q).aq λi q=>(Cj.AX H _ f (aD c).2 q).aq λj q=>K.ok m q.1 q.2
end
section
variable{z:A5}
structure R3(t u:Az) where
 wp:t.AR->(u.AR->Prop)->Prop
 Bf:Bv->Bv
 ok:∀{Ak l x Q},wp x Q->∃y,t.AH Ak l x=u.AH Ak (Bf l) y/\Q y
def EE(K:R3 t u)(a:Bx V t):Bx V u where
 An:=a.An
 pl:=a.pl
 cm:=a.cm
 nb:=a.nb
 AI:=a.AI
 AB st:=(a.AB st).map λr=>(r.1,u.Dm<|K.Bf r.2)
 wp w Af Q:=a.wp w Af λx=>K.wp x Q
 B1:=a.B1
 AX H e h c q:=bT c λr b c=>c▸(a.AX H e h b q).em λx q=>ae (K.ok q) λy e q=>e⊂.Dm q
abbrev J2:R3 O EZ:={λn Q=>Q n,id,λq=>{_,rfl,q}}
abbrev Xh:R3 EZ O:={λi Q=>∃n:Nat,i=n/\Q n,id,λa=>ae a λn e q=>{n,by rw[e],q}}
abbrev IT(t:Az):R3 (BU t) t:={λx Q=>∃y,x=U y/\Q y,id,λa=>ae a λn e q=>{n,by rw[e];rfl,q}}
abbrev EF:Az where
 AR:=Nat⊕↑Nat
 C2:=.inl 0
 AH Ak l x:=x.elim (λ(n:Nat)=>.au n) ((⇑O).AH Ak l)
 aW:=Ab
 strict:=Ab
 Dx Ak l x:=by cases x with|inl=>rfl|inr x=>exact(⇑O).Dx Ak l x
 no Ak x:=by cases x with|inl=>rfl|inr x=>exact(⇑O).no Ak x
 a5 Ak x:=by cases x with|inl=>rfl|inr x=>exact(⇑O).a5 Ak x
 Bf:=br
 st:=br
abbrev o2:R3 O EF:={λn Q=>Q<|.inl n,λZ=>.F,λq=>{_,rfl,q}}
abbrev zD:R3 ⇑O EF:={λn Q=>Q<|.inr n,id,λq=>{_,rfl,q}}
abbrev J3:R3 EF O:={λx Q=>∃n,x=.inl n/\Q n,id,λa=>ae a λn e q=>{n,by rw[e];rfl,q}}
abbrev zE:R3 EF ⇑O:={λx Q=>∃n,x=.inr n/\Q n,id,λa=>ae a λn e q=>{n,by rw[e];rfl,q}}
structure Bp where
 l:Nat
 r:↑Nat
 v:Int
 deriving DecidableEq
structure AK where
 Aq:↑Nat
 Ad:Nat
 aa:↑Bp
 st:Nat
 L7:↑↑Nat
 c0:↑Nat
 bh:↑Nat
 J4:Nat
instance:Nonempty Bp:={0,[],0}
instance:Nonempty AK:={[],0,[],0,[],[],[],0}
def Bz:Bp:={0,[],0}
abbrev Cb:Az where
 AR:=Bp×Nat
 C2:=(Bz,0)
 AH Ak l x:=.DM l.b 0 [(0,.au x.2),(1,.au x.1.l),(2,(Ar O).AH Ak l x.1.r),(3,.au x.1.v),(4,.none),(5,.au 0),(6,.au 0)]
 aW:=Ab
 strict:=Y
 Dx Ak l x:=by show T.DM Ab 0 [(0,.au x.2),(1,.au x.1.l),(2,((Ar O).AH Ak l x.1.r).D5),(3,.au x.1.v),(4,.none),(5,.au 0),(6,.au 0)]=_;rw[(Ar O).Dx];rfl
 no Ak x:=by show(Y&&(Y&&(Y&&(_&&Y))))=Y;rw[(Ar O).no];rfl
 a5 Ak x:=by show(Y&&(Y&&(Y&&(_&&Y))))=Y;rw[(Ar O).a5];rfl
 Bf:=br
 st _ Ak x:=⟨λl h=>by cases l with|F=>calc ar rfl h|_=>rfl,rfl⟩
abbrev A1:Az where
 AR:=AK
 C2:={[],0,[],0,[],[],[],0}
 AH Ak l g:=.DM l.b 1 [(7,(⇑Ac).AH Ak l g.Aq),(8,.au g.Ad),(9,(⇑Cb).AH Ak l g.aa.zipIdx),(10,(AQ A7 O).AH Ak l []),(11,.none),(12,.au g.st),(13,(⇑⇑O).AH Ak l g.L7),(14,(⇑O).AH Ak l g.c0),(15,(⇑O).AH Ak l g.bh),(16,.au g.J4)]
 aW:=Ab
 strict:=Y
 Dx Ak l g:=by show T.DM Ab 1 [(7,((⇑Ac).AH Ak l g.Aq).D5),(8,.au g.Ad),(9,((⇑Cb).AH Ak l g.aa.zipIdx).D5),(10,((AQ A7 O).AH Ak l []).D5),(11,.none),(12,.au g.st),(13,((⇑⇑O).AH Ak l g.L7).D5),(14,((⇑O).AH Ak l g.c0).D5),(15,((⇑O).AH Ak l g.bh).D5),(16,.au g.J4)]=_;rw[(⇑Ac).Dx,(⇑Cb).Dx,(AQ A7 O).Dx,(⇑⇑O).Dx,(⇑O).Dx,(⇑O).Dx];rfl
 no Ak g:=by show(Y&&(((⇑Ac).AH Ak .F g.Aq).EO&&(Y&&(((⇑Cb).AH Ak .F g.aa.zipIdx).EO&&(((AQ A7 O).AH Ak .F []).EO&&(Y&&(Y&&(((⇑⇑O).AH Ak .F g.L7).EO&&(((⇑O).AH Ak .F g.c0).EO&&(((⇑O).AH Ak .F g.bh).EO&&(Y&&Y)))))))))))=Y;rw[(⇑Ac).no,(⇑Cb).no,(AQ A7 O).no,(⇑⇑O).no,(⇑O).no,(⇑O).no];rfl
 a5 Ak g:=by show(Y&&(((⇑Ac).AH Ak .A g.Aq).Fc&&(Y&&(((⇑Cb).AH Ak .A g.aa.zipIdx).Fc&&(((AQ A7 O).AH Ak .A []).Fc&&(Y&&(Y&&(((⇑⇑O).AH Ak .A g.L7).Fc&&(((⇑O).AH Ak .A g.c0).Fc&&(((⇑O).AH Ak .A g.bh).Fc&&(Y&&Y)))))))))))=Y;rw[(⇑Ac).a5,(⇑Cb).a5,(AQ A7 O).a5,(⇑⇑O).a5,(⇑O).a5,(⇑O).a5];rfl
 Bf:=br
 st _ Ak x:=⟨λl h=>by cases l with|F=>calc ar rfl h|_=>rfl,rfl⟩
def PT:IL Cb O:={0,λx=>x.2,id,λq=>.mk rfl rfl rfl q}
def FF:IL Cb O:={1,λx=>x.1.l,id,λq=>.mk rfl rfl rfl q}
def Le:IL Cb (Ar O):={2,λx=>x.1.r,id,λq=>.mk rfl rfl rfl q}
def Aeo:IL Cb EZ:={3,λx=>x.1.v,id,λq=>.mk rfl rfl rfl q}
def Aep:IL Cb ER:={4,λZ=>(),id,λq=>.mk rfl rfl rfl q}
def Aeq:IL Cb O:={5,λZ=>0,id,λq=>.mk rfl rfl rfl q}
def Aer:IL Cb O:={6,λZ=>0,id,λq=>.mk rfl rfl rfl q}
def FZ:IL A1 ⇑Ac:={7,λg=>g.Aq,id,λq=>.mk rfl rfl rfl q}
def TQ:IL A1 O:={8,λg=>g.Ad,id,λq=>.mk rfl rfl rfl q}
def HK:IL A1 ⇑Cb:={9,λg=>g.aa.zipIdx,id,λq=>.mk rfl rfl rfl q}
def Aes:IL A1 (AQ A7 O):={10,λZ=>[],id,λq=>.mk rfl rfl rfl q}
def Aet:IL A1 ER:={11,λZ=>(),id,λq=>.mk rfl rfl rfl q}
def Ua:IL A1 O:={12,λg=>g.st,id,λq=>.mk rfl rfl rfl q}
def Aeu:IL A1 ⇑⇑O:={13,λg=>g.L7,id,λq=>.mk rfl rfl rfl q}
def bF(h:Tr x [7,8,9,10,11,12,13,14,15,16]=Y):JN A1 x:=λa l g=>{_,_,_,rfl,h}
def Abu:Bx V EZ where
 An e:=.UnaryOp .USub (.Constant (.int 1) (GG<|Ap e 0) (Ap e 0).pos) e.pos
 pl:=Y
 cm:=Ab
 nb:=Ab
 AI _ _:=Y
 AB _:=U (.AU,.F)
 wp _ _ Q:=Q (Neg.neg 1)
 B1 _:={rfl,rfl,rfl,rfl,rfl,rfl}
 AX _ e h c q:=uR<|eQ (c:=.au 1) rfl {rfl,BQ c∣.mk q}
def Aev(K:EC)(t:Az)(a:Bx V (AQ K t))(b:Bx V K.CC):Bx V (BU t) where
 An e:=.Call (.Attribute (a.An<|Ap (Ap e 0) 0) "get" (Ap e 0).pos) [b.An<|Ap e 1,.Constant .none (GG<|Ap e 2) (Ap e 2).pos] [] e.pos
 pl:=Y
 cm:=Ab
 nb:=Ab
 AI C e:=(a.nb&&((Ap e 0).pos.endLine==e.pos.line))&&(a.AI C (Ap (Ap e 0) 0)&&b.AI C (Ap e 1))
 AB st:=if(a.AB st).isSome&&(b.AB st).isSome then U (.aM,.F) else Ai
 wp w Af Q:=a.wp w Af λd=>b.wp w Af λx=>Q (GL K d x)
 B1 _:={rfl,rfl,rfl,rfl,rfl,rfl}
 AX {w _ _ _ _ _} H e h k q:=cp h λf j l=>aC (bf k) λk e=>bC (aD k).1 λg m=>bC (aD k).2 λh o=>e▸oE (ij ((a.B1 _).6^(aD f).1) (aD f).2 (b.B1 _).1 rfl ((a.AX H _ j m q).em λd q=>⟨_,_,_,rfl,(b.AX H _ l o q).em λx q=>⟨_,{K.ok _ _ _,dA _ x d},eQ (c:=.none) rfl (by
  rw[(es d x).1];cases i:GL K d x with
  |none=>rw[i] at q;calc .mk (Bc:=BU t) (r:=(.aM,.F)) q|some v=>rw[i] at q;calc(show DP w (BU t) (.aM,.F) _ (t.AH w.AA g.2.B2 v).D5 .aM from t.Dx w.AA g.2.B2 v⊂.mk (Bc:=BU t) (r:=(.aM,.F)) q))⟩⟩))
def zF(H:BM z e λt a=>(a=.AU/\Q t.D5 .DC)\/(a=.DC/\Q t .DC)):BM z e Q:=λs R=>H.aG R λv d t e q S y=>ae y λg y b=>by
 rcases q with q|q
 ·rw[q.1] at y b;exact {_,_,q.2,S,[],A9.CT (λa h=>.inl h) _ (λa c m=>CF.bx (R.d3 a m)<|b.2 a c) y,E1.nil _}
 ·rw[q.1] at y b;calc {_,_,q.2,S,g,y,b}
def Aew(K:EC)(t:Az)(a:Bx V (AQ K t))(b:Bx V K.CC)(c:Bx V t):Bx V t where
 An e:=.Call (.Attribute (a.An<|Ap (Ap e 0) 0) "get" (Ap e 0).pos) [b.An<|Ap e 1,c.An<|Ap e 2] [] e.pos
 pl:=Y
 cm:=Ab
 nb:=Ab
 AI C e:=(a.nb&&((Ap e 0).pos.endLine==e.pos.line))&&(a.AI C (Ap (Ap e 0) 0)&&(b.AI C (Ap e 1)&&c.AI C (Ap e 2)))
 AB st:=if a.AB st=U (.DC,.F)/\(b.AB st).isSome=Y/\((c.AB st).elim Ab λr=>decide<|r.1=.AU)=Y then U (.DC,.F) else Ai
 wp w Af Q:=a.wp w Af λd=>b.wp w Af λx=>c.wp w Af λy=>Q ((GL K d x).getD y)
 B1 _:={rfl,rfl,rfl,rfl,rfl,rfl}
 AX {w _ _ _ _ _} H e h k q:=dm h λf i j l=>aC (bf k) λk e=>bC k.2.1 λh m=>c9 k.2.2 λo p s=>e▸zF (ij ((a.B1 _).6^(aD f).1) (aD f).2 (b.B1 _).1 (c.B1 _).1 ((a.AX H _ i k.1 q).em λd q=>⟨_,_,_,rfl,(b.AX H _ j m q).em λx q=>⟨_,{K.ok _ _ _,dA _ x d},(c.AX H _ l p q).em λy q=>by
  show tB (Mx (d.map λe=>K.aI w.AA e.1) (d.map λe=>t.AH w.AA .F e.2)<|K.aI w.AA x) _ _;rw[((es d x).1)];cases g:GL K d x with
  |none=>rw[g] at q;calc .inl {aL s,t.Dx w.AA o.2 y⊂.mk q}|some v=>rw[g] at q;calc .inr {rfl,.mk q}⟩⟩))
def Aex(a:Bx V Ac)(k:Nat):Bx V YX where
 An e:=.Subscript (a.An<|Ap e 0) (.Slice Ai (U<|.Constant (.int k) (GG<|(Xg<|Ap e 1).2.getD e) ((Xg<|Ap e 1).2.getD e).pos) Ai (Ap e 1).pos) e.pos
 pl:=Y
 cm:=Ab
 nb:=Y
 AI C e:=a.AI C (Ap e 0)
 AB st:=(a.AB st).map λZ=>(.AU,.F)
 wp w Af Q:=a.wp w Af λx=>(PyData.strOk (Txt.slice (w.AA x) Ai<|U (k:Int))=Y/\(w.AA x).length<=H5)/\Q (Txt.slice (w.AA x) Ai<|U (k:Int))
 B1 _:={rfl,rfl,rfl,rfl,rfl,rfl}
 AX H e h c q:=bT c λr b d=>d▸nB ((a.AX H _ h b q).em λx q=>.inl {rfl,.inr {_,rfl,eQ (c:=.au k) rfl {k,rfl,.aZ q.1.1 q.1.2<|.mk q.2}}})
end
section
variable{Bd:Az}{BO:Bv}{w:Bk}{k:Nat}
def Ia.up(h:Ia Aa k EN Av Q):Ia Aa (k+1) EN Av Q:=λz s c d e R y=>by
 have a:=e▸z.V.Eb;have b:AY {{z.V with k:=k,Eb:=a.iC},z.Am,z.Ae,z.AO} s:={R.1,R.2,R.3,R.4,R.5,R.6,R.7,R.8}
 calc CW (h {{z.V with k:=k,Eb:=a.iC},z.Am,z.Ae,z.AO} s c d rfl b y) (λv a o=>o.rec λt f q S y a b=>{t,f,q,{S.1,S.2.1,S.2.2,S.2.3,S.2.4,S.2.5,S.2.6,S.2.7,S.2.8},y,a,b}) bu
theorem Cc.Gg:∀{as:-Az} {Ae:Ao as},Cc Ak (as++BB) (CV (J as)<|U .F) (Ao.DL as Ae a)<|(Lc Ak as Ae).map U++CV BB.length Wl
 |[],_=>Cc.cP BB|t::as,Ae=>{_,_,rfl,λl e=>by delta e;rfl,Cc.Gg}
def AS(k:Nat):Nat:=2*k
noncomputable def Bk.at(w:Bk)(d:Nat):Bk:={w with d:=d}
def g0:∀{as:-Az} {Ae:Ao as},(Lc Ak as Ae).length=(J as)
 |[],_=>rfl|_::_,_=>ah (·+1) g0
def Ub(Bd:Az)(BO:Bv)(r:By×Bv):Bool:=if r.1=.aM then decide (r.2=.F) else decide (Abj Bd BO=U r)
def iW{Q:Bd.AR->Prop}(h:Ub Bd BO r=Y)(q:Q y):Gh (DP w Bd r Q) (Bd.AH w.AA BO y):=by
 clear Bd BO w r _ y Q _ h q;unfold Ub at h;obtain⟨AJ,l⟩:=r;by_cases c:AJ=.aM;·subst c;have e:=aL<|(ao rfl).symm^h;subst e;exact .Gz<|Bd.Dx w.AA BO y⊂.mk q
 ·have h:=aL<|(ai c).symm^h;unfold Abj at h;by_cases d:Bd.aW=Y;·rw[ao d] at h;cases h;exact .bh (cQ d).2<|dn d .F BO∣.mk q
  ·rw[ai d] at h;by_cases e:BO=.A;·rw[ao e] at h;cases h;subst e;exact .bh (Bd.a5 w.AA y)<|.mk q
   ·rw[ai e] at h;cases(bf h).2;calc ar rfl c
def Aey(EG ls:-Az)(b:Au (EG++ls) Bd BO)(F:Ci as Bd):Bool:=
 let I:=B6 F.id 0
 decide ((F.id<62/\(F.id<1\/3<F.id))/\J as+J I.E3=J EG/\J I.FR=J EG/\J I.NM=J ls)&&(((b.AB []<|CV (J EG)<|U .F).elim Ab (·.isNone))&&(Ub Bd BO F.R1&&b.AI I.C I.Eg))
def CX(EG ls:-Az)(b:Au (EG++ls) Bd BO){as:-Az}(F:Ci as Bd):Prop:=Em
 (Aey EG ls b F=Y)
 (b.An (B6 F.id 0).Eg=(B6 F.id 0).Eg)
def o3(h:o.elim Ab (·.isNone)=Y):o=U Ai:=by
 cases o with
 |none=>delta h|some o=>cases o with
  |none=>rfl|some _=>delta h
def o4{EG ls:-Az}{b:Au (EG++ls) Bd BO}{F:Ci as Bd}{IE:Ao EG}{Q:Bd.AR->Prop}(a:CX EG ls b F)(d:Lc w.AA as Ae++(B6 F.id 0).E3=Lc w.AA EG IE)(H:b.wp (w^^k) (Ao.DL EG IE<|Ao.C2 ls) (Cp Q)):F.BZ (w^^k+1) Ae Q:=by
 clear Bd BO w k as EG ls _ Ae IE Q _ b F a d H;exactλbt=>aC (aD a.1) λAg f=>aC (aD f) λA4 f=>aC (aD f) λg hs=>eH (aL Ag) λAg Z i j=>by
  have h:Ia w.Aa (AS k+1) (.ref<|w.DD F.id) (Lc w.AA as Ae) (Gh<|DP (w^^k+1) Bd F.R1 Q):=v3 bt.1 (bt.5 F.id Ag.1 Ag.2) (by rw[<-BD,show(B6 F.id<|w.DD F.id).E3=(B6 F.id 0).E3 from rfl,d,g0];calc i.symm) λz AW A3 DU l=>by
   have m:In (w^^k) (EG++ls) (CV (J EG)<|U .F) (Ao.DL EG IE<|Ao.C2 ls) z:=⟨{AW,DU,bt},by
    rw[l];show Cc _ _ _ _ ((Lc w.AA as Ae++(B6 F.id 0).E3).map U++CV (B6 F.id 0).NM.length Wl);rw[d,j];calc Cc.Gg⟩
   have S:=b.AX m (B6 F.id 0).Eg (A3⊂hs) (o3 A4) H;rw[a.2] at S;calc S.aq λc Am r=>?_;cases r with
   |av e=>delta e|LA _ q=>calc q.elim|Ft _ q=>calc q.elim|bW q=>exact iW g q
  calc h.up
def aY{F:Ci as Bd}(a:CX as ls b F)(H:b.wp (w^^k) (Ao.DL as Ae<|Ao.C2 ls) (Cp Q)):F.BZ (w^^k+1) Ae Q:=o4 a (by rw[Ajy.mp<|Ajz (aL (aD a.1).1).2.1,Ct]) H
end
section
variable{t:Az}
abbrev zG:Bx V ER:=W8 ER .none () λZ=>rfl
def CT(i:Nat)(b:Au V Bd BO)(Cj:autoParam (i<J V) mAd):Au V Bd BO:=Mu T.D5 w0 (λZ=>.F) i Cj (λa l x=>(gt V i).Dx a l x) b
def iX{K:EC}(Ak:EA)(l:Bv)(x:(AQ K t).AR):((AQ K t).AH Ak l x).Dg=(AQ K t).AH Ak (if l=.F then .F else .Dd) x:=by induction l<;>first|rfl|calc ah (T.ab _ _)<|dz x
def J5(i:Nat)(b:Au V Bd BO)(Cj:autoParam (i<J V) mAd)(Ax:∀Ak l (x:(gt V i).AR),((gt V i).AH Ak l x).Dg=(gt V i).AH Ak (if l=.F then .F else .Dd) x):Au V Bd BO:=Mu T.Dg m1 (λl=>if l=.F then .F else .Dd) i Cj Ax b
def J6(i j k:Nat)(a:Bx V (DN (gt V i) (gt V j)<|gt V k))(S:Y7 (λe=>[IS<|Ap e 0,IS<|Ap e 1,IS<|Ap e 2]) (oZ i j k) a.An a7)(Cj:autoParam (i<J V) mAd)(d:autoParam (j<J V) mAd)(Ax:autoParam (k<J V) mAd):BC V Bd BO where
 An s:=.Assign [zy<|Bh s 1] (a.An<|Bh s 0) (E5 s)
 AI C s:=HA C i (CN<|Ap (Bh s 1) 0)&&(HA C j (CN<|Ap (Bh s 1) 1)&&(HA C k (CN<|Ap (Bh s 1) 2)&&(!a.cm&&(S.AI C (Bh s 1) (Bh s 0)&&a.AI C (Bh s 0)))))
 AB _ st:=(a.AB st).bind λr=>(Fd (DN (gt V i) (gt V j)<|gt V k) st r).map λq=>U (if a7=Y then((q.1.C7 k<|U<|(gt V k).Dm q.2).C7 j<|U<|(gt V j).Dm q.2).C7 i (U<|(gt V i).Dm q.2) else((q.1.C7 i<|U<|(gt V i).Dm q.2).C7 j<|U<|(gt V j).Dm q.2).C7 k (U<|(gt V k).Dm q.2))
 wp w Af P:=a.wp w Af λx=>P.av (if a7=Y then Ao.BG V i x.1 (Ao.BG V j x.2.1<|Ao.BG V k x.2.2 Af) else Ao.BG V k x.2.2 (Ao.BG V j x.2.1<|Ao.BG V i x.1 Af))
 AX {w _ _ _ _ _ _} H s h c q:=fE h λt f g l m o=>aV c λr u c=>bT c λp y e=>e▸m6 (a7:=a7) (xs:=oZ i j k<|Bh s 1) ((a.B1 _).5^(EJ _∣l)) (.cons<|.cons<|.cons .nil) (S.ok m _ _) (b9 {ck t,b9 {ck f,b9 {ck g,λZ h=>ar h CR}}}) ((a.AX H _ o u q).em λx q=>ae (fN (x:=x) y H.2) λb z R=>⟨b,_,_,z,rfl,by
  cases a7 with
  |false=>calc .av rfl (dC x.2.2 Ax<|dC x.2.1 d<|dC x.1 Cj R) q|true=>calc .av rfl (dC x.1 Cj<|dC x.2.1 d<|dC x.2.2 Ax R) q⟩)
structure R4(t:Az) where
 lt:EA->t.AR->t.AR->Bool
 ok:∀{Ak},Xb Ak->Ic (lt Ak)
 K:KR
 e:EA->t.AR->K.α
 Cj:∀{Ak},Xb Ak->∀a b,e Ak a=e Ak b->a=b
 HT:∀Ak a b,K.lt (e Ak a) (e Ak b)=lt Ak a b
 Jq:∀Ak l x,t.AH Ak l x=K.f (e Ak x)
def Aez:R4 O:={λZ a b=>decide<|a<b,λZ=>iv,Ad9,λZ n=>n,λZ Z Z h=>h,λZ Z Z=>rfl,λZ Z Z=>rfl}
def J7:R4 Ac:={λc a b=>M9 (c a)<|c b,λ{a} h=>fC.NR a h,Aea,λa n=>a n,λh a b e=>h a b e,λZ Z Z=>rfl,λZ Z Z=>rfl}
def Abv:R4 (A0 O O):={λZ a b=>Gj [a.1,a.2] [b.1,b.2],λZ=>fD.NR (λa:Nat×Nat=>[a.1,a.2]) λa b h=>LK (Ge h).1 (Ge (Ge h).2).1,Abd,λZ a=>[a.1,a.2],λZ a b h=>LK (Ge h).1 (Ge (Ge h).2).1,λZ Z Z=>rfl,λZ Z Z=>rfl}
def AeA:R4 (Ar O):={λZ a b=>Gj a b,λZ=>fD,Abd,λZ l=>l,λZ Z Z h=>h,λZ Z Z=>rfl,λZ Z Z=>rfl}
def iK(S:R4 t){w:Bk}(xs:-t.AR):(xs.map λx=>t.AH w.AA l x)=(xs.map<|S.e w.AA).map S.K.f:=by rw[Fy];calc FI λx Z=>S.Jq _ _ _
def o5(S:R4 t)(h:U ((.AU,.A):By×Bv)=U r)(ab:xs.Nodup)(q:∀Al,Tv (S.lt w.AA) xs Al->Q Al):(xs.map<|S.e w.AA).Nodup/\DP w ⇑t r Q (.Bo Y<|(NT S.K.lt<|xs.map<|S.e w.AA).map S.K.f) .AU:=by calc {List.Pairwise.map _ (λa b n z=>n<|S.Cj w.inj a b z) ab,?_};rw[nU<|S.HT w.AA,<-iK S (l:=.A)];calc BQ h∣.mk (q _ {gR xs,ix (S.ok w.inj) xs ab})
def o6:("sorted":Str)∈Pt/\SI "sorted"=U (.builtin "sorted")/\Tb (.builtin "sorted")=Y:={∅,rfl,rfl}
def K4(S:R4 t):I9 ⇑t ⇑t:=⟨"sorted",.builtin "sorted",o6,λZ=>U (.AU,.A),λw a Q=>(a.Nodup/\J a<64)/\∀Al,Tv (S.lt w.AA) a Al->Q Al,λ{w z r a c Q} Z h q=>by have e:=o5 S h q.1.1 q.2;show Mz z _ (T.Bo r.2.b<|c.map λx=>t.AH w.AA r.2.B2 x) _ _;rw[iK S];calc yb e.1 (by rw[Bq];calc q.1.2) e.2⟩
def Abw(K:EC)(S:R4 K.CC)(t:Az):I9 (AQ K t) ⇑K.CC:=⟨"sorted",.builtin "sorted",o6,λZ=>U (.AU,.A),λw d Q=>((d.map (·.1)).Nodup/\J d<64)/\∀Al,Tv (S.lt w.AA) (d.map (·.1)) Al->Q Al,λ{w z r a d Q} Z h q=>by have e:=o5 S h q.1.1 q.2;calc yc ?_ e.1 (by rw[Bq,Bq];calc q.1.2) e.2;rw[<-iK S (l:=.F),Fy,Fy];calc FI λx Z=>K.cj _ _⟩
def zH{K:EC}(d:-(K.CC.AR×t.AR))(x:K.CC.AR)(y:t.AR):(FD K d x y).length<=J d+1:=by
  cases d with
  |nil=>calc CE _|cons e d a=>
   show(@ite _ (x=e.1) (K.D6 x e.1) ((e.1,y)::d) (e::FD K d x y)).length<=_
   split
   ·exact Ex _
   ·calc GX a
def o7{K:EC}{w:Bk}(a:K.CC.aW=Y):∀(xs d:-(K.CC.AR×t.AR)),J d+J xs<=1000000->W3 (d.map λe=>K.aI w.AA e.1) (d.map λe=>t.AH w.AA l e.2) (xs.map λp=>(K.CC.AH w.AA l p.1,t.AH w.AA l p.2)) ((xs.foldl (λd p=>FD K d p.1 p.2) d).map λe=>K.aI w.AA e.1) ((xs.foldl (λd p=>FD K d p.1 p.2) d).map λe=>t.AH w.AA l e.2)
 |[]=>λd Z=>.nil|p::xs=>λd h=>by have b:=gY (w:=w) (f:=t.AH w.AA l) d p.1 p.2;have h:J d+J xs+1<=1000000:=h;calc .cons (K.ok _ _ _) (by rw[K.CC.Bf a,K.CC.no]) (dA _ _ _) (by rw[Bq];calc CD _ _\SK h) ?_;rw[b.1,b.2];calc o7 a xs _<|G8 (zH d p.1 p.2) _\(Hb _ _ _∣h)
def Dh(K:EC)(t:Az)(a:autoParam (K.CC.aW=Y) mAr):I9 ⇑(A0 K.CC t) (AQ K t):=⟨"dict",.type "dict",{∅,rfl,rfl},λr=>if r=(.AU,.A) then U (.AU,.A) else Ai,λZ a Q=>AP (J a)/\Q (a.foldl (λd p=>FD K d p.1 p.2) []),λ{w z r b xs Q} H h q=>aC (bf h) λe A3=>by subst e;have d:=o7 (w:=w) (l:=.A) (t:=t) a xs [] (by rw[AjA,EV];calc q.1);calc yo H.ok (o:=Y) (xs:=xs.map λp=>(A0 K.CC t).AH w.AA .A p) ?_ d<|A3∣.mk (Bc:=AQ K t) (r:=(.AU,.A)) q.2;rw[Fy];calc .bh rfl⟩
end
section
variable{w:Bk}
structure Xi(V:-Az)(Bc:Az) where
 i:Nat
 lt:i<(J V)
 Cq:Ao V->Bc.AR
 BG:Bc.AR->Ao V->Ao V
 b6:∀{Ak st Af l} {Am:B5},Cc Ak V st Af Am->st.at i=U l->HP Am i=U (Bc.AH Ak l<|Cq Af)
 CM:∀{Ak st Af l} {Am:B5} {x},Cc Ak V st Af Am->st.at i=U l->Cc Ak V st (BG x Af) (Am.set i<|U<|Bc.AH Ak l x)
def Am(i:Nat)(Cj:autoParam (i<J V) mAd):Xi V (gt V i):={i,Cj,Ao.Cq V i,Ao.BG V i,λR h=>R.b6 Cj h,λR h=>R.CM Cj h}
def g4(h:MD C i x=Y):Tt C i x:=let q:=d8 h;{q.1,q.2.1,q.2.2}
abbrev o8(y:Str)(e:A2):A2:=.Subscript (IS<|Ap e 0) (.Name y (Ap e 1).pos) e.pos
abbrev o9(e:A2):A2:=.List [] e.pos
def pa{K:EC}{st:Br}{a:Xi V (AQ K<|tL u)}{k:Xi V K.CC}(R:Cc w.AA V st Af s)(Ag:st.at a.i=U .Dd)(c:st.at k.i=U .F)(d:AP (a.Cq Af).length)(q:∀s',Cc w.AA V st (a.BG (FD K (a.Cq Af) (k.Cq Af) []) Af) s'->P s'):KI s a.i k.i P:=by have b:=gY (w:=w) (f:=(tL u).AH w.AA .F) (a.Cq Af) (k.Cq Af) [];calc .mk (a.b6 R Ag) (k.b6 R c) (K.ok _ _ _) (dA _ _ _) (by rw[Bq];calc d)<|q _ ?_;have h:=a.CM (x:=FD K (a.Cq Af) (k.Cq Af) []) R Ag;have e:(AQ K<|tL u).AH w.AA .Dd (FD K (a.Cq Af) (k.Cq Af) [])=.ab (.Dh<|(FD K (a.Cq Af) (k.Cq Af) []).map λe=>K.aI w.AA e.1) Y ((FD K (a.Cq Af) (k.Cq Af) []).map λe=>(tL u).AH w.AA .F e.2):=rfl;rw[e,<-b.1,<-b.2] at h;calc h
def AeB{K:EC}(a b:Xi V (AQ K<|tL u))(k:Xi V K.CC):BC V Bd BO where
 An s:=.Assign [.Tuple [o8 (CN<|Ap (Ap (Bh s 1) 0) 1)<|Ap (Bh s 1) 0,o8 (CN<|Ap (Ap (Bh s 1) 0) 1)<|Ap (Bh s 1) 1] (GG<|Bh s 1) (Bh s 1).pos] (.Tuple [o9<|Ap (Bh s 0) 0,o9<|Ap (Bh s 0) 1] (GG<|Bh s 0) (Bh s 0).pos) (E5 s)
 AI C s:=MD C a.i (CN<|Ap (Ap (Bh s 1) 0) 0)&&(MD C b.i (CN<|Ap (Ap (Bh s 1) 1) 0)&&MD C k.i (CN<|Ap (Ap (Bh s 1) 0) 1))
 AB _ st:=if st.at a.i=U .Dd/\st.at b.i=U .Dd/\st.at k.i=U .F then U (U st) else Ai
 wp w Af P:=AP (a.Cq Af).length/\AP (b.Cq<|a.BG (FD K (a.Cq Af) (k.Cq Af) []) Af).length/\P.av (b.BG (FD K (b.Cq<|a.BG (FD K (a.Cq Af) (k.Cq Af) []) Af) (k.Cq<|a.BG (FD K (a.Cq Af) (k.Cq Af) []) Af) [])<|a.BG (FD K (a.Cq Af) (k.Cq Af) []) Af)
 AX H s h c q:=cp h λd f g=>aC (bf c) λc e=>e∣xo (g4 d) (g4 f) (g4 g) (pa H.2 c.1 c.2.2 q.1 λa j=>pa j c.2.1 c.2.2 q.2.1 λa l=>.av rfl l q.2.2)
end
section
variable{t:Az}{w:Bk}
def J8(K:EC)(E:EB t)(d e:-(K.CC.AR×t.AR)):Bool:=decide (J d=J e)&&d.all λp=>((GL K d p.1).bind λx=>(GL K e p.1).map λy=>@decide (x=y)<|E.D6 x y).getD Ab
def Xj(ag Ly:-BE)(xs Al:-T)(k:BE):Bool:=((Mx ag xs k).bind λt=>(Mx Ly Al k).bind λu=>(FP 8 t).bind λd=>(FP 8 u).map λe=>PyData.eqv d e).getD Ab
def pb{K:EC}{d:-(K.CC.AR×t.AR)}{k:BE}(h:Mx (d.map λe=>K.aI w.AA e.1) (d.map λe=>t.AH w.AA l e.2) k=U x):∃y,x=t.AH w.AA l y:=aV h λj Z h=>ae (b0<|GK h) λe Z h=>{e.2,h.symm}
def zI{K:EC}{E:EB t}(a:E.Lb<=8)(d e:-(K.CC.AR×t.AR))(x:K.CC.AR):Xj (d.map λe=>K.aI w.AA e.1) (e.map λe=>K.aI w.AA e.1) (d.map λe=>t.AH w.AA l e.2) (e.map λe=>t.AH w.AA Dl e.2) (K.aI w.AA x)=((GL K d x).bind λz=>(GL K e x).map λy=>@decide (z=y)<|E.D6 z y).getD Ab:=by
 unfold Xj;rw[(es d x).1,(es e x).1];induction GL K d x with
 |none=>rfl|some z=>
  induction GL K e x with
  |none=>rfl|some y=>
   show((FP 8<|t.AH w.AA l z).bind λd=>(FP 8<|t.AH w.AA Dl y).map λe=>PyData.eqv d e).getD Ab=_;rw[E.ok _ _ _ _ a,E.ok _ _ _ _ a];calc E.b7
abbrev zL(K:EC)(E:EB t)(c:autoParam (E.Lb<=8) mAd)(i:∀Ak x,∃AN,K.aI Ak x=.t AN:=by intro _ _;calc {_,rfl}):La (AQ K t) (AQ K t):=⟨.Eq,λd e Q=>Q<|J8 K E d e,λ{w z l Dl m j d e Q} q=>by
 have CB:∀(d:-(K.CC.AR×t.AR)) (k:BE),k∈(d.map λe=>K.aI w.AA e.1)->∃AN,k=.t AN:=λd k h=>ae (b0 h) λe Z h=>h∣i _ _;refine xK (r:=Xj (d.map λe=>K.aI w.AA e.1) (e.map λe=>K.aI w.AA e.1) (d.map λe=>t.AH w.AA l.B2 e.2)<|e.map λe=>t.AH w.AA Dl.B2 e.2) (CB d) (CB e) (λk x y Ag g=>?_) (λk h=>?_) ?_
 ·calc ak (pb Ag) λa AW=>ak (pb g) λb A3=>?_;subst AW A3;calc {_,_,E.ok _ _ _ _ c,E.ok _ _ _ _ c,?_};unfold Xj;rw[Ag,g];show((FP 8<|t.AH w.AA l.B2 a).bind λd=>(FP 8<|t.AH w.AA Dl.B2 b).map λe=>PyData.eqv d e).getD Ab=_;rw[E.ok _ _ _ _ c,E.ok _ _ _ _ c];rfl
 ·have AW:Mx (e.map λe=>K.aI w.AA e.1) (e.map λe=>t.AH w.AA Dl.B2 e.2) k=Ai:=by unfold Mx;rw[h];rfl
  unfold Xj;rw[AW];cases Mx (d.map λe=>K.aI w.AA e.1) (d.map λe=>t.AH w.AA l.B2 e.2) k<;>rfl
 ·rw[Bq,Bq,List.all_map];have f:(Xj (d.map λe=>K.aI w.AA e.1) (e.map λe=>K.aI w.AA e.1) (d.map λe=>t.AH w.AA l.B2 e.2)<|e.map λe=>t.AH w.AA Dl.B2 e.2)∘(λe:K.CC.AR×t.AR=>K.aI w.AA e.1)=λp:K.CC.AR×t.AR=>((GL K d p.1).bind λx=>(GL K e p.1).map λy=>@decide (x=y)<|E.D6 x y).getD Ab:=funext λp=>zI c d e p.1;rw[f];calc q⟩
end
section
variable{w:Bk}
def zM:Fp (Gi o xs x)=Gi o (Fp xs) x.D5:=by
 cases o with
 |none=>calc ui xs [x]|some i=>show Fp (xs.set i x)=(Fp xs).set i x.D5;rw[dv,dv,XO]
def zN{Am:B5}(h:i<J Am):HP (Am.set i<|U x) i=U x:=by unfold HP;rw[ke h];rfl
def J9{K:EC}(a:Xi V (AQ K t))(i:Bx V K.CC)(x:Bx V t):BC V Bd BO where
 An s:=.Assign [.Subscript (IS<|Ap (Bh s 1) 0) (i.An<|Ap (Bh s 1) 1) (Bh s 1).pos] (x.An<|Bh s 0) (E5 s)
 AI C s:=!x.cm&&(x.AI C (Bh s 0)&&(MD C a.i (CN<|Ap (Bh s 1) 0)&&i.AI C (Ap (Bh s 1) 1)))
 AB _ st:=if st.at a.i=U .Dd/\(i.AB st).isSome=Y/\((x.AB st).elim Ab λr=>(tk t r.1 r.2).isSome)=Y then U (U st) else Ai
 wp w Af P:=x.wp w Af λz=>i.wp w Af λj=>AP (a.Cq Af).length/\P.av (a.BG (FD K (a.Cq Af) j z) Af)
 AX {w _ _ Af z _ _} H s h c q:=dm h λm o p u=>aC (bf c) λc e=>cT c λc b d=>bC b λh b=>c9 d λE d g=>bC g λh g=>cT (d8 p) λA B D=>e▸w2 (i:=a.i) m1 (mU ((x.B1 _).5^(EJ _∣m)) ((x.AX H _ o d q).em λy q=>⟨_,gO g,λX d=>gL (z:=z.aA X d) A B D (a.b6 H.2 c) ((i.AX (z:=z.aA X d) H.aA _ u b q).em λj q=>.Dh (K.ok _ _ _) (dA _ j<|a.Cq Af) (by rw[Bq];calc q.1) ⟨_,zN (by rw[H.2.bj];calc a.lt),.av rfl (by
  have l:=gY (w:=w) (f:=t.AH w.AA .F) (a.Cq Af) j y;rw[List.set_set];show Cc w.AA V _ _ (z.Am.set a.i<|U<|T.ab (.Dh<|Hv ((a.Cq Af).map λe=>K.aI w.AA e.1)<|K.aI w.AA j) Y<|Fp<|Gi (CK ((a.Cq Af).map λe=>K.aI w.AA e.1)<|K.aI w.AA j) ((a.Cq Af).map λe=>t.AH w.AA .F e.2)<|t.AH w.AA h y);rw[zM,dz,t.Dx,l.1,l.2];calc(a.CM H.2 c)) q.2⟩)⟩))
def AeC(i:Nat)(a:KO V u)(Cj:autoParam (i<J V) mAd)(b:autoParam (gt V i=tL u) mAr):BC V Bd BO where
 An s:=.Assign [.Name (CN<|Bh s 1) (Bh s 1).pos] (a.x.An<|Bh s 0) (E5 s)
 AI C s:=HA C i (CN<|Bh s 1)&&a.x.AI C (Bh s 0)
 AB _ st:=if QT st=st/\(a.x.AB st).any (λr=>decide<|r.1=.AU)=Y then U (U<|st.C7 i<|U .F) else Ai
 wp w Af P:=a.x.wp w Af λx=>P.av (Ao.BG V i (b▸x) Af)
 AX {w st _ _ z _ _} H s h c q:=a3 h λf g=>aC (bf c) λc e=>by
  cases d:a.x.AB _ with
  |none=>rw[d] at c;calc nomatch c.2|some r=>calc e▸IM.Bi (ck f) ((a.oL H _ g d q).aq λt a k=>k.rec λ{x} q=>⟨Y,_,.Gz,.av rfl (by
    rw[(tL u).Dx];exact Cc.BG (c.1∣H.2.CT) Cj λl e=>by cases e;rw[<-iS b]) q⟩)
end
section
variable{BO:Bv}
def zP{b:Nat}(d:b<100):Builtin.divisionGoesByPylong (a:Int) (b:Int)=Ab:=by
 have f:b.log2<7\/b=0:=(Nat.eq_zero_or_pos b).symm.imp_left λh=>(Nat.log2_lt<|Ha h).mpr<|Cw d ∅;have g:(if((b:Int)==0)=Y then 0 else(b:Int).natAbs.log2/30+1)<=1:=by
  split
  ·exact C9 _
  ·rename_i c;rw[Int.natAbs_natCast,Vs<|DQ (f.resolve_right λe=>c (by rw[e];rfl)) ∅];exact CE _
 show(decide ((if((b:Int)==0)=Y then 0 else(b:Int).natAbs.log2/30+1)>300)&&_)=Ab;rw[decide_eq_false<|bz<|g\∅];rfl
abbrev zQ:PG O O O:=KW .Mod (λZ b=>0<b) (·%·) λ{Z a b _ _ _} h q=>uw (AjB.mpr<|Ha h)<|(Int.fmod_eq_emod_of_nonneg (a:Int) (Hr b)^(Int.natCast_emod a b).symm)⊂q
abbrev zR:PG O O O:=KW .FloorDiv (λZ b=>0<b/\b<100) (·/·) λ{Z a b _ _ _} h q=>uv (AjB.mpr<|Ha h.1) (zP h.2)<|(Ajt (a:Int) (Hr b)^(Ajv a b).symm)⊂q
abbrev Oa:PG O O O:=KW .Mult (λa b=>(decide (Builtin.Int.intBits (a:Int)<=64)||decide (Builtin.Int.intBits (b:Int)<=64))=Y) (·*·) λ{Z a b _ _ _} h q=>uu ((cW h).imp aL aL)<|Ajw a b∣q
def zS(x:Int):(if x<0 then Neg.neg x else x)=(x.natAbs:Int):=(AjC<|x<0).elim (λh=>ao h^(Int.ofNat_natAbs_of_nonpos<|Int.le_of_lt h).symm) λh=>ai h^(Int.natAbs_of_nonneg<|Rf.mp h).symm
abbrev zT:I9 EZ EZ:={"int",_,{∅,rfl,rfl},λZ=>U (.AU,.F),λZ x Q=>Q x,λZ e q=>u5<|BQ e∣.mk q}
abbrev zW:I9 Aj O:=⟨"int",_,{∅,rfl,rfl},λZ=>U (.AU,.F),λZ x Q=>Q<|if x=Y then 1 else 0,λ{w z r a x Q} Z e q=>u6 (by
 induction x<;>calc BQ e∣.mk q)⟩
abbrev zX:I9 EZ O:=⟨"abs",_,{∅,rfl,rfl},λZ=>U (.AU,.F),λZ x Q=>Q x.natAbs,λ{w z r a x Q} Z e q=>u7 (by
 rw[zS x];calc BQ e∣.mk q)⟩
def Abx(a:Bx V t)(b:Bx V u):Bx V (A0 t u) where
 An e:=.Tuple [a.An<|Ap e 0,b.An<|Ap e 1] (GG e) e.pos
 pl:=Y
 cm:=Ab
 nb:=Ab
 AI C e:=a.AI C (Ap e 0)&&b.AI C (Ap e 1)
 AB st:=if(a.AB st).isSome&&(b.AB st).isSome then U (.aM,.F) else Ai
 wp w Af Q:=a.wp w Af λx=>b.wp w Af λy=>Q (x,y)
 B1 _:={rfl,rfl,rfl,rfl,rfl,rfl}
 AX {w _ _ _ _ _} H e h c q:=a3 h λd f=>aC (bf c) λc e=>bC (aD c).1 λj g=>bC (aD c).2 λc i=>e▸eR (c7 (a.B1 _).1 ((a.AX H _ d g q).em λx q=>⟨_,.Gz,c7 (b.B1 _).1 ((b.AX H _ f i q).em λy q=>⟨_,.Gz,dQ ⟨rfl,by
  rw[t.Dx,u.Dx];calc .mk (Bc:=A0 t u) (r:=(.aM,.F)) (v:=(x,y)) q⟩⟩)⟩))
end
abbrev Ng:Az:=RU Unit () (λZ Z=>.QE) λZ Z=>{rfl,rfl,rfl}
section
variable{BO:Bv}
def en(h:i<2):i=0\/i=1:=(fA h).imp_left λh=>Nat.eq_zero_of_le_zero<|Mm h
def K5(i:Nat)(Cj:autoParam (i<2) mAd):TF Ng (W9 i) O:={λZ Z Q=>∀n,Q n,λZ=>.F,λa q=>u0 a ((en Cj).imp (ah Hc)<|ah Hc) λn=>.mk<|q n}
def Ob(i j:Nat)(a:Bx V O)(Cj:autoParam (i<J V) mAd)(b:autoParam (j<2) mAd)(d:autoParam (gt V i=Ng) mAr):BC V Bd BO where
 An s:=.Assign [.Subscript (.Name (CN<|Ap (Bh s 1) 0) (Ap (Bh s 1) 0).pos) (.Constant (.int j) (GG<|Ap (Bh s 1) 1) (Ap (Bh s 1) 1).pos) (Bh s 1).pos] (a.An<|Bh s 0) (E5 s)
 AI C s:=!a.cm&&(a.AI C (Bh s 0)&&MD C i (CN<|Ap (Bh s 1) 0))
 AB _ st:=if(st.at i).isSome=Y/\(a.AB st).isSome=Y then U (U st) else Ai
 wp w Af P:=a.wp w Af λZ=>P.av Af
 AX {w _ _ Af z _ _} H s h c q:=cp h λf g m=>aC (bf c) λc e=>bC c.1 λl o=>bC c.2 λr p=>e▸xu (g4 m) (by
  rw[H.2.b6 Cj o];generalize Ao.Cq V i Af=y;revert y;rw[d];calcλZ=>rfl) (en b) ((a.B1 _).5^(EJ _∣f)) ((a.AX H _ g p q).em λn q=>{n,rfl,.av rfl H.2 q})
end
def g5{Ak:EA}{l:Bv}{u:Az}(a:u.aW=Y):∀Al:List u.AR,GZ (Al.map λy=>u.AH Ak l y)=Y
 |[]=>rfl|y::Al=>bc {(cQ a).1,g5 a Al}
def zK{α β:Type}{xs:-α}{j:Nat}{x:α}(h:xs[j]?=U x)(p:α->Bool)(G:α->↑β):((xs.take<|j+1).filter p).flatMap G=((xs.take j).filter p).flatMap G++if p x=Y then G x else []:=by
 rw[Vz,h,LZ,tE];calc ah (_++·) ?_;by_cases c:p x=Y;·rw[ao c,show(U x).toList=[x] from rfl,Rn c];exact Ct _
 ·rw[ai c,show(U x).toList=[x] from rfl,SY c];rfl
def zZ{α β:Type}{xs:-α}{j:Nat}{p:α->Bool}{G:α->↑β}:(((xs.take j).filter p).flatMap G).length<=((xs.filter p).flatMap G).length:=by have e:=ah (λl=>((l.filter p).flatMap G).length)<|ky j xs;rw[<-e,LZ,tE,BD];calc CD _ _
def zY{α:Type}{xs:-α}{m:Nat}{x:α}(h:xs[m]?=U x):xs.take (m+1)=xs.take m++[x]:=Vz^ah (λo=>xs.take m++Option.toList o) h
section
variable{V:-Az}{t u v Bc Bd:Az}{w:Bk}{st:Br}{Af:Ao V}{z:A5}{k:Nat}
def zU{s2:Gm V (gt V k)}{a:Bx V u}{i:By×Bv}{Al:↑(gt V k).AR}{f:(gt V k).AR->u.AR}{A:List u.AR}{d A3 target iter:A2}{ifs:-A2}{x:Str}{p pos:Pos}{S:Dz}{D:As}(H:In w V st Af z)(Ax:k<J V)(g:Lw z.V.C k x)(j:z.V.C.BN.names.lookup x=U .local)(r:z.Am[k]?=U Ai)(hs:s2.AI z.V.C A3=Y)(b:(!s2.MF)=Y)(CH:s2.AB Ab st=Y)(s:a.AI z.V.C d=Y)(B:a.AB (st.C7 k<|U .F)=U i)(c:u.aW=Y)
  (q:s2.wp w Af λl=>l=Al/\∀y∈l,a.wp w (Ao.BG V k y Af) λz=>z=f y)(E:J A+J Al<=1000000):Kw z D Ab [k] (Jk (a.An d) target iter ifs (.Name x p) (s2.An A3) [] S pos<|.ref D) (A.map λy=>u.AH w.AA .A y) λay=>ay=(A++Al.map f).map λy=>u.AH w.AA .A y:=by
 clear V u w st z k i d A3 _ target iter ifs x p pos S D _ Af Al f A _ s2 a H Ax g j r hs b CH s B c q E;refine wu (s2.BG _) (g5 c A) (λm h=>(aF h).symm∣r) (λm h y e=>by rw[aF h] at e;calc BQ (BQ<|g.1.symm^e)∣j)<|(s2.AX H Ab _ _ hs (λZ=>{_,_,rfl}) (λq=>by rw[q] at b;delta b) CH q).aq λBW P=>P.rec λ{l} q=>{λm a=>a=(A++(Al.take m).map f).map λy=>u.AH w.AA .A y,(ah (Hs _) (Ct A).symm),λX Bj m t1 ay b e=>bT (Gw.symm.trans b) λy G L=>?_,λay e=>?_}
 ·have I:=q.1▸G;have M:=H.2.BG Ax (o:=U .F) (x:=U<|(gt V k).AH w.AA .F y) (v:=y) λl e=>by delta e;rfl
  calc L∣{_,lI g,λN=>.inl {rfl,show Fs ay=Y/\_ from {e▸AP.bw ?_,(a.AX (z:=(z.aA X Bj).ax _ N) (H.aA.ax M) _ s B<|q.2 y<|GK G).em λQ I=>{_,dB<|ao c,?_}}}};·show(A++(Al.take m).map f).length<=1000000;rw[BD,Bq,WA];exact Du (Vb _ _) _\E
  ·show ay++[_]=(A++(Al.take<|m+1).map f).map _;rw[zY ‹_›,Ee (f:=f),<-Dr,Ee,e,I];rfl
 ·rw[Bq,q.1,VA] at e;calc {e⊂g5 c _,e}
def Oc(BB:-Az)(i j k:Nat)(s:Gm V t)(c:GH (V++BB))(s2:Gm (V++BB) v)(b:Bx (V++BB) u)(C:Ea)(e:A2):Bool:=
 let Eh:=[CN<|Ap (Ap e 1) 0,CN<|Ap (Ap e 1) 1,CN<|Ap e 4]
 let a:=PB C (L4 e) Eh
 decide (J C.Aq=J V/\BB.length=3/\J V=i/\j=i+1/\k=i+2)&&(JX C (L4 e) Eh&&(s.AI C (Ap e 2)&&(!s.Nc&&(HA a i (CN<|Ap (Ap e 1) 0)&&(HA a j (CN<|Ap (Ap e 1) 1)&&(c.AI a (Ap e 3)&&(HA a k (CN<|Ap e 4)&&(!s2.MF&&(s2.AI a (Ap e 5)&&b.AI a (Ap e 0))))))))))
abbrev Xk(V:-Az)(st:Br)(i j:Nat):Br:=((HB (J V) st).C7 i<|U .F).C7 j<|U .F
abbrev Od{V BB:-Az}(Af:Ao V)(i j:Nat)(x:(A0 (gt (V++BB) i)<|gt (V++BB) j).AR):Ao (V++BB):=Ao.BG (V++BB) j x.2<|Ao.BG (V++BB) i x.1<|Ao.DL V Af<|Ao.C2 BB
abbrev pd(V BB:-Az)(i j k:Nat)(s:Gm V (A0 (gt (V++BB) i)<|gt (V++BB) j))(c:GH (V++BB))(s2:Gm (V++BB) (gt (V++BB) k))(a:Bx (V++BB) u)(w:Bk)(Af:Ao V)(Q:List u.AR->Prop)(xs:↑(A0 (gt (V++BB) i)<|gt (V++BB) j).AR):Prop:=∃(p:(A0 (gt (V++BB) i)<|gt (V++BB) j).AR->Bool) (Al:(A0 (gt (V++BB) i)<|gt (V++BB) j).AR->↑(gt (V++BB) k).AR) (f:(A0 (gt (V++BB) i)<|gt (V++BB) j).AR->(gt (V++BB) k).AR->u.AR),AP ((xs.filter p).flatMap λx=>(Al x).map<|f x).length/\(∀x∈xs,c.wp w (Od Af i j x) (λb=>b=p x)/\(p x=Y->s2.wp w (Od Af i j x) λl=>l=Al x/\∀y∈l,a.wp w (Ao.BG (V++BB) k y<|Od Af i j x) λz=>z=f x y))/\Q ((xs.filter p).flatMap λx=>(Al x).map<|f x)
def zV{BB:-Az}{i j k:Nat}{s:Gm V (A0 (gt (V++BB) i)<|gt (V++BB) j)}{c:GH (V++BB)}{s2:Gm (V++BB) (gt (V++BB) k)}{g:Bx (V++BB) u}{S:By×Bv}{Q:List u.AR->Prop}(H:In w V st Af z)(e:A2)(h:Oc BB i j k s c s2 g z.V.C e=Y)(W:u.aW=Y)(DT:s.AB Ab st=Y)(DW:c.AB (Xk V st i j)=Y)(CH:s2.AB Ab (Xk V st i j)=Y)(X:g.AB ((Xk V st i j).C7 k<|U .F)=U S)(q:s.wp w Af (pd V BB i j k s c s2 g w Af Q)):
  IM z (DP w (tL u) (.AU,.A) Q) (.ListComp (g.An<|Ap e 0) [{Y6<|Ap e 1,s.An<|Ap e 2,[c.An<|Ap e 3],0},{IS<|Ap e 4,s2.An<|Ap e 5,[],0}] (L4 e) e.pos):=by
 clear V u w st z BB _ i j k S e _ Af Q _ s c s2 g H h W DT DW CH X q;exact zg h λI Ag KN RI Pz Tj zJ pe V4 zO Jt=>aC (aL I) λAW I=>eH I λA3 DU YA z0=>by
  subst YA;subst z0;have ok:=iN Ag;have r:∀{m},m<3->z.V.C.Aq.length<=i+m/\i+m<z.V.C.Aq.length+3:=λ{m} h=>by rw[AW,DU];exact {CD _ _,Lq h _}
  have L:∀{m},m<3->i+m<(V++BB).length:=λ{m} h=>by rw[BD,A3,DU];exact Lq h _
  refine .mk ok (s.BG _)<|mx (b:=Ab) (idx:=[i,i+1]) (AV:=[i+2]) ok (H.2.bj^AW.symm) rfl (b9 {r (m:=0) ∅,b9 {r ∅,b9 {r ∅,λZ h=>ar h CR}}}) (λZ=>wm) ((s.AX H Ab _ _ KN (λq=>by rw[q] at RI;delta RI) (λZ=>{_,_,_,rfl}) DT q).aq λBW P=>P.rec λ{xs} q=>dV q λp Al f Tg hm q=>{λn a=>a=((((xs.take n).filter p).flatMap λx=>(Al x).map<|f x).map λy=>u.AH w.AA .A y),rfl,λM d D n T0 ay MC B=>bT (Gw.symm.trans MC) λx RQ z1=>?_,λay B=>?_})
  ·have pf:=hm x<|GK RQ;have N:In w (V++BB) (HB (J V) st) (Ao.DL V Af<|Ao.C2 BB) M:={{d.1^H.1.1,d.3^H.1.2,H.1.3},d.4▸rwr (show CV 3 (Ai:↥T)=CV BB.length Ai by rw[A3]) H.2.DL}
   have z2:M.Am[i+2]?=U Ai:=d.4⊂mw H.2.bj (AW▸r (m:=2) ∅);have KH:∀{a b:↥T},((M.Am.set i a).set (i+1) b)[i+2]?=U Ai:=SN (EX<|EM<|i+1)^(SN<|EX<|Pm (by decide:0<2)).trans z2;have WQ:=(N.2.BG (L (m:=0) ∅) (o:=U .F) (x:=U<|(gt (V++BB) i).AH w.AA .F x.1) (v:=x.1) λl e=>by delta e;rfl).BG (L (m:=1) ∅) (o:=U .F) (x:=U<|(gt (V++BB)<|i+1).AH w.AA .F x.2) (v:=x.2) λl e=>by delta e;rfl
   calc z1∣{_,lM [(i,CN<|Ap (Ap e 1) 0),(i+1,CN<|Ap (Ap e 1) 1)] (.cons<|.cons .nil) (cw {λz=>(EX<|EM i)<|aF z,cw {CR,.nil}}) (b9 {ck<|d.2▸Pz,b9 {ck<|d.2▸Tj,λZ h=>ar h CR}}) rfl,λm h=>(aF h).symm▸KH,λJK=>?_};calc RM.aq (.inr {_,rfl,(c.AX (N.ax WQ (q:=JK)) _ (d.2⊂zJ) DW pf.1).2}) λAkw eq=>?_;have E:=zK RQ p λx=>(Al x).map<|f x;have le:=zZ (xs:=xs) (j:=n+1) (p:=p) (G:=λx=>(Al x).map<|f x);rw[eq];by_cases R:p x=Y
   ·rw[ao R] at E⊢;rw[E,BD,Bq] at le;subst B;show Kw _ D Ab _ _ _ λa=>a=Hs _ (List.flatMap (λx=>(Al x).map<|f x)<|SU p<|List.take (n+1) xs);rw[E];exact zU (N.ax WQ) (L ∅) (ck<|d.2⊂pe) (d.2⊂mv ok (r ∅).1 (ck pe).1) KH (d.2⊂zO) V4 CH (d.2⊂Jt) X W (pf.2 R)<|le\Tg
   ·rw[ai R] at E⊢;exact B^ah _ ((E.trans<|Ct _).symm)
  ·rw[Bq,VA] at B;calc B⊂.mk q
def AeD(BB:-Az)(i j k:Nat)(s:Gm V (A0 (gt (V++BB) i)<|gt (V++BB) j))(c:GH (V++BB))(s2:Gm (V++BB) (gt (V++BB) k))(a:Bx (V++BB) u)(d:autoParam (u.aW=Y) mAr):KO V u:=
 have key:∀{w:Bk} {st:Br} {Af:Ao V} {z:A5} {r Q},In w V st Af z->∀e,Oc BB i j k s c s2 a z.V.C e=Y->(if(s.AB Ab st=Y/\c.AB (Xk V st i j)=Y)/\s2.AB Ab (Xk V st i j)=Y/\(a.AB<|(Xk V st i j).C7 k<|U .F).isSome=Y then U ((.AU,.A):By×Bv) else Ai)=U r->s.wp w Af (pd V BB i j k s c s2 a w Af Q)->IM z (DP w (tL u) r Q) (.ListComp (a.An<|Ap e 0) [{Y6<|Ap e 1,s.An<|Ap e 2,[c.An<|Ap e 3],0},{IS<|Ap e 4,s2.An<|Ap e 5,[],0}] (L4 e) e.pos):=λH e h k q=>aC (bf k) λk a=>aC k.2 λc b=>bC b λf b=>a∣zV H e h d k.1.1 k.1.2 c b q
 {{λe=>.ListComp (a.An<|Ap e 0) [{Y6<|Ap e 1,s.An<|Ap e 2,[c.An<|Ap e 3],0},{IS<|Ap e 4,s2.An<|Ap e 5,[],0}] (L4 e) e.pos,Y,Y,Ab,Oc BB i j k s c s2 a,_,_,λZ=>{rfl,rfl,rfl,rfl,rfl,rfl},λH e h k q=>(key H e h k q).d7},key}
end
section
variable{c:Bv}
def AeE(a:Bx V Ac):BC V (BU t) BO where
 An s:=s
 AI _ _:=Ab
 AB _ st:=(a.AB st).map λZ=>Ai
 wp w Af P:=a.wp w Af λi=>(w.AA i).length<=1000/\P.bW Ai
 AX _ _ h:=br h
def Oe(b:Au (as++ls) Bd c)(r:By×Bv)(a:NK V as):Bx V Bd where
 An e:=.Call (.Name "_law_or_none" (Ap e 0).pos) [Ap e 1] [] e.pos
 pl:=Y
 cm:=Ab
 nb:=Ab
 AI _ _:=Ab
 AB st:=if a.AB st=Y then U r else Ai
 wp w Af Q:=a.wp w Af λa=>∃k,w.d=AS k+4/\b.wp (w^^k) (Ao.DL as a<|Ao.C2 ls) (Cp Q)
 B1 _:={rfl,rfl,rfl,rfl,rfl,rfl}
 AX _ _ h:=br h
end
def Of:Ci [O,O,(Ar O),EZ] Cb:={1,(.AU,.A)}
def Aby:Ci [O,O,(Ar O),EZ,ER,O,O] Cb:={2,(.AU,.A)}
def Uc:Ci [⇑Ac,O,⇑Cb,(AQ A7 O),ER,O] A1:={3,(.aM,.F)}
def Ud:Ci [O] ⇑O:={0,(.AU,.A)}
def MM:Ci [A1] O:={4,(.AU,.F)}
def R5:Ci [A1,O] Aj:={5,(.AU,.F)}
def Nh:Ci [A1,Ac] EZ:={6,(.AU,.F)}
def Og:Ci [A1,O] ⇑O:={7,(.AU,.A)}
def Oh:Ci [(Ar O),O] EZ:={8,(.AU,.F)}
def K6:Ci [⇑(A0 Ac ⇑Ac)] A1:={9,(.aM,.F)}
def Ue:Ci [A1,⇑Aj,⇑Aj] A1:={10,(.aM,.F)}
def Ug:Ci [A1,⇑Aj] ⇑Aj:={11,(.AU,.A)}
def R6:Ci [A1] ⇑Aj:={12,(.AU,.A)}
def K7:Ci [A1] ⇑Aj:={13,(.AU,.A)}
def K8:Ci [(Ar O),⇑Aj,⇑O] (A0 O Aj):={14,(.AU,.F)}
def K9:Ci [A1] ⇑O:={15,(.AU,.A)}
def Uh:Ci [A1] ⇑O:={16,(.AU,.A)}
def Za:Ci [A1,⇑Aj] ⇑Aj:={17,(.AU,.A)}
def Oi:Ci [A1] ⇑Aj:={18,(.AU,.A)}
def Zb:Ci [A1] ⇑Aj:={19,(.AU,.A)}
def Ui:Ci [A1] (DN ⇑Ac ⇑Ac ⇑O):={20,(.aM,.F)}
def Oj:Ci [A1] Aj:={22,(.AU,.F)}
def Ol:Ci [⇑O] ⇑O:={23,(.AU,.A)}
def Uj:Ci [A1,⇑O] ⇑O:={24,(.AU,.A)}
def Om:Ci [A1] ⇑O:={25,(.AU,.A)}
def Oo:Ci [A1] ⇑O:={26,(.AU,.A)}
def Oq:Ci [(Ar O),⇑(BU<|Ar O)] (BU<|Ar O):={27,(.AU,.F)}
def Ot:Ci [⇑O,⇑(BU<|Ar O)] (BU<|Ar O):={27,(.AU,.F)}
def Uk:Ci [A1] ⇑(BU<|Ar O):={28,(.AU,.A)}
def Ou:Ci [A1,⇑O] (BU<|Ar O):={29,(.AU,.F)}
def TR:Ci [A1] (AQ (Ds AZ AZ) ⇑O):={30,(.AU,.A)}
def TS:Ci [(AQ (Ds AZ AZ) ⇑O)] ⇑(DN O O ⇑O):={31,(.aM,.F)}
def Ul:Ci [A1] ⇑(DN O O ⇑O):={32,(.aM,.F)}
def Zc:Ci [A1] Aj:={33,(.AU,.F)}
def Um:Ci [A1,(AQ (Ds AZ AZ) ⇑O),⇑O] (A0 Aj EF):={34,(.aM,.F)}
def Zd:Ci [⇑(AQ (C3 AZ) Aj),O] (AQ (C3 AZ) Aj):={36,(.AU,.A)}
def Ov:Ci [A1,O] ⇑(AQ (C3 AZ) Aj):={37,(.AU,.A)}
def Xl:Ci [A1,O] ⇑(Ar O):={38,(.AU,.A)}
def Ze:Ci [⇑(A0 Ac<|Ar Ac)] (AQ A7 ⇑(A0 O<|Ar Ac)):={43,(.AU,.A)}
def Un:Ci [(AQ A7 ⇑(A0 O<|Ar Ac)),(Ar Ac),Aj,(Ar Ac)] Aj:={44,(.AU,.F)}
def NJ:Ci [(AQ A7 ⇑(A0 O<|Ar Ac)),Ac,Aj,(Ar Ac)] Aj:={45,(.AU,.F)}
def Xm:Ci [(AQ A7 Aj),(Ar Ac)] Aj:={46,(.AU,.F)}
def QK:Ci [(AQ A7 ⇑(A0 O<|Ar Ac)),(AQ A7 Aj),(Ar Ac),(Ar Ac)] ⇑Ac:={47,(.AU,.A)}
def Uo:Ci [(AQ A7 ⇑Ac),(AQ A7 Aj),(Ar Ac)] ⇑Ac:={48,(.AU,.A)}
def Ow:Ci [⇑(A0 Ac<|Ar Ac),(AQ A7 ⇑Ac),(AQ A7 Aj),Ac] ⇑Ac:={49,(.AU,.A)}
def Zf:Ci [⇑Ac] ⇑Ac:={50,(.AU,.A)}
def Ox:Ci [(Ar Ac)] ⇑Ac:={50,(.AU,.A)}
def Up:Ci [A1,O] ⇑Ac:={51,(.AU,.A)}
def Uq:Ci [A1,⇑(A0 Ac<|Ar Ac),(AQ A7 ⇑(A0 O<|Ar Ac)),(AQ A7 Aj)] Aj:={52,(.AU,.F)}
def Oy:Ci [(AQ A7 ⇑Ac),Ac] Aj:={53,(.AU,.F)}
def Ur:Ci [A1,(AQ A7 ⇑(A0 O<|Ar Ac)),(AQ A7 Aj)] Aj:={54,(.AU,.F)}
def Zg:Ci [(AQ A7 ⇑(A0 O<|Ar Ac)),(AQ A7 Aj)] ⇑Ac:={55,(.AU,.A)}
def Zh:Ci [A1] ⇑(A0 Ac<|Ar Ac):={56,(.AU,.A)}
def Us:Ci [A1,⇑(A0 Ac<|Ar Ac),(AQ A7 ⇑(A0 O<|Ar Ac)),(AQ A7 Aj),(BU A1)] Aj:={57,(.AU,.F)}
def Oz:Ci [(AQ A7 ⇑(A0 O<|Ar Ac)),(AQ (CH DE AZ AZ) Aj),(Ar Ac),O,(Ar Ac)] ⇑O:={58,(.AU,.A)}
def Ut:Ci [(AQ A7 ⇑(A0 O<|Ar Ac)),(Ar Ac)] (AQ (CH DE AZ AZ) Aj):={59,(.AU,.A)}
def Uu:Ci [A1,(AQ A7 ⇑(A0 O<|Ar Ac)),(AQ A7 Aj),⇑(Ar Ac),(AQ (C3 DE)<|AQ (CH DE AZ AZ) Aj)] Aj:={60,(.AU,.F)}
def OA:Ci [A1,⇑(Ar Ac),(Ar Ac)] Aj:={61,(.AU,.F)}
def Uv:Ci [A1,⇑O] (A0 Aj EF):={35,(.aM,.F)}
def Uw:Ci [⇑EZ] ⇑O:={39,(.AU,.A)}
def R7:Ci [Ng,O] O:={40,(.AU,.F)}
def R8:Ci [Ng,⇑Ac] Ac:={41,(.AU,.F)}
def Zi:Ci [Ng] ⇑(A0 Ac<|Ar Ac):={42,(.AU,.A)}
section
local macro_rules
  | `($a :: $b) => `(sq $a $b)
abbrev Xn:-Az:=[O,⇑O,O,O]
def AeF:Au Xn ⇑O .A:=Bi 3 (BJ JI (v 3)<|n 1)::Bi 2 (BJ FW (v 2)<|n 1)::af
def Abz:Au Xn ⇑O .A:=B8 (Bg (RJ 1) (BJ JH (v 3)<|n 1)<|k 1) (E6 (Dp 1) (v 2)::af) af::AeF
def AeG:BC Xn ⇑O .A:=LD [Y,Y,Y,Y] (Bg YV (v 3)<|n 0) Abz
def AeH:Au Xn ⇑O .A:=Bi 3 (v 0)::AeG::F7 1::af
def AeI:Au Xn ⇑O .A:=Bi 1 (C4 O)::Bi 2 (n 0)::AeH
abbrev z3:-Az:=[A1]
def AeL:Au z3 O .A:=BS (Cd (G2 Ac)<|Bw FZ<|v 0)::af
abbrev z4:-Az:=[A1,O]
def AeM:Au z4 Aj .A:=BS (Fi<|Bg bR (v 1)<|Bw TQ<|v 0)::af
abbrev z5:-Az:=[A1,Ac]
def AeN:Au z5 EZ .A:=BS (PH (Bg (GI Ck) (v 1)<|Bw FZ<|v 0) (EE J2<|K3 (Bw FZ<|v 0)<|v 1) Abu)::af
abbrev z6:-Az:=[A1,O]
def AeP:Au z6 ⇑O .A:=BS (Cd (K2 O)<|A6 (BR ⇑O) (Bw Aeu<|v 0)<|v 1)::af
abbrev Ux:-Az:=[(Ar O),O,EZ,O]
def AeQ:Au Ux EZ .A:=B8 (Bg bR (v 3)<|v 1) (Bi 2 (EE J2<|v 3)::af) af::af
def AbA:BC Ux EZ .A:=Ca [Y,Y,Y,Ab] (BF 3) (Fj<|v 0) AeQ
def AeR:Au Ux EZ .A:=Bi 2 Abu::AbA::F7 2::af
abbrev Hk:-Az:=[⇑(A0 Ac ⇑Ac),(BU Ac),⇑Ac,Ac,⇑Ac,Ac,⇑Ac,Ac,O,⇑Cb,(Ar O)]
def Zj:Au Hk A1 .F:=B8 (Bg (Gk (GI Ck) rfl) (v 3)<|v 2) (E6 (Dp 2) (v 3)::af) af::af
def OB:Au Hk A1 .F:=B8 (DI<|CG .Or (Bg (FT Ck) (v 3)<|B3 "error")<|Cf .Or<|Bg (YJ JD) (Aex (v 3) 1)<|Gl<|A4 (WV "")<|A4 (WV "$")<|Ag<|WV "'") (K1::af) af::Zj
def AbB:BC Hk A1 .F:=Ca [Y,Y,Y,Ab,Ab,Ab,Ab,Ab,Ab,Ab,Ab] (Ih 3 4) (CP<|v 0) OB
def OC:Au Hk A1 .F:=B8 (DI<|CG .And (Bg (Gk (GI Ck) rfl) (v 7)<|v 2)<|Cf .And<|Bg (Gk (GI Ck) rfl) (v 7)<|v 6) (E6 (Dp 6) (v 7)::af) af::af
def AbC:BC Hk A1 .F:=Ca [Y,Y,Y,Y,Y,Y,Y,Ab,Ab,Ab,Ab] (BF 7) (CP<|v 4) OC
def OD:Au Hk A1 .F:=CT 4 (AbC::af)
def AbD:BC Hk A1 .F:=Ca [Y,Y,Y,Ab,Ab,Y,Y,Ab,Ab,Ab,Ab] (Ih 3 4) (CP<|v 0) OD
def AeS:Au Hk A1 .F:=E6 (Dp 9) (Bs Of (Cd (G2 Cb)<|v 9)<|Bb (K3 (v 6)<|v 3)<|Bb (v 10)<|Bb (Bs Oh (v 10)<|Bb (v 8) Be) Be)::af
def OE:Au Hk A1 .F:=Bi 10 (Cd (PS O) (CQ (V:=Hk) [Ac] (BF 11) (CP<|v 4) D7<|K3 (v 6)<|v 11).x)::AeS
def AbE:BC Hk A1 .F:=Ca [Y,Y,Y,Ab,Ab,Y,Y,Ab,Y,Y,Ab] (Ih 3 4) (CP<|v 0) OE
def AeT:Au Hk A1 .F:=BS (Bs Uc (v 6)<|Bb (v 8)<|Bb (v 9)<|Bb (NZ A7 O)<|Bb zG<|Bb (K3 (v 6)<|v 5) Be)::af
def OF:Au Hk A1 .F:=Bi 9 (Bo<|Ag<|Bs Of (n 0)<|Bb (v 8)<|Bb (Gl<|A4 (K3 (v 6)<|v 5)<|Ag JQ)<|Bb (EE J2 JQ) Be)::CT 0 (AbE::AeT)
def AbF:Au Hk A1 .F:=Bi 6 (BJ (F5 Ac) (BJ (F5 Ac) (v 6)<|Bo<|Ag<|B3 "$accept")<|v 2)::OF
def AbG:Au Hk A1 .F:=Bi 8 (Cd (G2 Ac)<|v 6)::AbF
def AeW:Au Hk A1 .F:=Bi 6 (Cd (Y8 Ac) zr)::CT 0 (AbD::AbG)
def AbH:Au Hk A1 .F:=B8 (Bg (Gk (GI Ck) rfl) (v 5)<|v 2) (K1::af) af::AeW
def AbI:Au Hk A1 .F:=Bi 5 (PH (DI<|CG .Or (TG (t:=Ac) (λZ Z Z=>rfl)<|v 1)<|Cf .Or<|Bg (FT<|CZ Ck) (v 2)<|C4 Ac) (EE (IT Ac)<|v 1)<|A6 (BR Ac) (v 2)<|n 0)::AbH
def AeX:Au Hk A1 .F:=Bi 2 (C4 Ac)::CT 0 (AbB::AbI)
abbrev L8:-Az:=[A1,⇑Aj,⇑Aj,⇑O,⇑Ac,O,⇑Cb,Cb,(Ar O),O]
def AeK:Au L8 A1 .F:=B8 (DI<|CG .Or (Bg ow (v 5)<|Bw TQ<|v 0)<|Cf .Or<|CI<|A6 (BR Aj) (v 1)<|v 5) (E6 (Dp 4) (A6 (BR Ac) (Bw FZ<|v 0)<|v 5)::af) af::af
def OG:Au L8 A1 .F:=E6 (Dp 3) (Cd (G2 Ac)<|v 4)::AeK
def AbL:BC L8 A1 .F:=Ca [Y,Y,Y,Y,Y,Ab,Ab,Ab,Ab,Ab] (BF 5) (Nd<|F6 MM "symbol_count" (bF ∅) (v 0) Be) OG
def AeZ:Au L8 A1 .F:=E6 (Dp 6) (Bs Aby (Cd (G2 Cb)<|v 6)<|Bb (v 9)<|Bb (v 8)<|Bb (Bw Aeo<|v 7)<|Bb (Bw Aep<|v 7)<|Bb (Bw Aeq<|v 7)<|Bb (Bw Aer<|v 7) Be)::af
def AeY:Au L8 A1 .F:=Bi 9 (A6 (BR O) (v 3)<|Bw FF<|v 7)::AeZ
def OH:Au L8 A1 .F:=B8 (DI<|CG .Or (Bg (RJ 0) (Bw PT<|v 7)<|k 0)<|Cf .Or<|CI<|A6 (BR Aj) (v 2)<|Bw PT<|v 7) (Bi 8 (Cd (PS O) (CQ (V:=L8) [O] (BF 10) (Fj<|Bw Le<|v 7) D7<|A6 (BR O) (v 3)<|v 10).x)::AeY) af::af
def AbM:BC L8 A1 .F:=Ca [Y,Y,Y,Y,Y,Ab,Y,Ab,Ab,Ab] (BF 7) (CP<|Bw HK<|v 0) OH
def AeU:Au L8 A1 .F:=BS (Bs Uc (v 4)<|Bb (Bw TQ<|v 0)<|Bb (v 6)<|Bb (Bw Aes<|v 0)<|Bb (Bw Aet<|v 0)<|Bb (A6 (BR O) (v 3)<|Bw Ua<|v 0) Be)::af
def AeV:Au L8 A1 .F:=Bi 6 (C4 Cb)::AbM::AeU
def AeJ:Au L8 A1 .F:=Bi 4 (C4 Ac)::AbL::AeV
def AeO:Au L8 A1 .F:=Bi 3 (C4 O)::AeJ
abbrev Gn:-Az:=[A1,⇑Aj,⇑Aj,⇑O,⇑⇑O,⇑O,Cb,O,O,O,O,O]
def Ae0:Au Gn ⇑Aj .A:=E6 (Y5 (JU ⇑O) (Dp 4)<|v 8) (Bw PT<|v 6)::af
def OI:Au Gn ⇑Aj .A:=B8 (DO<|CI<|A6 (BR Aj) (v 2)<|v 8) (Bi 7 (BJ FW (v 7)<|n 1)::Ae0) af::af
def Ae1:BC Gn ⇑Aj .A:=Ca [Y,Y,Y,Y,Y,Y,Y,Y,Ab,Ab,Ab,Ab] (BF 8) (Fj<|Bw Le<|v 6) OI
def OL:Au Gn ⇑Aj .A:=Bi 7 (n 0)::Ae1::E6 (Dp 3) (v 7)::af
def Ae2:BC Gn ⇑Aj .A:=Ca [Y,Y,Y,Y,Y,Y,Ab,Ab,Ab,Ab,Ab,Ab] (BF 6) (CP<|Bw HK<|v 0) OL
def OM:Au Gn ⇑Aj .A:=B8 (DI<|CG .And (Bg (RJ 0) (A6 (BR O) (v 3)<|Bw PT<|v 6)<|k 0)<|Cf .And<|DO<|CI<|A6 (BR Aj) (v 2)<|Bw FF<|v 6) (Ii (NY Aj) (Dp 2) (Bw FF<|v 6) (B7 Y)::E6 (Dp 5) (Bw FF<|v 6)::af) af::af
def Ae3:BC Gn ⇑Aj .A:=Ca [Y,Y,Y,Y,Y,Y,Ab,Ab,Ab,Ab,Ab,Ab] (BF 6) (CP<|Bw HK<|v 0) OM
def Ae4:Au Gn ⇑Aj .A:=B8 (DI<|CG .And (Bg (RJ 0) (A6 (BR O) (v 3)<|v 10)<|k 0)<|Cf .And<|DO<|CI<|A6 (BR Aj) (v 2)<|v 11) (Ii (NY Aj) (Dp 2) (v 11) (B7 Y)::E6 (Dp 5) (v 11)::af) af::af
def Ae5:Au Gn ⇑Aj .A:=Bi 11 (Bw FF<|A6 (BR Cb) (Bw HK<|v 0)<|v 10)::Ae4
def ON:Au Gn ⇑Aj .A:=Ii (NY O) (Dp 3) (v 10) (BJ JM (A6 (BR O) (v 3)<|v 10)<|n 1)::Ae5
def Ae6:BC Gn ⇑Aj .A:=Ca [Y,Y,Y,Y,Y,Y,Ab,Ab,Ab,Y,Ab,Ab] (BF 10) (CP<|A6 (BR ⇑O) (v 4)<|A6 (BR O) (v 5)<|v 9) ON
def OP:Au Gn ⇑Aj .A:=Ae6::Bi 9 (BJ FW (v 9)<|n 1)::af
def Ae7:BC Gn ⇑Aj .A:=LD [Y,Y,Y,Y,Y,Y,Ab,Ab,Ab,Y,Ab,Ab] (Bg bR (v 9)<|Cd (G2 O)<|v 5) OP
def Ae8:Au Gn ⇑Aj .A:=CT 4 (Bi 9 (n 0)::Ae7::F7 2::af)
def Ae9:Au Gn ⇑Aj .A:=Bi 5 (C4 O)::Ae2::Ae3::Ae8
def Afa:Au Gn ⇑Aj .A:=PQ 4 (CQ (V:=Gn) [Aj] (BF 12) (CP<|v 2) D7<|C4 O)::Ae9
def Afb:Au Gn ⇑Aj .A:=Bi 2 (Cd (K2 Aj)<|v 1)::Bi 3 (C4 O)::Afa
abbrev z7:-Az:=[A1]
def Afc:Au z7 ⇑Aj .A:=BS (Bs Ug (v 0)<|Bb (BJ (TH Aj) (Bo<|Ag<|B7 Ab)<|F6 MM "symbol_count" (bF ∅) (v 0) Be) Be)::af
abbrev pg:-Az:=[A1]
def Afd:Au pg ⇑Aj .A:=BS (Bs Ug (v 0)<|Bb (CQ (V:=pg) [O] (BF 1) (Nd<|F6 MM "symbol_count" (bF ∅) (v 0) Be) D7<|F6 R5 "is_terminal" (bF ∅) (v 0)<|Bb (v 1) Be).x Be)::af
abbrev Zk:-Az:=[(Ar O),⇑Aj,⇑O,O,O]
def Afe:Au Zk (A0 O Aj) .A:=B8 (DO<|CI<|A6 (BR Aj) (v 1)<|v 4) (BS (ED (v 3)<|B7 Ab)::af) af::af
def Afg:Au Zk (A0 O Aj) .A:=Bi 3 (BJ PM (v 3)<|A6 (BR O) (v 2)<|v 4)::Afe
def Afh:BC Zk (A0 O Aj) .A:=Ca [Y,Y,Y,Y,Ab] (BF 4) (Fj<|v 0) Afg
def Afi:Au Zk (A0 O Aj) .A:=Afh::BS (ED (v 3)<|B7 Y)::af
def Afj:Au Zk (A0 O Aj) .A:=Bi 3 (n 0)::Afi
abbrev Ni:-Az:=[A1,⇑Aj,⇑O,O,Aj,Cb,O]
def Afk:Au Ni ⇑O .A:=E6 (Dp 2) (PH (CI<|F6 R5 "is_terminal" (bF ∅) (v 0)<|Bb (v 3) Be) (BJ JL (n 1)<|v 3)<|n 0)::af
def Afl:BC Ni ⇑O .A:=Ca [Y,Y,Y,Ab,Ab,Ab,Ab] (BF 3) (Nd<|F6 MM "symbol_count" (bF ∅) (v 0) Be) Afk
def Afm:Au Ni ⇑O .A:=B8 (Bg (Fu D0) (v 6)<|A6 (BR O) (v 2)<|Bw FF<|v 5) (Ii (NY O) (Dp 2) (Bw FF<|v 5) (v 6)::Bi 4 (B7 Y)::af) af::af
def AbN:Au Ni ⇑O .A:=Bi 6 (BJ PM (A6 (BR O) (v 2)<|Bw FF<|v 5)<|A6 (RO O Aj) (Bs K8 (Bw Le<|v 5)<|Bb (v 1)<|Bb (v 2) Be)<|k 0)::Afm
def AbP:BC Ni ⇑O .A:=Ca [Y,Y,Y,Ab,Y,Ab,Ab] (BF 5) (CP<|Bw HK<|v 0) AbN
def Afn:Au Ni ⇑O .A:=Bi 4 (B7 Ab)::AbP::af
def Afo:BC Ni ⇑O .A:=LD [Y,Y,Y,Ab,Y,Ab,Ab] (CI<|v 4) Afn
def Afp:Au Ni ⇑O .A:=Bi 4 (B7 Y)::Afo::F7 2::af
def Afq:Au Ni ⇑O .A:=Bi 2 (C4 O)::Afl::Afp
def Afr:Au Ni ⇑O .A:=Bi 1 (Bs R6 (v 0) Be)::Afq
abbrev MN:-Az:=[A1,⇑Aj,⇑O,⇑O,Aj,Cb,O,O]
def Afs:Au MN ⇑O .A:=Bi 6 (PH (CI<|A6 (BR Aj) (v 1)<|v 7) (BJ PM (v 6)<|A6 (BR O) (v 2)<|v 7)<|A6 (BR O) (v 2)<|v 7)::af
def Aft:Au MN ⇑O .A:=B8 (Bg (Fu D0) (BJ PM (A6 (BR O) (v 3)<|v 7)<|v 6)<|A6 (BR O) (v 3)<|v 7) (Ii (NY O) (Dp 3) (v 7) (BJ PM (A6 (BR O) (v 3)<|v 7)<|v 6)::Bi 4 (B7 Y)::af) af::Afs
def OQ:Au MN ⇑O .A:=B8 (CI<|F6 R5 "is_terminal" (bF ∅) (v 0)<|Bb (v 7) Be) (Bi 6 (A6 (BR O) (v 2)<|v 7)::JZ::af) af::Aft
def AbQ:BC MN ⇑O .A:=Ca [Y,Y,Y,Y,Y,Y,Y,Ab] (BF 7) (Abm<|Bw Le<|v 5) OQ
def AbR:Au MN ⇑O .A:=Bi 6 (A6 (BR O) (v 3)<|Bw FF<|v 5)::AbQ::af
def AbS:BC MN ⇑O .A:=Ca [Y,Y,Y,Y,Y,Ab,Ab,Ab] (BF 5) (CP<|Bw HK<|v 0) AbR
def Afu:Au MN ⇑O .A:=Bi 4 (B7 Ab)::AbS::af
def Afv:BC MN ⇑O .A:=LD [Y,Y,Y,Y,Y,Ab,Ab,Ab] (CI<|v 4) Afu
def Afw:Au MN ⇑O .A:=Bi 4 (B7 Y)::Afv::F7 3::af
def Afx:Au MN ⇑O .A:=Bi 3 (BJ (TH O) (Bo<|Ag<|n 0)<|F6 MM "symbol_count" (bF ∅) (v 0) Be)::Afw
def Afy:Au MN ⇑O .A:=Bi 2 (Bs K9 (v 0) Be)::Afx
def Afz:Au MN ⇑O .A:=Bi 1 (Bs R6 (v 0) Be)::Afy
abbrev PW:-Az:=[A1,⇑Aj,⇑Aj,O,⇑O,O,O]
def OR:Au PW ⇑Aj .A:=B8 (DO<|CI<|A6 (BR Aj) (v 2)<|v 6) (Ii (NY Aj) (Dp 2) (v 6) (B7 Y)::E6 (Dp 4) (v 6)::af) af::af
def AbT:BC PW ⇑Aj .A:=Ca [Y,Y,Y,Y,Y,Y,Ab] (BF 6) (Fj<|Bw Le<|A6 (BR Cb) (Bw HK<|v 0)<|v 5) OR
def OS:Au PW ⇑Aj .A:=B8 (DO<|CI<|A6 (BR Aj) (v 1)<|v 5) (JZ::af) af::AbT::af
def AbW:BC PW ⇑Aj .A:=Aen [Y,Y,Y,Y,Y,Ab,Ab] (BF 5) 0 (Dp 4) Og "rules_of" (bF ∅) OS
def AfA:Au PW ⇑Aj .A:=AbW::af
def AbX:BC PW ⇑Aj .A:=LD [Y,Y,Y,Y,Y,Ab,Ab] (Bg (Fu<|CZ D0) (v 4)<|C4 O) AfA
def AfB:Au PW ⇑Aj .A:=Bi 4 (Bo<|Ag<|v 3)::AbX::F7 2::af
def AfC:Au PW ⇑Aj .A:=Ii (NY Aj) (Dp 2) (v 3) (B7 Y)::AfB
def AfD:Au PW ⇑Aj .A:=Bi 2 (BJ (TH Aj) (Bo<|Ag<|B7 Ab)<|F6 MM "symbol_count" (bF ∅) (v 0) Be)::Bi 3 (Bw TQ<|v 0)::AfC
abbrev z8:-Az:=[A1]
def AfE:Au z8 ⇑Aj .A:=BS (Bs Za (v 0)<|Bb (BJ (TH Aj) (Bo<|Ag<|B7 Y)<|Cd (G2 Cb)<|Bw HK<|v 0) Be)::af
abbrev Xo:-Az:=[A1,⇑Aj,⇑Aj,Cb]
def AfF:Au Xo ⇑Aj .A:=E6 (Dp 2) (Fi<|Bg (FT<|CZ D0) (CQ (V:=Xo) [O] (BF 4) (Fj<|Bw Le<|v 3) (G0<|DO<|CI<|A6 (BR Aj) (v 1)<|v 4)<|v 4).x<|C4 O)::af
def AbK:BC Xo ⇑Aj .A:=Ca [Y,Y,Y,Ab] (BF 3) (CP<|Bw HK<|v 0) AfF
def AfG:Au Xo ⇑Aj .A:=Bi 2 (C4 Aj)::AbK::F7 2::af
def AfH:Au Xo ⇑Aj .A:=Bi 1 (Bs K7 (v 0) Be)::AfG
abbrev PX:-Az:=[A1,⇑Aj,⇑Aj,⇑Aj,⇑Ac,⇑Ac,O,⇑O]
def AbZ:Au PX (DN ⇑Ac ⇑Ac ⇑O) .F:=B8 (DO<|CI<|A6 (BR Aj) (v 1)<|v 6) (E6 (Dp 4) (A6 (BR Ac) (Bw FZ<|v 0)<|v 6)::af) (B8 (DO<|CI<|A6 (BR Aj) (v 3)<|v 6) (E6 (Dp 5) (A6 (BR Ac) (Bw FZ<|v 0)<|v 6)::af) af::af)::af
def AbY:BC PX (DN ⇑Ac ⇑Ac ⇑O) .F:=Ca [Y,Y,Y,Y,Y,Y,Ab,Ab] (BF 6) (JW (BJ FW (Bw TQ<|v 0)<|n 1)<|F6 MM "symbol_count" (bF ∅) (v 0) Be) AbZ
def AfI:Au PX (DN ⇑Ac ⇑Ac ⇑O) .F:=CT 4<|CT 5<|CT 7 (BS (Ld (v 4) (v 5)<|v 7)::af)
def AfL:Au PX (DN ⇑Ac ⇑Ac ⇑O) .F:=PQ 7 (CQ (V:=PX) [Cb] (BF 8) (CP<|Bw HK<|v 0) (G0<|DI<|CG .Or (DO<|CI<|A6 (BR Aj) (v 2)<|Bw PT<|v 8)<|Cf .Or<|DO<|CI<|A6 (BR Aj) (v 3)<|Bw FF<|v 8)<|Bw PT<|v 8)::AfI
def AfM:Au PX (DN ⇑Ac ⇑Ac ⇑O) .F:=Bi 5 (C4 Ac)::AbY::AfL
def AfN:Au PX (DN ⇑Ac ⇑Ac ⇑O) .F:=Bi 3 (Bs Za (v 0)<|Bb (v 2) Be)::Bi 4 (C4 Ac)::AfM
def AfP:Au PX (DN ⇑Ac ⇑Ac ⇑O) .F:=Bi 2 (Bs Zb (v 0) Be)::AfN
def AfQ:Au PX (DN ⇑Ac ⇑Ac ⇑O) .F:=Bi 1 (Bs K7 (v 0) Be)::AfP
abbrev z9:-Az:=[A1]
def AfR:Au z9 Aj .A:=BS (Fi<|Bg (FT<|DU (CZ Ck) (CZ Ck)<|CZ D0) (Bs Ui (v 0) Be)<|Ld (C4 Ac) (C4 Ac)<|C4 O)::af
abbrev TX:-Az:=[⇑O,⇑O,O,O]
def OT:Au TX ⇑O .A:=B8 (Bg (RJ 1) (BJ JH (BJ JI (A6 (BR O) (v 1)<|v 3)<|v 2)<|n 1)<|k 1) (Ii (NY O) (Dp 1) (v 3) (BJ PM (A6 (BR O) (v 1)<|v 3)<|A6 (BR O) (v 1)<|v 2)::af) af::af
def AbU:BC TX ⇑O .A:=Ca [Y,Y,Y,Ab] (BF 3) (Nd<|Cd (G2 O)<|v 1) OT
def AfS:Au TX ⇑O .A:=AbU::af
def AbV:BC TX ⇑O .A:=Ca [Y,Y,Ab,Ab] (BF 2) (Nd<|Cd (G2 O)<|v 1) AfS
def AfT:Au TX ⇑O .A:=Bi 1 (Cd (K2 O)<|v 0)::AbV::F7 1::af
abbrev OW:-Az:=[A1,⇑O,⇑O]
def AfW:Au OW ⇑O .A:=(BS (CQ (V:=OW) [O] (BF 3) (JW (Bw TQ<|v 0)<|Cd (G2 O)<|v 2) (G0<|Bg (RJ 1) (BJ JH (BJ JI (A6 (BR O) (v 2)<|v 3)<|v 3)<|n 1)<|k 1)<|v 3).x)::af
def AfX:Au OW ⇑O .A:=Bi 2 (Bs Ol (v 1) Be)::AfW
abbrev PK:-Az:=[A1,⇑Aj,⇑O,Cb,⇑O,O,O]
def AfK:Au PK ⇑O .A:=B8 (Bg (RJ 0) (v 6)<|k 0) (Ii (NY O) (Dp 2) (Bw FF<|v 3) (BJ PM (A6 (BR O) (v 2)<|Bw FF<|v 3)<|BJ JL (n 1)<|v 5)::af) af::af
def OX:Au PK ⇑O .A:=Bi 6 (PH (CI<|A6 (BR Aj) (v 1)<|v 5) (Cd (G2 O)<|v 4)<|BJ JM (Cd (G2 O)<|v 4)<|n 1)::AfK
def AbJ:BC PK ⇑O .A:=Ca [Y,Y,Y,Y,Y,Ab,Ab] (BF 5) (Fj<|Bw Le<|v 3) OX
def AfZ:Au PK ⇑O .A:=PQ 4 (CQ (V:=PK) [O] (BF 7) (Fj<|Bw Le<|v 3) (G0<|DO<|CI<|A6 (BR Aj) (v 1)<|v 7)<|v 7)::AbJ::af
def AbO:BC PK ⇑O .A:=Ca [Y,Y,Y,Ab,Ab,Ab,Ab] (BF 3) (CP<|Bw HK<|v 0) AfZ
def AfY:Au PK ⇑O .A:=BS (Bs Uj (v 0)<|Bb (v 2) Be)::af
def AfU:Au PK ⇑O .A:=Bi 2 (BJ (TH O) (Bo<|Ag<|n 0)<|F6 MM "symbol_count" (bF ∅) (v 0) Be)::AbO::AfY
def AfV:Au PK ⇑O .A:=Bi 1 (Bs R6 (v 0) Be)::AfU
abbrev QZ:-Az:=[A1,⇑Aj,⇑O,Cb,O]
def AfJ:Au QZ ⇑O .A:=B8 (DO<|CI<|A6 (BR Aj) (v 1)<|v 4) (Aek::af) af::af
def OK:Au QZ ⇑O .A:=Ii (NY O) (Dp 2) (Bw FF<|v 3) (BJ PM (A6 (BR O) (v 2)<|Bw FF<|v 3)<|BJ JL (n 1)<|v 4)::AfJ
def Ab0:BC QZ ⇑O .A:=Ca [Y,Y,Y,Y,Ab] (BF 4) (Fj<|Bw Le<|v 3) OK
def AfO:Au QZ ⇑O .A:=Ab0::af
def Ab1:BC QZ ⇑O .A:=Ca [Y,Y,Y,Ab,Ab] (BF 3) (CP<|Bw HK<|v 0) AfO
def Af0:Au QZ ⇑O .A:=BS (Bs Uj (v 0)<|Bb (v 2) Be)::af
def Af1:Au QZ ⇑O .A:=Bi 2 (BJ (TH O) (Bo<|Ag<|n 0)<|F6 MM "symbol_count" (bF ∅) (v 0) Be)::Ab1::Af0
def Af2:Au QZ ⇑O .A:=Bi 1 (Bs R6 (v 0) Be)::Af1
abbrev Xp:-Az:=[(Ar O),⇑(BU<|Ar O),(Ar O),O]
def Af3:Au Xp (BU<|Ar O) .A:=Bi 2 (BJ (R0 O) (v 2)<|EE (IT<|Ar O)<|A6 (BR<|BU<|Ar O) (v 1)<|v 3)::af
def Af4:Au Xp (BU<|Ar O) .A:=B8 (QX (t:=(Ar O)) (λZ Z Z=>rfl)<|A6 (BR<|BU<|Ar O) (v 1)<|v 3) (BS (no<|Ar O)::af) af::Af3
def Ab2:BC Xp (BU<|Ar O) .A:=Ca [Y,Y,Y,Ab] (BF 3) (Fj<|v 0) Af4
def Af5:Au Xp (BU<|Ar O) .A:=CT 0 (Ab2::BS (Xa<|v 2)::af)
def Af6:Au Xp (BU<|Ar O) .A:=Bi 2 (PN O)::Af5
abbrev Xq:-Az:=[⇑O,⇑(BU<|Ar O),(Ar O),O]
def Af7:Au Xq (BU<|Ar O) .A:=Bi 2 (BJ (R0 O) (v 2)<|EE (IT<|Ar O)<|A6 (BR<|BU<|Ar O) (v 1)<|v 3)::af
def Af8:Au Xq (BU<|Ar O) .A:=B8 (QX (t:=(Ar O)) (λZ Z Z=>rfl)<|A6 (BR<|BU<|Ar O) (v 1)<|v 3) (BS (no<|Ar O)::af) af::Af7
def Ab3:BC Xq (BU<|Ar O) .A:=Ca [Y,Y,Y,Ab] (BF 3) (CP<|v 0) Af8
def Af9:Au Xq (BU<|Ar O) .A:=CT 0 (Ab3::BS (Xa<|v 2)::af)
def Aga:Au Xq (BU<|Ar O) .A:=Bi 2 (PN O)::Af9
abbrev PZ:-Az:=[A1,⇑(BU<|Ar O),O,Aj,Cb,(BU<|Ar O)]
def Agb:Au PZ ⇑(BU<|Ar O) .A:=E6 (Dp 1) (PH (DI<|CG .And (CI<|F6 R5 "is_terminal" (bF ∅) (v 0)<|Bb (v 2) Be)<|Cf .And<|Bg (Fu D0) (v 2) oD) (Xa<|Gl<|Ag<|v 2)<|no<|Ar O)::af
def Ab4:BC PZ ⇑(BU<|Ar O) .A:=Ca [Y,Y,Ab,Ab,Ab,Ab] (BF 2) (Nd<|F6 MM "symbol_count" (bF ∅) (v 0) Be) Agb
def Agc:Au PZ ⇑(BU<|Ar O) .A:=B8 (DI<|CG .And (TG (t:=(Ar O)) (λZ Z Z=>rfl)<|v 5)<|Cf .And<|DI<|CG .Or (QX (t:=(Ar O)) (λZ Z Z=>rfl)<|A6 (BR<|BU<|Ar O) (v 1)<|Bw FF<|v 4)<|Cf .Or<|Bg bR (Cd (MI O)<|EE (IT<|Ar O)<|v 5)<|Cd (MI O)<|EE (IT<|Ar O)<|A6 (BR<|BU<|Ar O) (v 1)<|Bw FF<|v 4) (Ii (NY<|BU<|Ar O) (Dp 1) (Bw FF<|v 4) (v 5)::Bi 3 (B7 Y)::af) af::af
def OZ:Au PZ ⇑(BU<|Ar O) .A:=Bi 5 (Bs Oq (Bw Le<|v 4)<|Bb (v 1) Be)::Agc
def Ab5:BC PZ ⇑(BU<|Ar O) .A:=Ca [Y,Y,Ab,Y,Ab,Ab] (BF 4) (CP<|Bw HK<|v 0) OZ
def Agd:Au PZ ⇑(BU<|Ar O) .A:=Bi 3 (B7 Ab)::Ab5::af
def Age:BC PZ ⇑(BU<|Ar O) .A:=LD [Y,Y,Ab,Y,Ab,Ab] (CI<|v 3) Agd
def Agf:Au PZ ⇑(BU<|Ar O) .A:=Bi 3 (B7 Y)::Age::F7 1::af
def Agg:Au PZ ⇑(BU<|Ar O) .A:=Bi 1 (C4<|BU<|Ar O)::Ab4::Agf
abbrev Agh:-Az:=[A1,⇑O]
def Agi:Au Agh (BU<|Ar O) .A:=BS (Bs Ot (v 1)<|Bb (Bs Uk (v 0) Be) Be)::af
abbrev Nj:-Az:=[A1,⇑Aj,⇑O,⇑O,(AQ (Ds AZ AZ) ⇑O),Cb,O,Aj,O]
def Agj:Au Nj (AQ (Ds AZ AZ) ⇑O) .A:=E6 (Y5 (Ael (Ds AZ AZ) ⇑O) (Dp 4)<|ED (Bw FF<|v 5)<|v 8) (Bw PT<|v 5)::af
def OY:Au Nj (AQ (Ds AZ AZ) ⇑O) .A:=B8 (Bg (Gk (Hz (Ds AZ AZ) ⇑O) rfl) (ED (Bw FF<|v 5)<|v 8)<|v 4) (Ii (TN (Ds AZ AZ) ⇑O) (Dp 4) (ED (Bw FF<|v 5)<|v 8) (C4 O)::af) af::Agj
def Ab6:BC Nj (AQ (Ds AZ AZ) ⇑O) .A:=Ca [Y,Y,Y,Y,Y,Y,Y,Y,Ab] (BF 8) (CP<|Bs Ud (v 6) Be) OY
def Agk:Au Nj (AQ (Ds AZ AZ) ⇑O) .A:=B8 (CI<|v 7) (Bi 6 (BJ PM (v 6)<|A6 (BR O) (v 3)<|Bw FF<|v 5)::af) af::Ab6::af
def OU:Au Nj (AQ (Ds AZ AZ) ⇑O) .A:=PR 6 7 (Bs K8 (Bw Le<|v 5)<|Bb (v 1)<|Bb (v 2) Be) (Abs λZ=>rfl)::Agk
def Ab7:BC Nj (AQ (Ds AZ AZ) ⇑O) .A:=Ca [Y,Y,Y,Y,Y,Ab,Ab,Ab,Ab] (BF 5) (CP<|Bw HK<|v 0) OU
def Agl:Au Nj (AQ (Ds AZ AZ) ⇑O) .A:=Bi 4 (NZ (Ds AZ AZ) ⇑O)::Ab7::F7 4::af
def Agm:Au Nj (AQ (Ds AZ AZ) ⇑O) .A:=Bi 3 (Bs Uh (v 0) Be)::Agl
def Agn:Au Nj (AQ (Ds AZ AZ) ⇑O) .A:=Bi 2 (Bs K9 (v 0) Be)::Agm
def Ago:Au Nj (AQ (Ds AZ AZ) ⇑O) .A:=Bi 1 (Bs R6 (v 0) Be)::Agn
abbrev ph:-Az:=[(AQ (Ds AZ AZ) ⇑O)]
def Agp:Au ph ⇑(DN O O ⇑O) .Dd:=(BS (CQ (V:=ph) [(A0 O O)] (BF 1) (CP<|Cd (Abw (Ds AZ AZ) Abv ⇑O)<|v 0) (G0<|Bg YV (Cd (G2 O)<|A6 (E4 (Ds AZ AZ) ⇑O) (v 0)<|v 1)<|n 1)<|Ld (A6 (RO O O) (v 1)<|k 0) (A6 (Xc O O) (v 1)<|k 1)<|A6 (E4 (Ds AZ AZ) ⇑O) (v 0)<|v 1).x)::af
abbrev Agq:-Az:=[A1]
def Agr:Au Agq ⇑(DN O O ⇑O) .F:=BS (Bs TS (Bs TR (v 0) Be) Be)::af
abbrev Ags:-Az:=[A1]
def Agt:Au Ags Aj .A:=BS (Fi<|Bg (FT<|CZ<|DU D0 D0<|CZ D0) (Bs Ul (v 0) Be)<|C4<|DN O O ⇑O)::af
abbrev MP:-Az:=[A1,(AQ (Ds AZ AZ) ⇑O),⇑O,⇑O,⇑O,⇑O,O,O,⇑O,O]
def Agu:Au MP (A0 Aj EF) .F:=Bi 6 (BJ FW (v 6)<|n 1)::JZ::af
def Agv:Au MP (A0 Aj EF) .F:=E6 (Dp 4) (v 9)::af
def Ab8:BC MP (A0 Aj EF) .F:=Ca [Y,Y,Y,Y,Y,Y,Y,Y,Y,Ab] (BF 9) (Abm<|Bw Le<|A6 (BR Cb) (Bw HK<|v 0)<|A6 (BR O) (v 8)<|n 0) Agv
def Ab9:Au MP (A0 Aj EF) .F:=E6 (Dp 5) (A6 (BR O) (v 8)<|n 0)::Ab8::af
def Aca:Au MP (A0 Aj EF) .F:=B8 (Bg (FT<|CZ D0) (v 8)<|C4 O) (BS (ED (B7 Ab)<|EE o2<|v 6)::af) af::Ab9
def Agw:Au MP (A0 Aj EF) .F:=Bi 8 (Aew (Ds AZ AZ) ⇑O (v 1) (ED (v 7)<|A6 (BR O) (v 3)<|v 6) (C4 O))::Aca
def OV:Au MP (A0 Aj EF) .F:=B8 (CI<|F6 R5 "is_terminal" (bF ∅) (v 0)<|Bb (v 7) Be) (B8 (Bg (Fu D0) (v 7)<|A6 (BR O) (v 3)<|v 6) (BS (ED (B7 Ab)<|EE o2<|v 6)::af) af::Agu) af::Agw
def Agx:Au MP (A0 Aj EF) .F:=Aem 7 (Dp 4)::OV
def Acb:BC MP (A0 Aj EF) .F:=LD [Y,Y,Y,Y,Y,Y,Y,Ab,Ab,Ab] (Bg (Fu<|CZ D0) (v 4)<|C4 O) Agx
def Acd:Au MP (A0 Aj EF) .F:=CT 5 (BS (ED (B7 Y)<|EE zD<|v 5)::af)
def Agy:Au MP (A0 Aj EF) .F:=Bi 5 (C4 O)::Bi 6 (n 0)::Acb::Acd
def Agz:Au MP (A0 Aj EF) .F:=Bi 3 (BJ (F5 O) (Cd (K2 O)<|v 2)<|Bo<|Ag JQ)::Bi 4 (Bo<|Ag<|Bw TQ<|v 0)::Agy
abbrev R9:-Az:=[⇑(AQ (C3 AZ) Aj),O,(AQ (C3 AZ) Aj),(AQ (C3 AZ) Aj),(AQ (C3 AZ) Aj),(Ar O),(Ar O)]
def OJ:Au R9 (AQ (C3 AZ) Aj) .A:=B8 (Bg ow (BJ FW (Cd (MI O)<|v 5)<|Cd (MI O)<|v 6)<|v 1) (Ii (TN (C3 AZ) Aj) (Dp 4) (BJ (R0 O) (v 5)<|v 6) (B7 Y)::af) af::af
def Ace:BC R9 (AQ (C3 AZ) Aj) .A:=Ca [Y,Y,Y,Y,Y,Y,Ab] (BF 6) (MG (K:=(C3 AZ)) (t:=Aj)<|v 3) OJ
def AgA:Au R9 (AQ (C3 AZ) Aj) .A:=CT 3 (Ace::af)
def Acf:BC R9 (AQ (C3 AZ) Aj) .A:=Ca [Y,Y,Y,Y,Y,Ab,Ab] (BF 5) (MG (K:=(C3 AZ)) (t:=Aj)<|v 2) AgA
def AgB:Au R9 (AQ (C3 AZ) Aj) .A:=Bi 4 (NZ (C3 AZ) Aj)::CT 2 (Acf::Abq 2 4::af)
def Acg:BC R9 (AQ (C3 AZ) Aj) .A:=Ca [Y,Y,Y,Ab,Ab,Ab,Ab] (BF 3) (CP<|v 0) AgB
def AgC:Au R9 (AQ (C3 AZ) Aj) .A:=Bi 2 (Abk (C3 AZ) Aj rfl (PN O) (B7 Y))::CT 0 (Acg::F7 2::af)
abbrev MQ:-Az:=[A1,O,⇑(AQ (C3 AZ) Aj),O,Aj,Aj,Cb,(Ar O)]
def AgD:Au MQ ⇑(AQ (C3 AZ) Aj) .A:=E6 (Dp 2) (PH (CI<|v 4) (Abk (C3 AZ) Aj rfl (Gl<|Ag<|v 3) (B7 Y))<|NZ (C3 AZ) Aj)::af
def AgE:Au MQ ⇑(AQ (C3 AZ) Aj) .A:=Bi 4 (Fi<|DI<|CG .And (CI<|F6 R5 "is_terminal" (bF ∅) (v 0)<|Bb (v 3) Be)<|CG .And (Bg (Fu D0) (v 3) oD)<|Cf .And<|Bg YV (v 1)<|n 0)::AgD
def Ach:BC MQ ⇑(AQ (C3 AZ) Aj) .A:=Ca [Y,Y,Y,Ab,Ab,Ab,Ab,Ab] (BF 3) (Nd<|F6 MM "symbol_count" (bF ∅) (v 0) Be) AgE
def OO:Au MQ ⇑(AQ (C3 AZ) Aj) .A:=B8 (Bg (Gk (Hz (C3 AZ) Aj) rfl) (v 7)<|A6 (BR<|AQ (C3 AZ) Aj) (v 2)<|Bw FF<|v 6) (Ii (TN (C3 AZ) Aj) (Y5 (JU<|AQ (C3 AZ) Aj) (Dp 2)<|Bw FF<|v 6) (v 7) (B7 Y)::Bi 5 (B7 Y)::af) af::af
def Aci:BC MQ ⇑(AQ (C3 AZ) Aj) .A:=Ca [Y,Y,Y,Ab,Ab,Y,Y,Ab] (BF 7) (MG (K:=(C3 AZ)) (t:=Aj)<|Bs Zd (Aej (V:=MQ) [O] (BF 8) (Fj<|Bw Le<|v 6) D7<|A6 (BR<|AQ (C3 AZ) Aj) (v 2)<|v 8)<|Bb (v 1) Be) OO
def AgF:Au MQ ⇑(AQ (C3 AZ) Aj) .A:=Aci::af
def Acj:BC MQ ⇑(AQ (C3 AZ) Aj) .A:=Ca [Y,Y,Y,Ab,Ab,Y,Ab,Ab] (BF 6) (CP<|Bw HK<|v 0) AgF
def AgG:Au MQ ⇑(AQ (C3 AZ) Aj) .A:=Bi 5 (B7 Ab)::Acj::af
def AgH:BC MQ ⇑(AQ (C3 AZ) Aj) .A:=LD [Y,Y,Y,Ab,Ab,Y,Ab,Ab] (CI<|v 5) AgG
def AgI:Au MQ ⇑(AQ (C3 AZ) Aj) .A:=Bi 5 (B7 Y)::AgH::F7 2::af
def AgL:Au MQ ⇑(AQ (C3 AZ) Aj) .A:=Bi 2 (C4<|AQ (C3 AZ) Aj)::Ach::AgI
abbrev AgM:-Az:=[A1,O]
def AgN:Au AgM ⇑(Ar O) .A:=BS (Cd (Abw (C3 AZ) AeA Aj)<|A6 (BR<|AQ (C3 AZ) Aj) (Bs Ov (v 0)<|Bb (v 1) Be)<|Bw Ua<|v 0)::af
abbrev Uy:-Az:=[⇑(A0 Ac<|Ar Ac),(AQ A7 ⇑(A0 O<|Ar Ac)),O,(A0 Ac<|Ar Ac)]
def AgP:Au Uy (AQ A7 ⇑(A0 O<|Ar Ac)) .A:=Ii (TN A7 ⇑(A0 O<|Ar Ac)) (Dp 1) (A6 (RO Ac<|Ar Ac) (v 3)<|k 0) (BJ (F5<|A0 O<|Ar Ac) (JR A7 ⇑(A0 O<|Ar Ac) (v 1) (A6 (RO Ac<|Ar Ac) (v 3)<|k 0) (C4<|A0 O<|Ar Ac))<|Bo<|Ag<|ED (v 2)<|A6 (Xc Ac<|Ar Ac) (v 3)<|k 1)::af
def Ack:BC Uy (AQ A7 ⇑(A0 O<|Ar Ac)) .A:=Ca [Y,Y,Ab,Ab] (Ih 2 3) (Xe<|v 0) AgP
def AgQ:Au Uy (AQ A7 ⇑(A0 O<|Ar Ac)) .A:=Bi 1 (NZ A7 ⇑(A0 O<|Ar Ac))::CT 0 (Ack::F7 1::af)
abbrev Uz:-Az:=[(AQ A7 ⇑(A0 O<|Ar Ac)),(Ar Ac),Aj,(Ar Ac),Ac]
def AgR:Au Uz Aj .A:=B8 (DO<|CI<|Bs NJ (v 0)<|Bb (v 4)<|Bb (v 2)<|Bb (v 3) Be) (BS (B7 Ab)::af) af::af
def Acl:BC Uz Aj .A:=Ca [Y,Y,Y,Y,Ab] (BF 4) (Fj<|v 1) AgR
def AgS:Au Uz Aj .A:=Acl::BS (B7 Y)::af
abbrev Zl:-Az:=[(AQ A7 ⇑(A0 O<|Ar Ac)),Ac,Aj,(Ar Ac),O,(Ar Ac)]
def AgT:Au Zl Aj .A:=B8 (CI<|Bs Un (v 0)<|Bb (v 5)<|Bb (v 2)<|Bb (BJ (R0 Ac) (v 3)<|Gl<|Ag<|v 1) Be) (BS (B7 Y)::af) af::af
def Acm:BC Zl Aj .A:=Ca [Y,Y,Y,Y,Ab,Ab] (Ih 4 5) (CP<|A6 (E4 A7 ⇑(A0 O<|Ar Ac)) (v 0)<|v 1) AgT
def AgW:Au Zl Aj .A:=B8 (Bg (YJ Ck) (v 1)<|v 3) (BS (B7 Ab)::af) af::Acm::BS (B7 Ab)::af
def AgX:Au Zl Aj .A:=B8 (Bg (Gk (Hz A7 ⇑(A0 O<|Ar Ac)) rfl) (v 1)<|v 0) (F7 2::af) af::AgW
abbrev pj:-Az:=[(AQ A7 Aj),(Ar Ac)]
def AgK:Au pj Aj .A:=BS (Fi<|Bg (FT<|CZ Ck) (CQ (V:=pj) [Ac] (BF 2) (Fj<|v 1) (G0<|DO<|CI<|JR A7 Aj (v 0) (v 2)<|B7 Ab)<|v 2).x<|C4 Ac)::af
abbrev Sa:-Az:=[(AQ A7 ⇑(A0 O<|Ar Ac)),(AQ A7 Aj),(Ar Ac),(Ar Ac),⇑Ac,Ac,O,(Ar Ac)]
def AgZ:Au Sa ⇑Ac .A:=Bi 4 (BJ (F5 Ac) (v 4)<|Bs QK (v 0)<|Bb (v 1)<|Bb (v 7)<|Bb (BJ (R0 Ac) (v 3)<|Gl<|Ag<|v 5) Be)::af
def Acn:BC Sa ⇑Ac .A:=Ca [Y,Y,Y,Y,Y,Y,Ab,Ab] (Ih 6 7) (CP<|A6 (E4 A7 ⇑(A0 O<|Ar Ac)) (v 0)<|v 5) AgZ
def Aco:Au Sa ⇑Ac .A:=B8 (DO<|CI<|A6 (E4 A7 Aj) (v 1)<|v 5) (F7 4::af) af::af
def AgY:Au Sa ⇑Ac .A:=B8 (Bg (Gk (YJ Ck) rfl) (v 5)<|v 3) (Acn::af) af::Aco
def Acp:Au Sa ⇑Ac .A:=B8 (Bg (Gk (Hz A7 ⇑(A0 O<|Ar Ac)) rfl) (v 5)<|v 0) (BS (BJ (F5 Ac) (v 4)<|Bo<|Ag<|v 5)::af) af::AgY
def Acq:BC Sa ⇑Ac .A:=Ca [Y,Y,Y,Y,Y,Ab,Ab,Ab] (BF 5) (Fj<|v 2) Acp
def AgU:Au Sa ⇑Ac .A:=Bi 4 (C4 Ac)::Acq::F7 4::af
abbrev Xr:-Az:=[(AQ A7 ⇑Ac),(AQ A7 Aj),(Ar Ac),⇑Ac,Ac]
def AgV:Au Xr ⇑Ac .A:=B8 (DO<|CI<|A6 (E4 A7 Aj) (v 1)<|v 4) (F7 3::af) af::af
def AgJ:Au Xr ⇑Ac .A:=Bi 3 (BJ (F5 Ac) (v 3)<|A6 (E4 A7 ⇑Ac) (v 0)<|v 4)::AgV
def AgO:Au Xr ⇑Ac .A:=B8 (Bg (Gk (Hz A7 ⇑Ac) rfl) (v 4)<|v 0) (BS (BJ (F5 Ac) (v 3)<|Bo<|Ag<|v 4)::af) af::AgJ
def Acr:BC Xr ⇑Ac .A:=Ca [Y,Y,Y,Y,Ab] (BF 4) (Fj<|v 2) AgO
def Ag0:Au Xr ⇑Ac .A:=Bi 3 (C4 Ac)::Acr::F7 3::af
abbrev PY:-Az:=[⇑(A0 Ac<|Ar Ac),(AQ A7 ⇑Ac),(AQ A7 Aj),Ac,⇑Ac,⇑Ac,O,Ac,(Ar Ac),O]
def Ag1:Au PY ⇑Ac .A:=B8 (DI<|CG .And (Bg (Gk (GI Ck) rfl) (v 7)<|v 4)<|Cf .And<|CI<|Bs Xm (v 2)<|Bb (ML (TP Ac) (v 8) (LF<|BJ FW (v 9)<|n 1) NV) Be) (E6 (Dp 4) (v 7)::af) af::af
def O0:Au PY ⇑Ac .A:=B8 (Bg (FT Ck) (A6 (oz Ac) (v 8)<|v 9)<|A6 (BR Ac) (v 4)<|v 6) (Bi 5 (BJ (F5 Ac) (v 5)<|Bs Uo (v 1)<|Bb (v 2)<|Bb (ML (TP Ac) (v 8) (LF<|BJ FW (v 9)<|n 1) NV) Be)::Ag1) af::af
def Acs:BC PY ⇑Ac .A:=Ca [Y,Y,Y,Y,Y,Y,Y,Y,Y,Ab] (BF 9) (Nd<|Cd (MI Ac)<|v 8) O0
def Ag2:Au PY ⇑Ac .A:=Acs::af
def Acu:BC PY ⇑Ac .A:=Ca [Y,Y,Y,Y,Y,Y,Y,Ab,Ab,Ab] (Ih 7 8) (CP<|v 0) Ag2
def Ag3:Au PY ⇑Ac .A:=CT 0 (Acu::Bi 6 (BJ FW (v 6)<|n 1)::af)
def Acv:BC PY ⇑Ac .A:=LD [Y,Y,Y,Y,Y,Y,Y,Ab,Ab,Ab] (Bg bR (v 6)<|Cd (G2 Ac)<|v 4) Ag3
def Ag4:Au PY ⇑Ac .A:=J6 4 5 6 (Ld (Bo<|Ag<|v 3) (C4 Ac)<|n 0) (NU Y _)::Acv::F7 5::af
abbrev pk:-Az:=[⇑Ac]
def Ag5:Au pk ⇑Ac .A:=BS (Cd (K4 J7)<|Cd (Y9 A7 Aj)<|Cd (Dh A7 Aj) (CQ (V:=pk) [Ac] (BF 1) (CP<|v 0) D7<|ED (v 1)<|B7 Y).x)::af
abbrev pn:-Az:=[(Ar Ac)]
def Ag6:Au pn ⇑Ac .A:=BS (Cd (K4 J7)<|Cd (Y9 A7 Aj)<|Cd (Dh A7 Aj) (CQ (V:=pn) [Ac] (BF 1) (Fj<|v 0) D7<|ED (v 1)<|B7 Y).x)::af
abbrev pq:-Az:=[A1,O]
def Ag7:Au pq ⇑Ac .A:=BS (Cd (K4 J7) (CQ (V:=pq) [O] (BF 2) (CP<|Bs Ud (v 1) Be) D7<|A6 (BR Ac) (Bw FZ<|v 0)<|v 2).x)::af
abbrev F8:-Az:=[A1,⇑(A0 Ac<|Ar Ac),(AQ A7 ⇑(A0 O<|Ar Ac)),(AQ A7 Aj),⇑Aj,⇑O,⇑O,(AQ A7 ⇑Ac),(AQ A7 ⇑Ac),(AQ (Ds AZ AZ) ⇑O),Ac,O,(DN Aj ⇑Ac ⇑Ac),O,(A0 Ac<|Ar Ac),⇑Ac,Ac,(A0 O O),⇑(DN O O ⇑O)]
def Ag8:Au F8 Aj .A:=Ii (TN A7 ⇑Ac) (Dp 7) (v 10) (Bs Zf (Bs QK (v 2)<|Bb (v 3)<|Bb (Gl<|Ag<|v 10)<|Bb (PN Ac) Be) Be)::af
def O1:BC F8 Aj .A:=Ca [Y,Y,Y,Y,Y,Y,Y,Y,Y,Y,Ab,Ab,Ab,Ab,Ab,Ab,Ab,Ab,Ab] (BF 10) (MG (K:=A7) (t:=⇑(A0 O<|Ar Ac))<|v 2) Ag8
def Acw:Au F8 Aj .A:=Bi 12 (Ld (A6 (E4 A7 Aj) (v 3)<|v 10) (A6 (E4 A7 ⇑Ac) (v 7)<|v 10)<|A6 (E4 A7 ⇑Ac) (v 8)<|v 10)::af
def O2:Au F8 Aj .A:=B8 (Bg (Fu<|DU RV (CZ Ck)<|CZ Ck) (Ld (A6 (BR Aj) (v 4)<|v 11) (Bs Up (v 0)<|Bb (A6 (BR O) (v 5)<|v 11) Be)<|Bs Up (v 0)<|Bb (A6 (BR O) (v 6)<|v 11) Be)<|v 12) (BS (B7 Ab)::af) af::af
def Ag9:Au F8 Aj .A:=CT 12 (B8 (Bg (Hz A7 ⇑(A0 O<|Ar Ac)) (v 10)<|v 2) (J9 (Am 8) (v 10) (Bs Zf (Bs Ow (v 1)<|Bb (v 7)<|Bb (v 3)<|Bb (v 10) Be) Be)::Acw) af::O2)
def Acx:Au F8 Aj .A:=Bi 12 (Ld (B7 Ab) (Bo<|Ag<|v 10)<|C4 Ac)::Ag9
def Acy:BC F8 Aj .A:=Ca [Y,Y,Y,Y,Y,Y,Y,Y,Y,Y,Ab,Ab,Ab,Ab,Ab,Ab,Ab,Ab,Ab] (Ih 11 10) (Xe<|Bw FZ<|v 0) Acx
def Acz:Au F8 Aj .A:=Ii (TN (Ds AZ AZ) ⇑O) (Dp 9) (v 17) (BJ (F5 O) (JR (Ds AZ AZ) ⇑O (v 9) (v 17) (C4 O))<|Bo<|Ag<|v 13)::af
def O3:Au F8 Aj .A:=Bi 17 (ED (EE Xh<|F6 Nh "number" (bF ∅) (v 0)<|Bb (A6 (RO Ac<|Ar Ac) (v 14)<|k 0) Be)<|EE Xh<|F6 Nh "number" (bF ∅) (v 0)<|Bb (v 16) Be)::Acz
def AcA:BC F8 Aj .A:=Ca [Y,Y,Y,Y,Y,Y,Y,Y,Y,Y,Ab,Ab,Ab,Y,Y,Y,Ab,Ab,Ab] (BF 16) (CP<|Bs Zf (v 15) Be) O3
def Aha:Au F8 Aj .A:=B8 (CI<|Bs Xm (v 3)<|Bb (A6 (Xc Ac<|Ar Ac) (v 14)<|k 1) Be) (Bi 15 (BJ (F5 Ac) (v 15)<|A6 (E4 A7 ⇑Ac) (v 8)<|A6 (RO Ac<|Ar Ac) (v 14)<|k 0)::af) af::AcA::af
def O4:Au F8 Aj .A:=Bi 15 (Bs Uo (v 7)<|Bb (v 3)<|Bb (A6 (Xc Ac<|Ar Ac) (v 14)<|k 1) Be)::Aha
def AcB:BC F8 Aj .A:=Ca [Y,Y,Y,Y,Y,Y,Y,Y,Y,Y,Ab,Ab,Ab,Ab,Ab,Ab,Ab,Ab,Ab] (Ih 13 14) (Xe<|v 1) O4
def Ahb:Au F8 Aj .A:=BS (Fi<|DI<|CG .And (Bg (zL (Ds AZ AZ)<|CZ D0) (Bs TR (v 0) Be)<|v 9)<|CG .And (Bg (FT<|CZ<|DU D0 D0<|CZ D0) (Bs Ul (v 0) Be)<|v 18)<|Cf .And<|Bg (FT RV) (Bs Zc (v 0) Be)<|Fi<|Bg (FT<|CZ<|DU D0 D0<|CZ D0) (v 18)<|C4<|DN O O ⇑O)::af
def AcC:Au F8 Aj .A:=CT 4<|CT 5<|CT 6<|CT 8<|CT 9 (AeC 18 (CQ (V:=F8) [(A0 O O)] (BF 19) (CP<|Cd (K4 Abv)<|Cd (Y9 (Ds AZ AZ) ⇑O)<|v 9) (G0<|Bg YV (Cd (G2 O)<|A6 (E4 (Ds AZ AZ) ⇑O) (v 9)<|v 19)<|n 1)<|Ld (A6 (RO O O) (v 19)<|k 0) (A6 (Xc O O) (v 19)<|k 1)<|A6 (E4 (Ds AZ AZ) ⇑O) (v 9)<|v 19)::Ahb)
def AcD:Au F8 Aj .A:=CT 7<|J5 8 (Acy::CT 1 (AcB::AcC)) (Ax:=iX)
def Ahc:Au F8 Aj .A:=J6 7 8 9 (Ld (NZ A7 ⇑Ac) (NZ A7 ⇑Ac)<|NZ (Ds AZ AZ) ⇑O) (NU Ab _)::CT 2 (O1::AcD)
def Ahd:Au F8 Aj .A:=J6 4 5 6 (Ld (Bs R6 (v 0) Be) (Bs K9 (v 0) Be)<|Bs Uh (v 0) Be) (NU Y _)::Ahc
abbrev Xs:-Az:=[(AQ A7 ⇑Ac),Ac,⇑Ac,O]
def Ahe:Au Xs Aj .A:=Bi 2 (BJ (F5 Ac) (v 2) (CQ (V:=Xs) [Ac] (BF 4) (CP<|A6 (E4 A7 ⇑Ac) (v 0)<|A6 (BR Ac) (v 2)<|v 3) (G0<|Bg (Gk (GI Ck) rfl) (v 4)<|v 2)<|v 4).x)::Bi 3 (BJ FW (v 3)<|n 1)::af
def AcE:BC Xs Aj .A:=LD [Y,Y,Y,Y] (Bg bR (v 3)<|Cd (G2 Ac)<|v 2) Ahe
def Ahf:Au Xs Aj .A:=AcE::BS (Fi<|Bg (GI Ck) (v 1)<|v 2)::af
def Ahg:Au Xs Aj .A:=PR 2 3 (ED (Cd (K2 Ac)<|A6 (E4 A7 ⇑Ac) (v 0)<|v 1)<|n 0) (NU Ab _)::Ahf
abbrev IW:-Az:=[A1,(AQ A7 ⇑(A0 O<|Ar Ac)),(AQ A7 Aj),(AQ A7 ⇑Ac),(AQ A7 ⇑Ac),Ac,O,(Ar Ac),O,Ac,⇑⇑O,(AQ A7 ⇑Ac)]
def AcF:Au IW Aj .A:=B8 (DI<|CG .And (Bg (Hz A7 ⇑(A0 O<|Ar Ac)) (v 9)<|v 1)<|CG .And (Bg (Gk (GI Ck) rfl) (v 9)<|A6 (E4 A7 ⇑Ac) (v 3)<|v 5)<|Cf .And<|CI<|Bs Xm (v 2)<|Bb (BJ (R0 Ac) (ML (TP Ac) (v 7) NV<|LF<|v 8)<|ML (TP Ac) (v 7) (LF<|BJ FW (v 8)<|n 1) NV) Be) (J9 (Am 3) (v 5) (BJ (F5 Ac) (A6 (E4 A7 ⇑Ac) (v 3)<|v 5)<|Bo<|Ag<|v 9)::af) af::af
def O5:Au IW Aj .A:=B8 (DI<|CG .And (Bg (Hz A7 ⇑(A0 O<|Ar Ac)) (v 9)<|v 1)<|CG .And (Bg (Gk (GI Ck) rfl) (v 9)<|A6 (E4 A7 ⇑Ac) (v 4)<|v 5)<|Cf .And<|CI<|Bs Xm (v 2)<|Bb (ML (TP Ac) (v 7) NV<|LF<|v 8) Be) (J9 (Am 4) (v 5) (BJ (F5 Ac) (A6 (E4 A7 ⇑Ac) (v 4)<|v 5)<|Bo<|Ag<|v 9)::af) af::AcF
def O6:BC IW Aj .A:=Ca [Y,Y,Y,Y,Y,Y,Y,Y,Ab,Ab,Ab,Ab] (Ih 8 9) (Aeh<|v 7) O5
def Ahh:Au IW Aj .A:=O6::af
def O7:BC IW Aj .A:=Ca [Y,Y,Y,Y,Y,Y,Ab,Ab,Ab,Ab,Ab,Ab] (Ih 6 7) (CP<|A6 (E4 A7 ⇑(A0 O<|Ar Ac)) (v 1)<|v 5) Ahh
def Ahi:Au IW Aj .A:=AeB (K:=A7) (u:=Ac) (Am 3) (Am 4) (Am 5)::O7::af
def O8:BC IW Aj .A:=Ca [Y,Y,Y,Y,Y,Ab,Ab,Ab,Ab,Ab,Ab,Ab] (BF 5) (MG (K:=A7) (t:=⇑(A0 O<|Ar Ac))<|v 1) Ahi
def O9:Au IW Aj .A:=E6 (Dp 10) (Cd (K4 Aez) (CQ (V:=IW) [Ac] (BF 12) (MG (K:=A7) (t:=⇑(A0 O<|Ar Ac))<|v 1) (G0<|CI<|Bs Oy (v 11)<|Bb (v 12) Be)<|EE Xh<|F6 Nh "number" (bF ∅) (v 0)<|Bb (v 12) Be).x)::af
def AcG:BC IW Aj .A:=Ca [Y,Y,Y,Y,Y,Ab,Ab,Ab,Ab,Ab,Y,Ab] (BF 11) (Fj<|Gl<|A4 (v 3)<|Ag<|v 4) O9
def Aaa:Au IW Aj .A:=BS (Fi<|Bg (FT<|CZ<|CZ D0) (Bo<|A4 (Bs Om (v 0) Be)<|Ag<|Bs Oo (v 0) Be)<|v 10)::af
def AcH:Au IW Aj .A:=CT 3<|CT 4 (AcG::Aaa)
def Ahj:Au IW Aj .A:=CT 1<|J5 3 (J5 4 (O8::Bi 10 (C4 ⇑O)::AcH) (Ax:=iX)) (Ax:=iX)
def Ahk:Au IW Aj .A:=PR 3 4 (ED (NZ A7 ⇑Ac)<|NZ A7 ⇑Ac) (NU Y _)::Ahj
abbrev Sb:-Az:=[(AQ A7 ⇑(A0 O<|Ar Ac)),(AQ A7 Aj),⇑Ac,O,O,(Ar Ac)]
def Aab:Au Sb ⇑Ac .A:=B8 (Bg (FT<|CZ Ck) (CQ (V:=Sb) [Ac] (BF 6) (Fj<|v 5) (G0<|DI<|CG .And (Bg (Hz A7 ⇑(A0 O<|Ar Ac)) (v 6)<|v 0)<|Cf .And<|DO<|CI<|A6 (E4 A7 Aj) (v 1)<|v 6)<|v 6).x<|C4 Ac) (Bi 2 (BJ (F5 Ac) (v 2) (CQ (V:=Sb) [Ac] (BF 6) (CP<|Bs Ox (v 5) Be) (G0<|DI<|CG .And (Bg (Hz A7 ⇑(A0 O<|Ar Ac)) (v 6)<|v 0)<|Cf .And<|Bg (Gk (GI Ck) rfl) (v 6)<|v 2)<|v 6).x)::af) af::af
def AcI:BC Sb ⇑Ac .A:=Ca [Y,Y,Y,Y,Ab,Ab] (Ih 4 5) (CP<|A6 (E4 A7 ⇑(A0 O<|Ar Ac)) (v 0)<|A6 (BR Ac) (v 2)<|v 3) Aab
def Ahl:Au Sb ⇑Ac .A:=AcI::Bi 3 (BJ FW (v 3)<|n 1)::af
def AcL:BC Sb ⇑Ac .A:=LD [Y,Y,Y,Y,Ab,Ab] (Bg bR (v 3)<|Cd (G2 Ac)<|v 2) Ahl
def Ahm:Au Sb ⇑Ac .A:=PR 2 3 (ED (Bo<|Ag<|B3 "$accept")<|n 0) (NU Ab _)::AcL::F7 2::af
abbrev Zm:-Az:=[A1,⇑(A0 Ac<|Ar Ac),Cb]
def Ahn:Au Zm ⇑(A0 Ac<|Ar Ac) .A:=E6 (Dp 1) (ED (A6 (BR Ac) (Bw FZ<|v 0)<|Bw FF<|v 2)<|Cd (PS Ac) (CQ (V:=Zm) [O] (BF 3) (Fj<|Bw Le<|v 2) D7<|A6 (BR Ac) (Bw FZ<|v 0)<|v 3).x)::af
def AcM:BC Zm ⇑(A0 Ac<|Ar Ac) .A:=Ca [Y,Y,Ab] (BF 2) (CP<|Bw HK<|v 0) Ahn
def Aho:Au Zm ⇑(A0 Ac<|Ar Ac) .A:=Bi 1 (C4<|A0 Ac<|Ar Ac)::AcM::F7 1::af
abbrev Fv:-Az:=[A1,⇑(A0 Ac<|Ar Ac),(AQ A7 ⇑(A0 O<|Ar Ac)),(AQ A7 Aj),(BU A1),⇑Ac,⇑Ac,⇑Ac,⇑O,O,(A0 Ac<|Ar Ac),Aj,⇑Ac,⇑Ac,⇑Ac,⇑(A0 Ac<|Ar Ac)]
def Ahp:Au Fv Aj .A:=B8 (DI<|CG .Or (DO<|CI<|v 11)<|Cf .Or<|Bg (Gk (GI Ck) rfl) (A6 (RO Ac<|Ar Ac) (v 10)<|k 0)<|v 5) (E6 (Dp 8) (v 9)::af) af::af
def Ahq:Au Fv Aj .A:=Bi 11 (Fi<|Bg (FT<|CZ Ck) (CQ (V:=Fv) [Ac] (BF 16) (Fj<|A6 (Xc Ac<|Ar Ac) (v 10)<|k 1) (G0<|DI<|CG .And (Bg (Hz A7 ⇑(A0 O<|Ar Ac)) (v 16)<|v 2)<|Cf .And<|DO<|CI<|A6 (E4 A7 Aj) (v 3)<|v 16)<|v 16).x<|C4 Ac)::Ahp
def UA:BC Fv Aj .A:=Ca [Y,Y,Y,Y,Y,Y,Y,Y,Y,Ab,Ab,Ab,Ab,Ab,Ab,Ab] (Ih 9 10) (Xe<|v 1) Ahq
def AcN:Au Fv Aj .A:=BS (Fi<|DI<|CG .And (Bg (FT<|CZ<|JE Ck<|F4 Ck) (Bs Zh (EE (IT A1)<|v 4) Be)<|v 15)<|Cf .And<|Bg (FT<|CZ Ck) (Bw FZ<|EE (IT A1)<|v 4) (CQ (V:=Fv) [Ac] (BF 16) (CP<|Bw FZ<|v 0) (G0<|DI<|CG .Or (Bg (Gk (Hz A7 ⇑(A0 O<|Ar Ac)) rfl) (v 16)<|v 2)<|Cf .Or<|Bg (GI Ck) (v 16)<|v 5)<|v 16).x)::af
def Ahr:Au Fv Aj .A:=PQ 15 (CQ (V:=Fv) [O,(A0 Ac<|Ar Ac)] (Ih 16 17) (Xe<|v 1) (G0<|Bg (Gk (GI D0) rfl) (v 16)<|v 8)<|v 17)::AcN
def AcP:Au Fv Aj .A:=B8 (QX (t:=A1) (λZ Z Z=>rfl)<|v 4) (BS (B7 Y)::af) af::Ahr
def AcQ:Au Fv Aj .A:=B8 (Bg (Fu<|CZ Ck) (v 14) (CQ (V:=Fv) [Ac] (BF 16) (CP<|Bw FZ<|v 0) (G0<|DI<|CG .And (Bg (Hz A7 ⇑(A0 O<|Ar Ac)) (v 16)<|v 2)<|Cf .And<|DO<|CI<|A6 (E4 A7 Aj) (v 3)<|v 16)<|v 16).x) (BS (B7 Ab)::af) af::AcP
def AcR:Au Fv Aj .A:=PQ 14 (CQ (V:=Fv) [O,Aj] (Ih 16 17) (Xe<|Bs K7 (v 0) Be) (G0<|DI<|CG .And (Bg zj (v 16)<|n 3)<|Cf .And<|DO<|CI<|v 17)<|A6 (BR Ac) (Bw FZ<|v 0)<|v 16)::AcQ
def AcS:Au Fv Aj .A:=B8 (Bg (Fu RV) (Bs Oj (v 0) Be)<|Fi<|DI<|CG .And (Bg (FT<|CZ Ck) (v 6)<|C4 Ac)<|CG .And (Bg (FT<|CZ Ck) (v 7)<|C4 Ac)<|Cf .And<|Bg (FT<|CZ D0) (v 8)<|C4 O) (BS (B7 Ab)::af) af::AcR
def AcT:Au Fv Aj .A:=B8 (Bg (Fu<|CZ RV) (Bs Oi (v 0) Be) (CQ (V:=Fv) [Ac] (BF 16) (CP<|Bw FZ<|v 0) D7<|Fi<|DI<|CG .Or (Bg (GI Ck) (v 16)<|v 12)<|Cf .Or<|Bg (GI Ck) (v 16)<|v 13).x) (BS (B7 Ab)::af) af::AcS
def Aac:Au Fv Aj .A:=PQ 13 (AeD (V:=Fv) [Ac,(Ar Ac),Ac] 16 17 18 (CP<|v 1) (Bg (GI Ck) (v 16)<|v 12) (Fj<|v 17)<|v 18)::AcT
def Aad:Au Fv Aj .A:=Bi 12 (Bs Zg (v 2)<|Bb (Cd (Dh A7 Aj) (CQ (V:=Fv) [Ac] (BF 16) (MG (K:=A7) (t:=⇑(A0 O<|Ar Ac))<|v 2) D7<|ED (v 16)<|B7 Y).x) Be)::Aac
def Xu:Au Fv Aj .A:=CT 6<|CT 7<|CT 8 (B8 (DI<|CG .Or (Bg (Fu<|DU (CZ Ck) (CZ Ck)<|CZ D0) (Bs Ui (v 0) Be)<|Ld (v 6) (v 7)<|v 8)<|Cf .Or<|Bg (Fu RV) (Fi<|QX (t:=A1) (λZ Z Z=>rfl)<|v 4)<|Fi<|DO<|CI<|A6 (E4 A7 Aj) (v 3)<|B3 "S") (BS (B7 Ab)::af) af::Aad)
def Ahs:Au Fv Aj .A:=CT 1 (UA::Xu)
def Aht:Au Fv Aj .A:=PQ 7 (CQ (V:=Fv) [Ac] (BF 16) (CP<|Bw FZ<|v 0) (G0<|DI<|CG .And (Bg (Hz A7 ⇑(A0 O<|Ar Ac)) (v 16)<|v 2)<|CG .And (CI<|A6 (E4 A7 Aj) (v 3)<|v 16)<|Cf .And<|Bg (Gk (GI Ck) rfl) (v 16)<|v 5)<|v 16)::Bi 8 (C4 O)::Ahs
def Ahu:Au Fv Aj .A:=PQ 6 (CQ (V:=Fv) [Ac] (BF 16) (CP<|Bw FZ<|v 0) (G0<|DI<|CG .And (Bg (Hz A7 ⇑(A0 O<|Ar Ac)) (v 16)<|v 2)<|CG .And (Bg (Fu Ck) (v 16)<|B3 "$accept")<|Cf .And<|DO<|CI<|A6 (E4 A7 Aj) (v 3)<|v 16)<|v 16)::Aht
def AcW:Au Fv Aj .A:=Bi 5 (Bs Zg (v 2)<|Bb (v 3) Be)::Ahu
abbrev QY:-Az:=[(AQ A7 ⇑(A0 O<|Ar Ac)),(AQ (CH DE AZ AZ) Aj),(Ar Ac),O,(Ar Ac),⇑O,Ac,⇑O,O,O,Aj]
def UB:Au QY ⇑O .A:=B8 (DI<|CG .And (CI<|v 10)<|Cf .And<|Bg (Gk (GI D0) rfl) (v 9)<|v 7) (E6 (Dp 7) (v 9)::af) af::af
def Aae:Au QY ⇑O .A:=Bi 10 (PH (Bg (Hz A7 ⇑(A0 O<|Ar Ac)) (v 6)<|v 0) (Fi<|Bg (Hz (CH DE AZ AZ) Aj) (Ld (v 6) (v 8)<|v 9)<|v 1)<|Fi<|DI<|CG .And (Bg (FT D0) (v 9)<|BJ FW (v 8)<|n 1)<|Cf .And<|Bg (FT Ck) (A6 (oz Ac) (v 2)<|v 8)<|v 6)::UB
def AcX:BC QY ⇑O .A:=Ca [Y,Y,Y,Y,Y,Y,Y,Y,Y,Ab,Ab] (BF 9) (JW (v 8)<|BJ FW (Cd (MI Ac)<|v 2)<|n 1) Aae
def Ahv:Au QY ⇑O .A:=AcX::af
def AcK:BC QY ⇑O .A:=Ca [Y,Y,Y,Y,Y,Y,Y,Y,Ab,Ab,Ab] (BF 8) (CP<|v 5) Ahv
def Ahw:Au QY ⇑O .A:=Bi 7 (C4 O)::CT 5 (AcK::Abq 5 7::af)
def AcZ:BC QY ⇑O .A:=Ca [Y,Y,Y,Y,Y,Y,Ab,Ab,Ab,Ab,Ab] (BF 6) (Fj<|v 4) Ahw
def Ahx:Au QY ⇑O .A:=Bi 5 (Bo<|Ag<|v 3)::AcZ::F7 5::af
abbrev Nk:-Az:=[(AQ A7 ⇑(A0 O<|Ar Ac)),(Ar Ac),(AQ (CH DE AZ AZ) Aj),Aj,Ac,O,(Ar Ac),O,O]
def Aaf:Au Nk (AQ (CH DE AZ AZ) Aj) .A:=B8 (Bg (Gk (Hz (CH DE AZ AZ) Aj) rfl) (Ld (v 4) (v 7)<|v 8)<|v 2) (Ii (TN (CH DE AZ AZ) Aj) (Dp 2) (Ld (v 4) (v 7)<|v 8) (B7 Y)::Bi 3 (B7 Y)::af) af::af
def Ahy:BC Nk (AQ (CH DE AZ AZ) Aj) .A:=Ca [Y,Y,Y,Y,Y,Y,Y,Y,Ab] (BF 8) (CP<|Bs Oz (v 0)<|Bb (v 2)<|Bb (v 1)<|Bb (v 7)<|Bb (v 6) Be) Aaf
def Aag:Au Nk (AQ (CH DE AZ AZ) Aj) .A:=Ahy::af
def AcY:BC Nk (AQ (CH DE AZ AZ) Aj) .A:=Ca [Y,Y,Y,Y,Y,Y,Y,Ab,Ab] (BF 7) (Nd<|BJ FW (Cd (MI Ac)<|v 1)<|n 1) Aag
def Aah:Au Nk (AQ (CH DE AZ AZ) Aj) .A:=AcY::af
def AcU:BC Nk (AQ (CH DE AZ AZ) Aj) .A:=Ca [Y,Y,Y,Y,Y,Ab,Ab,Ab,Ab] (Ih 5 6) (CP<|A6 (E4 A7 ⇑(A0 O<|Ar Ac)) (v 0)<|v 4) Aah
def Ahz:Au Nk (AQ (CH DE AZ AZ) Aj) .A:=AcU::af
def AcV:BC Nk (AQ (CH DE AZ AZ) Aj) .A:=Ca [Y,Y,Y,Y,Ab,Ab,Ab,Ab,Ab] (BF 4) (MG (K:=A7) (t:=⇑(A0 O<|Ar Ac))<|v 0) Ahz
def AhA:Au Nk (AQ (CH DE AZ AZ) Aj) .A:=Bi 3 (B7 Ab)::CT 0 (AcV::af)
def AcJ:BC Nk (AQ (CH DE AZ AZ) Aj) .A:=LD [Y,Y,Y,Y,Ab,Ab,Ab,Ab,Ab] (CI<|v 3) AhA
def AhB:Au Nk (AQ (CH DE AZ AZ) Aj) .A:=PR 2 3 (ED (NZ (CH DE AZ AZ) Aj)<|B7 Y) (NU Y _)::AcJ::F7 2::af
abbrev Lf:-Az:=[A1,(AQ A7 ⇑(A0 O<|Ar Ac)),(AQ A7 Aj),⇑(Ar Ac),(AQ (C3 DE)<|AQ (CH DE AZ AZ) Aj),⇑(BU<|Ar O),Ac,(BU<|Ar O),(BU<|AQ (CH DE AZ AZ) Aj),⇑O,(BU<|Ar O)]
def Aai:Au Lf Aj .A:=B8 (DI<|CG .And (TG (t:=(AQ (CH DE AZ AZ) Aj)) (λZ Z Z=>rfl)<|v 8)<|Cf .And<|Bg (Gk (Hz (CH DE AZ AZ) Aj) rfl) (Ld (v 6) (n 0)<|Cd (MI O)<|EE (IT<|Ar O)<|v 7)<|EE (IT<|AQ (CH DE AZ AZ) Aj)<|v 8) (BS (B7 Ab)::af) af::af
def Aaj:Au Lf Aj .A:=B8 (DI<|CG .And (Bg (FT Ck) (v 6)<|B3 "S")<|CG .And (TG (t:=(Ar O)) (λZ Z Z=>rfl)<|v 7)<|Cf .And<|Bg (Fu<|CZ<|F4 Ck) (CQ (V:=Lf) [(Ar Ac)] (BF 11) (CP<|v 3) (G0<|Bg bR (Cd (MI Ac)<|v 11)<|Cd (MI O)<|EE (IT<|Ar O)<|v 7)<|v 11).x<|C4<|Ar Ac) (BS (B7 Ab)::af) af::af
def AcO:Au Lf Aj .A:=B8 (TG (t:=(Ar O)) (λZ Z Z=>rfl)<|v 7) (Bi 8 (Aev (C3 DE) (AQ (CH DE AZ AZ) Aj) (v 4)<|Cd (PS Ac) (CQ (V:=Lf) [O] (BF 11) (Fj<|EE (IT<|Ar O)<|v 7) D7<|A6 (BR Ac) (Bw FZ<|v 0)<|v 11).x)::Aai) af::Aaj
def Ac0:Au Lf Aj .A:=B8 (Bg (Fu RV) (Fi<|QX (t:=(Ar O)) (λZ Z Z=>rfl)<|v 7)<|Fi<|DO<|CI<|A6 (E4 A7 Aj) (v 2)<|v 6) (BS (B7 Ab)::af) af::AcO
def Aak:Au Lf Aj .A:=Bi 7 (A6 (BR<|BU<|Ar O) (v 5)<|EE Xh<|F6 Nh "number" (bF ∅) (v 0)<|Bb (v 6) Be)::Ac0
def Ac1:BC Lf Aj .A:=Ca [Y,Y,Y,Y,Y,Y,Ab,Ab,Ab,Ab,Ab] (BF 6) (MG (K:=A7) (t:=⇑(A0 O<|Ar Ac))<|v 1) Aak
def Aal:Au Lf Aj .A:=BS (Fi<|Bg (FT<|zh D0) (Bs Ou (v 0)<|Bb (v 9) Be)<|v 10)::af
def Ac2:Au Lf Aj .A:=Bi 10 (PH (DI<|CG .Or (QX (t:=(Ar O)) (λZ Z Z=>rfl)<|A6 (BR<|BU<|Ar O) (v 5)<|A6 (BR O) (v 9)<|n 0)<|Cf .Or<|QX (t:=(Ar O)) (λZ Z Z=>rfl)<|A6 (BR<|BU<|Ar O) (v 5)<|A6 (BR O) (v 9)<|n 1) (no<|Ar O)<|Xa<|BJ (R0 O) (BJ (R0 O) (EE (IT<|Ar O)<|A6 (BR<|BU<|Ar O) (v 5)<|A6 (BR O) (v 9)<|n 0)<|EE (IT<|Ar O)<|A6 (BR<|BU<|Ar O) (v 5)<|A6 (BR O) (v 9)<|n 1)<|Gl<|Ag<|n 0)::Aal
def Ac3:Au Lf Aj .A:=Bi 9 (BJ (F5 O) (CQ (V:=Lf) [Ac] (BF 11) (CP<|ML (Xf Ac) (Cd (Y9 A7 ⇑(A0 O<|Ar Ac))<|v 1) (LF<|n 1)<|LF<|n 3) D7<|EE Xh<|F6 Nh "number" (bF ∅) (v 0)<|Bb (v 11) Be).x<|Bo<|Ag<|n 0)::Ac2
def AhC:Au Lf Aj .A:=CT 1<|CT 5 (Ac1::Ac3)
def AhD:Au Lf Aj .A:=Bi 5 (Bs Uk (v 0) Be)::AhC
abbrev IX:-Az:=[A1,⇑(Ar Ac),(Ar Ac),Aj,EF,⇑Ac,O,O,Cb]
def AhE:Au IX Aj .A:=Bi 6 (BJ FW (v 6)<|n 1)::af
def Ac4:BC IX Aj .A:=LD [Y,Y,Y,Y,Y,Y,Y,Y,Ab] (DI<|CG .And (Bg bR (v 6)<|Cd (G2 Ac)<|v 5)<|Cf .And<|Bg (YJ Ck) (A6 (BR Ac) (v 5)<|v 6)<|Gl<|A4 (B3 "a")<|A4 (B3 "b")<|Ag<|B3 "$end") AhE
def Ac5:Au IX Aj .A:=Bi 5 (BJ (F5 Ac) (BJ (F5 Ac) (ML (Xf Ac) (v 5) NV<|LF<|v 6) (CQ (V:=IX) [O] (BF 9) (Fj<|Bw Le<|v 8) D7<|A6 (BR Ac) (Bw FZ<|v 0)<|v 9).x)<|ML (Xf Ac) (v 5) (LF<|BJ FW (v 6)<|n 1) NV)::af
def Ac6:Au IX Aj .A:=B8 (Bg (Fu<|CZ Ck) (ML (Xf Ac) (v 5) (LF<|v 6)<|LF<|BJ FW (v 6)<|n 1)<|Bo<|Ag<|A6 (BR Ac) (Bw FZ<|v 0)<|Bw FF<|v 8) (BS (B7 Ab)::af) af::Ac5
def Ac7:Au IX Aj .A:=Bi 8 (A6 (BR Cb) (Bw HK<|v 0)<|v 7)::Ac6
def Ac8:Au IX Aj .A:=Ac4::Ac7
def Ac9:BC IX Aj .A:=Ca [Y,Y,Y,Y,Y,Y,Y,Ab,Ab] (BF 7) (CP<|EE zE<|v 4) Ac8
def Aam:Au IX Aj .A:=BS (Fi<|Bg (FT<|CZ Ck) (v 5)<|BJ (F5 Ac) (Cd (Y8 Ac)<|v 2)<|Bo<|Ag<|B3 "$end")::af
def Ada:Au IX Aj .A:=PR 5 6 (ED (Bo<|Ag<|B3 "$accept")<|n 0) (NU Y _)::Ac9::Aam
def Adb:Au IX Aj .A:=B8 (DO<|CI<|v 3) (BS (Fi<|Bg (FT<|CZ<|F4 Ck) (CQ (V:=IX) [(Ar Ac)] (BF 9) (CP<|v 1) (G0<|DI<|CG .And (Bg (FT<|F4 Ck) (ML (TP Ac) (v 9) NV<|LF<|BJ FW (EE J3<|v 4)<|n 1)<|ML (TP Ac) (v 2) NV<|LF<|BJ FW (EE J3<|v 4)<|n 1)<|Cf .And<|Bg bR (EE J3<|v 4)<|Cd (MI Ac)<|v 2)<|v 9).x<|C4<|Ar Ac)::af) af::Ada
def Aan:Au IX Aj .A:=B8 (Bg (Fu RV) (v 3)<|Fi<|Bg (GI<|F4 Ck) (v 2)<|v 1) (BS (B7 Ab)::af) af::Adb
def AhF:Au IX Aj .A:=PR 3 4 (Bs Uv (v 0)<|Bb (CQ (V:=IX) [Ac] (BF 9) (Fj<|v 2) D7<|EE Xh<|F6 Nh "number" (bF ∅) (v 0)<|Bb (v 9) Be).x Be) (Abs λZ=>rfl)::Aan
abbrev iZ:-Az:=[A1,⇑O,(AQ (Ds AZ AZ) ⇑O)]
def AhG:Au iZ (A0 Aj EF) .F:=BS (Bs Um (v 0)<|Bb (v 2)<|Bb (v 1) Be)::af
def AhH:Au iZ (A0 Aj EF) .F:=B8 (Bg (Fu<|CZ<|DU D0 D0<|CZ D0) (Bs TS (v 2) Be)<|C4<|DN O O ⇑O) (K1::af) af::AhG
def AhI:Au iZ (A0 Aj EF) .F:=Bi 2 (Bs TR (v 0) Be)::AhH
abbrev Zn:-Az:=[⇑EZ,O,EZ]
def AhL:Au Zn ⇑O .A:=Bi 1 (BJ FW (BJ FW (BJ Oa (v 1)<|n 1013)<|BJ Oa (n 2)<|Cd zX<|Cd zT<|v 2)<|Cd zW<|Fi<|Bg JF (v 2)<|n 0)::af
def Adc:BC Zn ⇑O .A:=Ca [Y,Y,Ab] (BF 2) (CP<|ML (Xf EZ) (v 0) NV<|LF<|n 63) AhL
def AhM:Au Zn ⇑O .A:=Adc::BS (Bo<|A4 (v 1)<|Ag<|n 0)::af
def AhN:Au Zn ⇑O .A:=Bi 1 (n 11)::AhM
abbrev Zo:-Az:=[Ng,O,O]
def AhP:Au Zo O .A:=Ob 0 0 (BJ FW (BJ Oa (n 1013)<|A6 (K5 1) (v 0)<|k 1)<|n 6007)::af
def AhQ:Au Zo O .A:=Ob 0 0 (BJ zR (A6 (K5 0) (v 0)<|k 0)<|v 1)::F7 2::af
def Ade:Au Zo O .A:=Bi 2 (BJ zQ (A6 (K5 0) (v 0)<|k 0)<|v 1)::AhQ
def AhR:Au Zo O .A:=B8 (Bg (RJ 0) (A6 (K5 0) (v 0)<|k 0)<|k 0) (Ob 0 1 (BJ FW (A6 (K5 1) (v 0)<|k 1)<|n 1)::AhP) af::Ade
abbrev AhS:-Az:=[Ng,⇑Ac]
def AhT:Au AhS Ac .A:=BS (A6 (BR Ac) (v 1)<|Bs R7 (v 0)<|Bb (Cd (G2 Ac)<|v 1) Be)::af
abbrev L9:-Az:=[Ng,⇑Ac,⇑(A0 Ac<|Ar Ac),Ac,O,O]
def Adf:Au L9 ⇑(A0 Ac<|Ar Ac) .A:=E6 (Dp 2) (ED (v 3)<|Cd (PS Ac) (Y1 (V:=L9) [O] (BF 6) (Nd<|Bs R7 (v 0)<|Bb (n 4) Be)<|Bs R8 (v 0)<|Bb (BJ (F5 Ac) (Bo<|A4 (B3 "a")<|Ag<|B3 "b")<|v 1) Be).x)::af
def Adg:BC L9 ⇑(A0 Ac<|Ar Ac) .A:=Ca [Y,Y,Y,Ab,Ab,Ab] (BF 3) (CP<|v 1) Adf
def Adh:Au L9 ⇑(A0 Ac<|Ar Ac) .A:=E6 (Dp 2) (ED (v 3)<|Cd (PS Ac) (Y1 (V:=L9) [O] (BF 6) (Nd<|v 5)<|Bs R8 (v 0)<|Bb (BJ (F5 Ac) (Bo<|A4 (B3 "a")<|Ag<|B3 "b")<|v 1) Be).x)::af
def Adi:Au L9 ⇑(A0 Ac<|Ar Ac) .A:=PR 3 5 (ED (Bs R8 (v 0)<|Bb (v 1) Be)<|Bs R7 (v 0)<|Bb (n 3) Be) (NU Y _)::Adh
def Adj:BC L9 ⇑(A0 Ac<|Ar Ac) .A:=Ca [Y,Y,Y,Ab,Ab,Ab] (BF 4) (Nd<|Bs R7 (v 0)<|Bb (BJ JM (n 8)<|Cd (G2 Ac)<|v 1) Be) Adi
def AhW:Au L9 ⇑(A0 Ac<|Ar Ac) .A:=CT 1 (Adg::Adj::F7 2::af)
def AhX:Au L9 ⇑(A0 Ac<|Ar Ac) .A:=Bi 1 (ML (Xf Ac) (Bo<|A4 (B3 "S")<|A4 (B3 "T")<|A4 (B3 "U")<|Ag<|B3 "V") NV<|LF<|BJ FW (n 2)<|Bs R7 (v 0)<|Bb (n 3) Be)::Bi 2 (C4<|A0 Ac<|Ar Ac)::AhW
abbrev QU:-Az:=[A1,⇑Aj,⇑Aj]
def Adk:Au QU (BU A1) .F:=BS (Xa<|Bs Ue (v 0)<|Bb (v 2)<|Bb (CQ (V:=QU) [Cb] (BF 3) (CP<|Bw HK<|v 0) D7<|Fi<|DI<|CG .And (CI<|A6 (BR Aj) (v 1)<|Bw PT<|v 3)<|Cf .And<|CI<|A6 (BR Aj) (v 2)<|Bw FF<|v 3).x Be)::af
def UC:Au QU (BU A1) .F:=Bi 2 (Bs Za (v 0)<|Bb (v 1) Be)::Adk
def AhK:Au QU (BU A1) .F:=B8 (DO<|CI<|A6 (BR Aj) (v 1)<|n 0) (AeE (A6 (BR Ac) (Bw FZ<|v 0)<|Bw Ua<|v 0)::af) af::UC
def UD:Au QU (BU A1) .F:=Bi 1 (Bs Zb (v 0) Be)::AhK
abbrev Zp:-Az:=[A1,⇑O,(AQ (Ds AZ AZ) ⇑O)]
def UE:Au Zp (BU<|A0 Aj EF) .F:=BS (Xa<|Bs Um (v 0)<|Bb (v 2)<|Bb (v 1) Be)::af
def AhZ:Au Zp (BU<|A0 Aj EF) .F:=B8 (Bg (Fu<|CZ<|DU D0 D0<|CZ D0) (Bs TS (v 2) Be)<|C4<|DN O O ⇑O) (BS (no<|A0 Aj EF)::af) af::UE
def Zr:Au Zp (BU<|A0 Aj EF) .F:=Bi 2 (Bs TR (v 0) Be)::AhZ
abbrev Cm:-Az:=[⇑EZ,Ng,⇑(A0 Ac<|Ar Ac),⇑(A0 Ac<|Ar Ac),A1,(AQ A7 ⇑(A0 O<|Ar Ac)),(AQ A7 Aj),(AQ A7 Aj),(BU A1),⇑(Ar Ac),⇑(Ar Ac),(AQ (C3 DE)<|AQ (CH DE AZ AZ) Aj),(Ar Ac)]
def Aao:Au Cm Aj .A:=B8 (Bg (Fu RV) (Fi<|Bg (GI<|F4 Ck) (v 12)<|v 9)<|Fi<|Bg (Hz (CH DE AZ AZ) Aj) (Ld (B3 "S") (n 0)<|Cd (MI Ac)<|v 12)<|A6 (E4 (C3 DE)<|AQ (CH DE AZ AZ) Aj) (v 11)<|v 12) (BS (B7 Ab)::af) af::af
def UG:BC Cm Aj .A:=Ca [Y,Y,Y,Y,Y,Y,Y,Y,Y,Y,Y,Y,Ab] (BF 12) (CP<|v 10) Aao
def Aap:Au Cm Aj .A:=BS (Bs OA (v 4)<|Bb (v 9)<|Bb (A6 (BR<|Ar Ac) (v 10)<|Bs R7 (v 1)<|Bb (n 7) Be) Be)::af
def Xv:Au Cm Aj .A:=B8 (DI<|CG .Or (Bg JF (F6 Nh "number" (bF ∅) (v 4)<|Bb (B3 "a") Be)<|n 0)<|Cf .Or<|Bg JF (F6 Nh "number" (bF ∅) (v 4)<|Bb (B3 "b") Be)<|n 0) (BS (B7 Y)::af) af::Aap
def Zs:Au Cm Aj .A:=B8 (DO<|CI<|Bs Zc (v 4) Be) (BS (Fi<|QX (t:=(A0 Aj EF)) (λZ Z Z=>rfl)<|Oe (as:=[A1,⇑O]) (ls:=[AQ (Ds AZ AZ) ⇑O]) Zr (.aM,.F)<|Bb (v 4)<|Bb (C4 O) Be)::af) af::Xv
def UH:Au Cm Aj .A:=B8 (DO<|CI<|Bs Uu (v 4)<|Bb (v 5)<|Bb (v 7)<|Bb (v 9)<|Bb (v 11) Be) (BS (B7 Ab)::af) af::Zs
def Adl:Au Cm Aj .A:=Bi 11 (Cd (Dh (C3 DE)<|AQ (CH DE AZ AZ) Aj) (Y1 (V:=Cm) [(Ar Ac)] (BF 13) (CP<|v 10)<|ED (v 13)<|Bs Ut (v 5)<|Bb (v 13) Be).x)::CT 10 (UG::UH)
def Aaq:Au Cm Aj .A:=B8 (Bg (Fu<|CZ<|F4 Ck) (CQ (V:=Cm) [(Ar Ac)] (BF 13) (CP<|v 9) (G0<|Bg (Gk (GI<|F4 Ck) rfl) (v 13)<|v 10)<|v 13).x<|C4<|Ar Ac) (BS (B7 Ab)::af) af::Adl
def Aar:Au Cm Aj .A:=Bi 10 (Bo<|A4 (PN Ac)<|A4 (Gl<|Ag<|B3 "a")<|A4 (Gl<|Ag<|B3 "b")<|A4 (Gl<|A4 (B3 "a")<|Ag<|B3 "a")<|A4 (Gl<|A4 (B3 "a")<|Ag<|B3 "b")<|A4 (Gl<|A4 (B3 "b")<|Ag<|B3 "a")<|Ag<|Gl<|A4 (B3 "b")<|Ag<|B3 "b")::Aaq
def Aas:Au Cm Aj .A:=B8 (DI<|CG .And (TG (t:=A1) (λZ Z Z=>rfl)<|v 8)<|Cf .And<|Bg (Fu<|CZ<|F4 Ck) (v 9) (CQ (V:=Cm) [(Ar O)] (BF 13) (CP<|Bs Xl (EE (IT A1)<|v 8)<|Bb (n 2) Be) D7<|Cd (PS Ac) (CQ (V:=(Cm++[(Ar O)])) [O] (BF 14) (Fj<|v 13) D7<|A6 (BR Ac) (Bw FZ<|EE (IT A1)<|v 8)<|v 14).x).x) (BS (B7 Ab)::af) af::Aar
def Adm:Au Cm Aj .A:=PQ 9 (CQ (V:=Cm) [(Ar O)] (BF 13) (CP<|Bs Xl (v 4)<|Bb (n 2) Be) D7<|Cd (PS Ac) (CQ (V:=(Cm++[(Ar O)])) [O] (BF 14) (Fj<|v 13) D7<|A6 (BR Ac) (Bw FZ<|v 4)<|v 14).x)::Aas
def Adn:Au Cm Aj .A:=B8 (DO<|CI<|Bs Us (v 4)<|Bb (v 3)<|Bb (v 5)<|Bb (v 7)<|Bb (v 8) Be) (BS (B7 Ab)::af) af::Adm
def Xw:Au Cm Aj .A:=B8 (DI<|CG .Or (DO<|CI<|Bs Uq (v 4)<|Bb (v 3)<|Bb (v 5)<|Bb (v 6) Be)<|Cf .Or<|DO<|CI<|Bs Ur (v 4)<|Bb (v 5)<|Bb (v 6) Be) (BS (B7 Ab)::af) af::Adn
def Aat:Au Cm Aj .A:=CT 6<|CT 7 (Bi 8 (Oe (as:=[A1]) (ls:=[⇑Aj,⇑Aj]) UD (.aM,.F)<|Bb (v 4) Be)::Xw)
def Aau:Au Cm Aj .A:=Bi 7 (Cd (Dh A7 Aj) (CQ (V:=Cm) [Ac] (BF 13) (MG (K:=A7) (t:=⇑(A0 O<|Ar Ac))<|v 5) D7<|ED (v 13)<|Bs NJ (v 5)<|Bb (v 13)<|Bb (B7 Y)<|Bb (PN Ac) Be).x)::Aat
def Ado:Au Cm Aj .A:=Bi 6 (Cd (Dh A7 Aj) (CQ (V:=Cm) [Ac] (BF 13) (MG (K:=A7) (t:=⇑(A0 O<|Ar Ac))<|v 5) D7<|ED (v 13)<|Bs NJ (v 5)<|Bb (v 13)<|Bb (B7 Ab)<|Bb (PN Ac) Be).x)::Aau
def Aav:Au Cm Aj .A:=B8 (Bg (Fu<|CZ<|JE Ck<|F4 Ck) (Bs Zh (v 4) Be)<|v 3) (BS (B7 Ab)::af) af::Ado
def Aaw:Au Cm Aj .A:=PR 4 5 (Abx (Bs K6 (CQ (V:=Cm) [Ac,(Ar Ac)] (Ih 13 14) (CP<|v 2) D7<|ED (v 13)<|Cd (Y8 Ac)<|v 14).x Be)<|Bs Ze (v 3) Be) (NU Ab _)::Aav
def UI:Au Cm Aj .A:=Bi 3 (BJ (F5<|A0 Ac<|Ar Ac) (Bo<|Ag<|ED (B3 "$accept")<|Gl<|A4 (B3 "S")<|Ag<|B3 "$end")<|v 2)::Aaw
end
section
def aaa:CX [O] [⇑O,O,O] AeI Ud:={Sort,Sort}
def aab:CX [A1] [] AeL MM:={Sort,Sort}
def aac:CX [A1,O] [] AeM R5:={Sort,Sort}
def aad:CX [A1,Ac] [] AeN Nh:={Sort,Sort}
def aae:CX [A1,O] [] AeP Og:={Sort,Sort}
def aaf:CX [(Ar O),O] [EZ,O] AeR Oh:={Sort,Sort}
def aag:CX [⇑(A0 Ac ⇑Ac),BU Ac] [⇑Ac,Ac,⇑Ac,Ac,⇑Ac,Ac,O,⇑Cb,(Ar O)] AeX K6:={Sort,Sort}
def aah:CX [A1,⇑Aj,⇑Aj] [⇑O,⇑Ac,O,⇑Cb,Cb,(Ar O),O] AeO Ue:={Sort,Sort}
def aai:CX [A1,⇑Aj] [⇑Aj,⇑O,⇑⇑O,⇑O,Cb,O,O,O,O,O] Afb Ug:={Sort,Sort}
def aaj:CX [A1] [] Afc R6:={Sort,Sort}
def aak:CX [A1] [] Afd K7:={Sort,Sort}
def aal:CX [(Ar O),⇑Aj,⇑O] [O,O] Afj K8:={Sort,Sort}
def aam:CX [A1] [⇑Aj,⇑O,O,Aj,Cb,O] Afr K9:={Sort,Sort}
def aan:CX [A1] [⇑Aj,⇑O,⇑O,Aj,Cb,O,O] Afz Uh:={Sort,Sort}
def aao:CX [A1,⇑Aj] [⇑Aj,O,⇑O,O,O] AfD Za:={Sort,Sort}
def aap:CX [A1] [] AfE Oi:={Sort,Sort}
def aaq:CX [A1] [⇑Aj,⇑Aj,Cb] AfH Zb:={Sort,Sort}
def aar:CX [A1] [⇑Aj,⇑Aj,⇑Aj,⇑Ac,⇑Ac,O,⇑O] AfQ Ui:={Sort,Sort}
def aas:CX [A1] [] AfR Oj:={Sort,Sort}
def aat:CX [⇑O] [⇑O,O,O] AfT Ol:={Sort,Sort}
def aau:CX [A1,⇑O] [⇑O] AfX Uj:={Sort,Sort}
def aav:CX [A1] [⇑Aj,⇑O,Cb,⇑O,O,O] AfV Om:={Sort,Sort}
def aaw:CX [A1] [⇑Aj,⇑O,Cb,O] Af2 Oo:={Sort,Sort}
def aax:CX [(Ar O),⇑(BU<|Ar O)] [(Ar O),O] Af6 Oq:={Sort,Sort}
def aay:CX [⇑O,⇑(BU<|Ar O)] [(Ar O),O] Aga Ot:={Sort,Sort}
def aaz:CX [A1] [⇑(BU<|Ar O),O,Aj,Cb,(BU<|Ar O)] Agg Uk:={Sort,Sort}
def aaA:CX [A1,⇑O] [] Agi Ou:={Sort,Sort}
def aaB:CX [A1] [⇑Aj,⇑O,⇑O,(AQ (Ds AZ AZ) ⇑O),Cb,O,Aj,O] Ago TR:={Sort,Sort}
def aaC:CX [(AQ (Ds AZ AZ) ⇑O)] [] Agp TS:={Sort,Sort}
def aaD:CX [A1] [] Agr Ul:={Sort,Sort}
def aaE:CX [A1] [] Agt Zc:={Sort,Sort}
def aaF:CX [A1,(AQ (Ds AZ AZ) ⇑O),⇑O] [⇑O,⇑O,⇑O,O,O,⇑O,O] Agz Um:={Sort,Sort}
def aaG:CX [⇑(AQ (C3 AZ) Aj),O] [(AQ (C3 AZ) Aj),(AQ (C3 AZ) Aj),(AQ (C3 AZ) Aj),(Ar O),(Ar O)] AgC Zd:={Sort,Sort}
def aaH:CX [A1,O] [⇑(AQ (C3 AZ) Aj),O,Aj,Aj,Cb,(Ar O)] AgL Ov:={Sort,Sort}
def aaI:CX [A1,O] [] AgN Xl:={Sort,Sort}
def aaL:CX [⇑(A0 Ac<|Ar Ac)] [(AQ A7 ⇑(A0 O<|Ar Ac)),O,(A0 Ac<|Ar Ac)] AgQ Ze:={Sort,Sort}
def aaM:CX [(AQ A7 ⇑(A0 O<|Ar Ac)),(Ar Ac),Aj,(Ar Ac)] [Ac] AgS Un:={Sort,Sort}
def aaN:CX [(AQ A7 ⇑(A0 O<|Ar Ac)),Ac,Aj,(Ar Ac)] [O,(Ar Ac)] AgX NJ:={Sort,Sort}
def aaP:CX [(AQ A7 Aj),(Ar Ac)] [] AgK Xm:={Sort,Sort}
def aaQ:CX [(AQ A7 ⇑(A0 O<|Ar Ac)),(AQ A7 Aj),(Ar Ac),(Ar Ac)] [⇑Ac,Ac,O,(Ar Ac)] AgU QK:={Sort,Sort}
def aaR:CX [(AQ A7 ⇑Ac),(AQ A7 Aj),(Ar Ac)] [⇑Ac,Ac] Ag0 Uo:={Sort,Sort}
def aaS:CX [⇑(A0 Ac<|Ar Ac),(AQ A7 ⇑Ac),(AQ A7 Aj),Ac] [⇑Ac,⇑Ac,O,Ac,(Ar Ac),O] Ag4 Ow:={Sort,Sort}
def aaT:CX [⇑Ac] [] Ag5 Zf:={Sort,Sort}
def aaW:CX [(Ar Ac)] [] Ag6 Ox:={Sort,Sort}
def aaX:CX [A1,O] [] Ag7 Up:={Sort,Sort}
def aaK:CX [A1,⇑(A0 Ac<|Ar Ac),(AQ A7 ⇑(A0 O<|Ar Ac)),(AQ A7 Aj)] [⇑Aj,⇑O,⇑O,(AQ A7 ⇑Ac),(AQ A7 ⇑Ac),(AQ (Ds AZ AZ) ⇑O),Ac,O,(DN Aj ⇑Ac ⇑Ac),O,(A0 Ac<|Ar Ac),⇑Ac,Ac,(A0 O O),⇑(DN O O ⇑O)] Ahd Uq:={Sort,Sort}
def aaZ:CX [(AQ A7 ⇑Ac),Ac] [⇑Ac,O] Ahg Oy:={Sort,Sort}
def aaY:CX [A1,(AQ A7 ⇑(A0 O<|Ar Ac)),(AQ A7 Aj)] [(AQ A7 ⇑Ac),(AQ A7 ⇑Ac),Ac,O,(Ar Ac),O,Ac,⇑⇑O,(AQ A7 ⇑Ac)] Ahk Ur:={Sort,Sort}
def aaU:CX [(AQ A7 ⇑(A0 O<|Ar Ac)),(AQ A7 Aj)] [⇑Ac,O,O,(Ar Ac)] Ahm Zg:={Sort,Sort}
def aaV:CX [A1] [⇑(A0 Ac<|Ar Ac),Cb] Aho Zh:={Sort,Sort}
def aaJ:CX [A1,⇑(A0 Ac<|Ar Ac),(AQ A7 ⇑(A0 O<|Ar Ac)),(AQ A7 Aj),(BU A1)] [⇑Ac,⇑Ac,⇑Ac,⇑O,O,(A0 Ac<|Ar Ac),Aj,⇑Ac,⇑Ac,⇑Ac,⇑(A0 Ac<|Ar Ac)] AcW Us:={Sort,Sort}
def aaO:CX [(AQ A7 ⇑(A0 O<|Ar Ac)),(AQ (CH DE AZ AZ) Aj),(Ar Ac),O,(Ar Ac)] [⇑O,Ac,⇑O,O,O,Aj] Ahx Oz:={Sort,Sort}
def aa0:CX [(AQ A7 ⇑(A0 O<|Ar Ac)),(Ar Ac)] [(AQ (CH DE AZ AZ) Aj),Aj,Ac,O,(Ar Ac),O,O] AhB Ut:={Sort,Sort}
def aa1:CX [A1,(AQ A7 ⇑(A0 O<|Ar Ac)),(AQ A7 Aj),⇑(Ar Ac),(AQ (C3 DE)<|AQ (CH DE AZ AZ) Aj)] [⇑(BU<|Ar O),Ac,(BU<|Ar O),(BU<|AQ (CH DE AZ AZ) Aj),⇑O,(BU<|Ar O)] AhD Uu:={Sort,Sort}
def aa2:CX [A1,⇑(Ar Ac),(Ar Ac)] [Aj,EF,⇑Ac,O,O,Cb] AhF OA:={Sort,Sort}
def aa3:CX [A1,⇑O] [(AQ (Ds AZ AZ) ⇑O)] AhI Uv:={Sort,Sort}
def aa4:CX [⇑EZ] [O,EZ] AhN Uw:={Sort,Sort}
def aa5:CX [Ng,O] [O] AhR R7:={Sort,Sort}
def aa6:CX [Ng,⇑Ac] [] AhT R8:={Sort,Sort}
def aa7:CX [Ng] [⇑Ac,⇑(A0 Ac<|Ar Ac),Ac,O,O] AhX Zi:={Sort,Sort}
end
def bH{B:Prop}(a:z=Y->A)(b:z=Ab->B):if z=Y then A else B:=by
 induction z;·exact b rfl
 ·calc a rfl
def bZ{B:Prop}(a:z=Ab->A)(b:z=Y->B):if(!z)=Y then A else B:=by
 induction z;·exact a rfl
 ·calc b rfl
def bV[Decidable p]{B:Prop}(a:p->A)(b:¬p->B):if decide p=Y then A else B:=bH (λh=>a<|aL h) λh=>b<|b2 h
def Cu.lt{n:Nat}(h:i<n)(a:n<=1000000):Cu i:=Cw h a
section
variable{w:Bk}{k:Nat}
def dp(h:AP (J g.Aq)):MM.BZ (w^^k+1) (g,()) (·=J g.Aq):=aY aab {h,rfl}
def e2:R5.BZ (w^^k+1) (g,s,()) (·=decide (s<g.Ad)):=aY aac rfl
def iY{s:Nat}(h:AP (J g.Aq)):Nh.BZ (w^^k+1) (g,s,()) (·=if s∈g.Aq then((g.Aq.idxOf s:Nat):Int) else Neg.neg 1):=aY aad<|bV (λc=>{{c,h},(ao c).symm}) λc=>(ai c).symm
def aa8(h:s<J g.L7/\Cu s)(a:AP (g.L7.getD s []).length):Og.BZ (w^^k+1) (g,s,()) (·=g.L7.getD s []):=aY aae {h,a,rfl}
def HZ(m n:Nat):-Nat:=(Cg n).filter λi=>m.testBit i
def ps{n:Nat}:HZ m (n+1)=if m.testBit n=Y then HZ m n++[n] else HZ m n:=by
 unfold HZ;rw[VB,LZ];cases h:m.testBit n with
 |true=>rw[ao rfl,Rn h];rfl|false=>rw[ai H3,SY (by rw[h];calc H3)];calc Ct _
def g6:(m>>>i&&&1=1)↔m.testBit i=Y:=by
 rw[Nat.testBit,Nat.and_comm 1,bne_iff_ne,Nat.and_one_is_mod];rcases AjD (m>>>i) with e|e<;>rw[e]
 ·exact {nofun,λz=>ar rfl z}
 ·calc {λZ=>nofun,λZ=>rfl}
def aa9{n:Nat}(h:¬0<m>>>i)(a:i<=n):HZ m i=HZ m n:=by
 cases a with
 |refl=>rfl|step a b=>rw[ps,AjE<|Cw ((Nat.div_eq_zero_iff_lt<|VC i).mp<|tC m i∣Nat.eq_zero_of_not_pos h)<|Z9 ∅ a,ai H3];calc b
def Zt(m i:Nat):Ao Xn:=(m,HZ m i,i,m>>>i,())
def aba{n:Nat}(a:i<n)(b:n<=1000000)(h:P.av (Zt m<|i+1)):Abz.wp w (Zt m i) P:=by
 have d:AP (HZ m i).length:=Ro _ _\(by rw[Gy];calc BY a\b);have e:Zt m (i+1)=(m,HZ m<|i+1,i+1,(m>>>i)>>>1,()):=by unfold Zt;rw[Nat.shiftRight_add];rfl
 rw[e,ps] at h;refine bV (λc=>{d,?_}) λc=>?_
 ·rw[ao<|g6.mp c] at h;exact h
 ·rw[ai λz=>c<|g6.mpr z] at h;calc h
def pv{n:Nat}(a:m<2^n)(b:n<=1000000):Ud.BZ (w^^k+1) (m,()) (·=HZ m n):=by
 clear w k m n _ a b;calc aY aaa ⟨λd a=>∃i,a=Zt m i/\i<=n/\d=n-i,{n,0,rfl,C9 n,rfl},λd Af i=>by obtain⟨i,rfl,Ag,rfl⟩:=i;calc bV (λc=>?_) λc=>aa9 c Ag;have lt:=NA λz=>ar (rwl (tC m i) c:0<m/2^i) (by rw[Vs<|Cw a<|Z9 ∅ z];calc Hq 0);calc aba lt b {n-(i+1),Rg lt<|EM _,i+1,rfl,lt,rfl}⟩
end
def Ma(rs:-(Bp×Nat)):Nat:=(rs.map λp=>J p.1.r).sum
def Bp.CA(N:Nat)(x:Bp):Prop:=Dy
 (x.l<N)
 (∀s∈x.r,s<N)
 (J x.r<1000)
def AK.CA(g:AK):Prop:=Mo
 (J g.Aq<1000)
 (g.Ad<J g.Aq)
 (J g.aa<1000)
 (∀r∈g.aa,r.CA<|J g.Aq)
 (Ma g.aa.zipIdx<=1000000)
class inductive Ei(R:-Bp)(K:Nat->Prop):Nat->Prop where
 |ba {a:Nat}:K a->Ei R K a
 |aO {x:Bp}:x∈R->(∀s∈x.r,Ei R K s)->Ei R K x.l
def AD(K:-Bool)(s:Nat):Bool:=K.getD s Ab
def Dq(N:Nat)(f:Nat->α):-α:=(Cg N).map f
section
variable{v:α}
def c1:(Dq N f).length=N:=by unfold Dq;rw[Bq,Gy]
def et(a:x<N):(Dq N f).getD x d=f x:=by rw[CO,Gw,tF a];rfl
def abb:(Dq N f).set x v=Dq N λs=>if s=x then v else f s:=by
 unfold Dq;calc Z2 (by rw[Mk,Bq,Bq]) λi Ag a=>?_;rw[List.getElem_set,WC,WC,Z3];by_cases e:x=i
 ·rw[ao e,ao e.symm]
 ·rw[ai e,ai λz=>e z.symm]
def pw(e:∀s,s<N->f s=h s):Dq N f=Dq N h:=FI λs a=>e s<|cU a
end
def D1(K:-Bool)(rs:-(Bp×Nat))(w:-Nat)(j s:Nat):-Nat:=if AD K s=Y then [] else(rs.flatMap λp=>CV (p.1.r.count s) p.2)++CV (w.count s) j
abbrev NO(K:-Bool)(w:-Nat):Nat:=w.countP λs=>!AD K s
def px{K:-Bool}:(D1 K rs w j s).length<=Ma rs+J w:=by
 unfold D1
 split
 ·exact C9 _
 ·rw[BD,MJ];calc EL ?_ tG;cases rs with
  |nil=>calc CE _|cons p rs a=>
   rw[VD,BD,MJ];calc EL tG a
def abc{K:-Bool}(a:x<N):Dq N (D1 K rs (w++[x]) j)=if AD K x=Y then Dq N (D1 K rs w j) else(Dq N<|D1 K rs w j).set x (D1 K rs w j x++[j]):=by
 by_cases k:AD K x=Y
 ·rw[ao k];calc pw λs Z=>?_;unfold D1;by_cases c:s=x
  ·rw[c,ao k,ao k]
  ·rw[Yb,AjF,ai λz=>c (eq_of_beq z).symm,VE]
 ·rw[ai k,abb];calc pw λs Z=>?_;unfold D1;by_cases c:s=x
  ·rw[ao c,c,ai k,ai k,Yb,List.count_singleton_self,Dr,List.replicate_succ']
  ·rw[ai c,Yb,AjF,ai λz=>c (eq_of_beq z).symm,VE]
def abd{K:-Bool}:D1 K rs r.r j=D1 K (rs++[(r,j)]) [] 0:=funext λs=>by unfold D1;rw[tE,List.flatMap_singleton,VF,tH,Ct]
def pz(q:Nat):∀(R:-Bp) (n i:Nat),i<J R->((R.zipIdx n).flatMap λp=>CV (p.1.r.count q) p.2).count (n+i)=(R.getD i Bz).r.count q
 |r::R,n,0,_=>by
  have a:((R.zipIdx<|n+1).flatMap λp=>CV (p.1.r.count q) p.2).count n=0:=List.count_eq_zero.mpr λh=>by exact ae (Yc.mp h) λp b h=>ar (List.le_snd_of_mem_zipIdx b)<|X5.mpr<|(Vo.mp h).2∣EM n
  rw[AjG,VD,Yb,VE,a,List.count_replicate_self];rfl
 |r::R,n,i+1,h=>by rw[AjG,VD,Yb,List.count_replicate,ai λz=>EX (Pm<|F0 i)<|eq_of_beq z,EV];calc(ah (List.count · _)<|Hb n 1 i).symm^pz q R (n+1) i (MU h)
def abe{K:-Bool}{R:-Bp}(Ax:AD K q=Ab)(a:i<J R):(D1 K R.zipIdx [] 0 q).count i=(R.getD i Bz).r.count q:=by unfold D1;rw[ai (by rw[Ax];decide),VF,tH,Ct];have:=pz q R 0 i a;rw[EV] at this;calc this
def abf{K:-Bool}{R:-Bp}(h:i∈D1 K R.zipIdx [] 0 q):i<J R:=by
 clear K R q i _ h;unfold D1 at h
 split at h
 ·cases h
 ·rw[VF,tH,Ct] at h;calc ae (Yc.mp h) λp a h=>(Vo.mp h).2⊂Yd a
structure PU where
 R:↑Bp
 K:-Bool
structure HC where
 Cs:↑Nat
 AF:↑Bool
 D2:-Nat
noncomputable def PU.r(X:PU)(i:Nat):Bp:=X.R.getD i Bz
noncomputable def PU.gen(X:PU):Nat->Prop:=Ei X.R λs=>AD X.K s=Y
def TK(K:-Bool)(B2 w:-Nat):Nat:=w.countP λs=>!AD K s&&!B2.contains s
def ES(X:PU)(zs:Nat->Prop)(B2 a:-Nat)(s:HC):Prop:=S0
 (J s.Cs=J X.R)
 (J s.AF=J X.K)
 (∀t,AD s.AF t=Y↔AD X.K t=Y\/t∈s.D2)
 (s.D2.Nodup)
 (∀t∈s.D2,t<J X.K/\AD X.K t=Ab/\X.gen t)
 (∀i,i<J X.R->s.Cs.getD i 0=TK X.K B2 (X.r i).r+a.count i)
 (∀i,zs i->i<J X.R->s.Cs.getD i 0=0->AD s.AF (X.r i).l=Y)
 (∀t∈B2,t∈s.D2)
section
variable{B2:-Nat}{K:-Bool}
def bJ{l:-α}(h:i<J l):l.getD i d∈l:=by rw[CO,Dv h];calc SW h
def dK{s:Nat}(h:s<J AF):AD (AF.set s Y) t=Y↔AD AF t=Y\/t=s:=by
 unfold AD;rw[CO,CO,AjH];by_cases e:s=t;·subst e;rw[ao rfl,ao h];exact {λZ=>.inr rfl,λZ=>rfl}
 ·rw[ai e];calc {.inl,λz=>z.elim id λz=>ar z.symm e}
def cZ{l:-α}{v:α}(h:i<J l):(l.set i v).getD j d=if i=j then v else l.getD j d:=by
 rw[CO,CO,AjH];by_cases e:i=j;·rw[ao e,ao e,ao h];rfl
 ·rw[ai e,ai e]
def ES.gen(S:ES X zs B2 d s)(b:i<J X.R)(h:TK X.K B2 (X.r i).r=0):X.gen (X.r i).l:=.aO (bJ b) λt c=>by
 have:=AjI.mp h t c;cases Ax:AD X.K t with
 |true=>calc .ba Ax|false=>
  cases a:B2.contains t with
  |true=>calc(S.5 t<|S.8 t<|Ye.mp a).2.2|false=>rw[Ax,a] at this;calc ar rfl this
def HC.PA(s:HC)(t:Nat):HC:={s.Cs,s.AF.set t Y,s.D2++[t]}
theorem ES.PA(S:ES X zs B2 g s)(c:t<J X.K)(f:AD s.AF t=Ab)(i:X.gen t):ES X zs B2 g (s.PA t):=⟨
 (S.1),
 (Mk ..^S.2),
 (λu=>(dK<|S.2⊂c).trans (by rw[S.3,or_assoc];calc or_congr_right (Mj.trans<|or_congr_right Io).symm)),
 (cv {S.4,cw {CR,HL},λa l b m e=>Bool.noConfusion<|f.symm^(S.3 t).mpr (.inr<|aF m▸rwl e l)}),
 (λu d=>(aN d).elim (S.5 u) λh=>aF h⊂{c,QA.mpr λa=>Bool.noConfusion<|f.symm^(S.3 t).mpr (.inl a),i}),
 (S.6),
 (λj a o p=>(dK<|S.2⊂c).mpr<|.inl<|S.7 j a o p),
 (λu d=>CL _<|S.8 u d)⟩
def HC.Nl(X:PU)(s:HC)(i:Nat):HC:=if s.Cs.getD i 0=0/\AD s.AF (X.r i).l=Ab then s.PA (X.r i).l else s
def ES.bY(S:ES X zs B2 a s)(h:∀j,b j->zs j):ES X b B2 a s:={S.1,S.2,S.3,S.4,S.5,S.6,(λj c=>S.7 j<|h j c),S.8}
theorem ES.Nl(S:ES X zs B2 f s)(g:i<J X.R)(d:(X.r i).l<J X.K)(h:s.Cs.getD i 0=0->TK X.K B2 (X.r i).r=0):ES X (λj=>zs j\/j=i) B2 f (s.Nl X i):=by
 unfold HC.Nl;by_cases c:s.Cs.getD i 0=0/\AD s.AF (X.r i).l=Ab;·rw[ao c];have H:=S.PA d c.2<|S.gen g<|h c.1;exact {H.1,H.2,H.3,H.4,H.5,H.6,(λj c b a=>c.elim (λc=>H.7 j c b a) λe=>by subst e;calc(dK<|S.2⊂d).mpr<|.inr rfl),H.8}
 ·rw[ai c];calc {S.1,S.2,S.3,S.4,S.5,S.6,(λj d b a=>d.elim (λd=>S.7 j d b a) λe=>e▸eq_true_of_ne_false λq=>c {e∣a,q}),S.8}
def abg(X:PU)(s:HC)(i:Nat):∃x,(s.Nl X i).D2=s.D2++x:=by
 unfold HC.Nl
 split
 ·exact {_,rfl}
 ·calc {[],(Ct _).symm}
noncomputable def HC.low(s:HC)(i:Nat):HC:={s.Cs.set i<|s.Cs.getD i 0-1,s.AF,s.D2}
def ES.pos(S:ES X zs B2 (i::b) s)(a:i<J X.R):1<=s.Cs.getD i 0:=by rw[S.6 i a,AjL];calc Iv 1 _
def ES.low(S:ES X zs B2 (i::c) s)(b:i<J X.R):ES X (λj=>zs j/\j≠i) B2 c (s.low i):=⟨
 (Mk ..^S.1),
 (S.2),
 (S.3),
 (S.4),
 (S.5),
 (λj d=>by
  rw[cZ<|S.1▸b];by_cases e:i=j;·subst e;rw[ao rfl,S.6 i b,AjL];rfl
  ·rw[ai e,S.6 j d,List.count_cons_of_ne e]),
 (λj c f a=>S.7 j c.1 f (by
  have a:(s.Cs.set i _).getD j 0=0:=a;rw[cZ<|S.1⊂b,ai λe=>c.2 e.symm] at a;calc a)),
 (S.8)⟩
def ES.aU(S:ES X (λZ=>True) B2 (i::b) s)(a:i<J X.R)(c:(X.r i).l<J X.K):ES X (λZ=>True) B2 b ((s.low i).Nl X i):=
 ((S.low a).Nl a c λz=>(tI.mp<|((S.low a).6 i a).symm^z).1).bY λj Z=>AjC (j=i)|>.elim .inr λh=>.inl {trivial,h}
def abh(Ax:AD K q=Ab)(d:q∉B2)(w:-Nat):TK K B2 w=TK K (B2++[q]) w+w.count q:=by
 cases w with
 |nil=>rfl|cons a w b=>
  unfold TK at b⊢;rw[WD,WD,List.count_cons,b];by_cases e:a=q;·subst e;rw[Ax,(QA.mpr λz=>d<|Ye.mp z),Ye.mpr<|BH _<|.head _,beq_self_eq_true];rfl
  ·have c:(B2++[q]).contains a=B2.contains a:=cn (by rw[Ye,Ye,Mj,Io];calc {λh=>h.resolve_right e,.inl});rw[c,ai λz=>e<|eq_of_beq z,Hb];rfl
def ES.aX{q:Nat}(S:ES X zs B2 [] s)(a:q∈s.D2)(c:q∉B2)(d:∀j,j<J X.R->AG.count j=(X.r j).r.count q):ES X zs (B2++[q]) AG s:=
 {S.1,S.2,S.3,S.4,S.5,(λj b=>by rw[S.6 j b,d j b,VF,VE,abh (S.5 q a).2.1 c]),S.7,λt e=>(aN e).elim (S.8 t) λh=>aF h⊂a}
def ES.af(S:ES X (λZ=>True) B2 [] s)(h:∀t∈s.D2,t∈B2)(t:Nat):AD s.AF t=Y↔X.gen t:=by
 calc {λa=>((S.3 t).mp a).elim (λc=>Ei.ba c) λa=>(S.5 t a).2.2,λa=>?_};cases a with
 |ba Ag=>calc(S.3 _).mpr<|.inl Ag|aO f _ d=>
  obtain⟨i,b,rfl⟩:=Pn f;have e:X.r i=X.R[i]:=by unfold PU.r;rw[CO,Dv b];rfl
  rw[<-e] at d⊢;calc S.7 i trivial b<|S.6 i b^?_;calc VE _^AjI.mpr λt a=>?_;rcases(S.3 t).mp (d t a) with c|c
  ·rw[c];exact br
  ·rw[Ye.mpr<|h t c,ZY,Pk];calc br
end
def eu:∀{N:Nat} {l:-Nat},l.Nodup->(∀s∈l,s<N)->J l<=N
 |0,[]=>λZ Z=>CE _|0,a::_=>λZ h=>ar (h a Z4)<|I2 _|N+1,l=>λb h=>by
  have Ag:=eu (b.erase N) λs a=>have q:=(List.Nodup.mem_erase_iff b).mp a;SX (Mm<|h s q.2) q.1;rw[List.length_erase] at Ag
  split at Ag
  ·exact Nat.le_add_of_sub_le Ag
  ·calc Ml Ag
def GN(g:AK)(K:-Bool)(s:HC)(AG:↑↑Nat)(r:Bp×Nat)(m x a n l:Nat):Ao Gn:=(g,K,s.AF,s.Cs,AG,s.D2,r,m,x,a,n,l,())
section
variable{w:Bk}{k:Nat}{g:AK}{K:-Bool}{r:Bp×Nat}{m x a n l:Nat}
def abi(b:x<J s.AF/\Cu x)(d:x<J AG)(e:AP (AG.getD x []).length)(f:AD s.AF x=Y->P.av (GN g K s AG r m x a n l))(h:AD s.AF x=Ab->P.av (GN g K s (AG.set x<|AG.getD x []++[r.2]) r (m+1) x a n l)):OI.wp w (GN g K s AG r m x a n l) P:=
 {b,bZ (λc=>{{d,b.2},e,h c}) f}
def abj{w:-Nat}:NO K (w++[x])=if AD K x=Y then NO K w else NO K w+1:=by show Pp _ _=_;rw[List.countP_append,List.countP_singleton];cases AD K x<;>rfl
def Adp(g:AK)(K:-Bool)(s:HC)(rs:-(Bp×Nat))(r:Bp×Nat)(x a n l:Nat)(xs:-Nat)(Af:Ao Gn):Prop:=∃Ah,Ah++xs=r.1.r/\Af=GN g K s (Dq (J K)<|D1 K rs Ah r.2) r (NO K Ah) x a n l
def abk(d:s.AF=K)(o:J K<=1000000)(j:r.1.CA (J K))(p:AP (Ma rs+J r.1.r))(q:AP (J s.Cs))(h:P.av (GN g K {s.Cs++[NO K r.1.r],s.AF,s.D2} (Dq (J K)<|D1 K (rs++[r]) [] 0) r (NO K r.1.r) x a n l)):OL.wp w (GN g K s (Dq (J K)<|D1 K rs [] r.2) r m x a n l) P:=by
 refine {BY j.3\∅,Adp g K s rs r x a n l,{[],rfl,rfl},λy Al Af i=>?_,λAf i=>?_}
 ·obtain⟨Ah,e,f⟩:=i;subst f;have b:=j.2 y<|e∣BH _ (.head _);have go:Adp g K s rs r x a n l Al (GN g K s (Dq (J K)<|D1 K rs (Ah++[y]) r.2) r (NO K<|Ah++[y]) x a n l):={Ah++[y],(Dr Ah [y] Al^e),rfl}
  rw[abc b,abj] at go;show OI.wp w (GN g K s (Dq (J K)<|D1 K rs Ah r.2) r (NO K Ah) y a n l) _;refine abi (d⊂{b,Cu.lt b o}) (c1⊂b) ?_ (λc=>?_) λc=>?_
  ·rw[et b];exact px\(Du (by rw[<-e,BD];calc CD _ _) _\p)
  ·rw[d] at c;rw[ao c,ao c] at go;exact go
  ·rw[d] at c;have c:¬AD K y=Y:=by rw[c];nofun
   rw[ai c,ai c] at go;rw[(et b)];exact go
 ·obtain⟨Ah,e,f⟩:=i;subst f;rw[Ct] at e;subst e;rw[abd] at*;calc {q,h}
def abl(e:r.2<J s.Cs/\Cu r.2)(b:r.1.l<J s.AF/\Cu r.1.l)(f:X.r r.2=r.1)(i:AP (J s.D2))(h:P.av (GN g K (s.Nl X r.2) AG r m x a n l)):OM.wp w (GN g K s AG r m x a n l) P:=by
 unfold HC.Nl at h;rw[f] at h;calc {e,bV (λc=>{b,bZ (λd=>?_) λd=>?_}) λc=>?_};·rw[ao {c,d}] at h;exact {b,i,h}
 ·rw[ai λz=>Bool.noConfusion<|z.2.symm.trans d] at h;exact h
 ·rw[ai λz=>c z.1] at h;calc h
def fP{R:-Bp}(h:n<J R):R.zipIdx.getD n (Bz,0)=(R.getD n Bz,n):=by rw[CO,kz,CO,Dv h,EV];rfl
def abm(b:n<J s.Cs/\Cu n)(Ag:1<=s.Cs.getD n 0)(f:n<J g.aa)(e:(g.aa.getD n Bz).l<J s.AF/\Cu (g.aa.getD n Bz).l)(i:AP (J s.D2))(h:P.av (GN g K ((s.low n).Nl {g.aa,K} n) AG r m x a n (g.aa.getD n Bz).l)):ON.wp w (GN g K s AG r m x a n l) P:=by
 unfold HC.Nl PU.r at h;have j:(g.aa.zipIdx.getD n (Bz,0)).1.l=(g.aa.getD n Bz).l:=by rw[fP f]
 dsimp only at h;rw[<-j] at h e;calc {b,Ag,b,{Fb⊂f,b.2},{(Mk ..).symm∣b.1,b.2},bV (λc=>{e,bZ (λd=>?_) λd=>?_}) λc=>?_};·rw[ao {c,d}] at h;exact {e,i,h}
 ·rw[ai λz=>Bool.noConfusion<|z.2.symm.trans d] at h;exact h
 ·rw[ai λz=>c z.1] at h;calc h
def AhY(g:AK)(K:-Bool)(s:HC)(AG:↑↑Nat)(r:Bp×Nat)(m x a n l:Nat)(xs:-Nat)(Af:Ao Gn):Prop:=∃s',Af=GN g K s' AG r m x a n l/\(∀i∈xs,i<J g.aa)/\ES {g.aa,K} (λZ=>True) (s.D2.take a++[s.D2.getD a 0]) xs s'/\∃y,s'.D2=s.D2++y
def abn(f:g.CA)(u:J K=J g.Aq)(c:a<J s.D2)(S:ES {g.aa,K} (λZ=>True) (s.D2.take a) [] s)(h:∀s',ES {g.aa,K} (λZ=>True) (s'.D2.take<|a+1) [] s'->a+1<=J s'.D2->P.av (GN g K s' (Dq (J K)<|D1 K g.aa.zipIdx [] 0) r m x (a+1) n l)):OP.wp w (GN g K s (Dq (J K)<|D1 K g.aa.zipIdx [] 0) r m x a n l) P:=by
 clear w g K r m x a n l P _ s f u c S h;have o:J K<=1000000:=u⊂(BY f.1\∅);have room:∀{zs B2 E} {s:HC},ES {g.aa,K} zs B2 E s->J s.D2<=J K:=λS=>eu S.4 λt F=>(S.5 t F).1;have q:=S.5 _<|bJ (d:=0) c;have G:∀i,i<J g.aa->(g.aa.getD i Bz).l<J K:=λi b=>u⊂(f.4 _<|bJ b).1;have tk:s.D2.take (a+1)=s.D2.take a++[s.D2.getD a 0]:=by rw[Vz,CO,Dv c];rfl
 have ab:s.D2.getD a 0∉s.D2.take a:=λz=>by have Ag:=S.4;rw[<-ky (a+1) s.D2,tk] at Ag;exact(dI<|dH Ag) _ z _ (Io.mpr rfl) rfl
 have A:(Dq (J K)<|D1 K g.aa.zipIdx [] 0).getD (s.D2.getD a 0) []=D1 K g.aa.zipIdx [] 0 (s.D2.getD a 0):=et q.1;have H:=S.aX (bJ (d:=0) c) ab (AG:=(Dq (J K)<|D1 K g.aa.zipIdx [] 0).getD (s.D2.getD a 0) []) λj B=>A⊂abe q.2.1 B;have I:∀i∈(Dq (J K)<|D1 K g.aa.zipIdx [] 0).getD (s.D2.getD a 0) [],i<J g.aa:=λi b=>abf<|A∣b;refine {{c,Cu.lt c<|room S\o},{c1⊂q.1,Cu.lt q.1 o},?_,AhY g K s (Dq (J K)<|D1 K g.aa.zipIdx [] 0) r m x a n l,{s,rfl,I,H,[],(Ct _).symm},λi xs Af z=>?_,λAf z=>?_}
 ·show AP ((Dq (J K)<|D1 K g.aa.zipIdx [] 0).getD (s.D2.getD a 0) []).length;rw[A];exact px\f.5
 ·obtain⟨s',rfl,D,e,y,p⟩:=z;have b:=D i<|.head _;have C:=G i b;show ON.wp w (GN g K s' (Dq (J K)<|D1 K g.aa.zipIdx [] 0) r m x a i l) _;calc abm {e.1⊂b,Cu.lt b<|BY f.3\∅} (e.pos b) b {e.2⊂C,Cu.lt C o} (room e\o) ?_;obtain⟨z,L⟩:=abg {g.aa,K} (s'.low i) i;exact {_,rfl,λj B=>D j<|.tail _ B,e.aU b C,y++z,L^(by rw[<-Dr,<-p];rfl)}
 ·obtain⟨s',rfl,-,e,y,p⟩:=z;calc h s' ?_ (by rw[p,BD];calc c\CD _ _);rw[p,AjM c,tk];calc e
def abo{R:-Bp}(h:rs++p::AN=R.zipIdx):J rs<J R/\p=(R.getD (J rs) Bz,J rs):=by
 have b:J rs<J R:=by have e:=ah J h;rw[BD,Fb] at e;exact e∣Pm (F0 _)
 calc {b,?_};have e:=fP b;rw[<-h,CO,Qz<|CE _,WH] at e;calc e
def abp:(K.filter λZ=>Y).map (λZ=>([]:-Nat))=Dq (J K) (D1 K [] [] 0):=by rw[Z8.mpr λZ Z=>rfl];unfold Dq;rw[AjN,show D1 K [] [] 0=λZ=>[] from funext λs=>by unfold D1;split<;>rfl,AjN,Gy]
def AhU(g:AK)(K:-Bool)(AN:-(Bp×Nat))(Af:Ao Gn):Prop:=∃rs,rs++AN=g.aa.zipIdx/\Af=GN g K {rs.map λp=>NO K p.1.r,K,[]} (Dq (J K)<|D1 K rs [] 0) (Bz,0) 0 0 0 0 0
def AhV(g:AK)(K:-Bool)(AN:-(Bp×Nat))(Af:Ao Gn):Prop:=∃rs s,rs++AN=g.aa.zipIdx/\Af=GN g K s (Dq (J K)<|D1 K g.aa.zipIdx [] 0) (Bz,0) 0 0 0 0 0/\ES {g.aa,K} (λj=>j<J rs) [] [] s
def AhJ(g:AK)(K:-Bool)(b:Nat)(Af:Ao Gn):Prop:=∃s a,Af=GN g K s (Dq (J K)<|D1 K g.aa.zipIdx [] 0) (Bz,0) 0 0 a 0 0/\ES {g.aa,K} (λZ=>True) (s.D2.take a) [] s/\a<=J s.D2/\b=J K-a
def abq:ES {g.aa,K} (λj=>j<0) [] [] {g.aa.zipIdx.map λp=>NO K p.1.r,K,[]}:=⟨
 (by rw[Bq,Fb]),
 (rfl),
 (λt=>{.inl,λz=>z.elim id c3}),
 (.nil),
 (az),
 (λi b=>by rw[CO,Gw,kz,Dv b,VF];unfold TK PU.r;rw[CO,Dv b];calc ah (Pp · _)<|funext λs=>(jO _).symm),
 (nofun),
 (az)⟩
def pA(d:g.CA)(q:J K=J g.Aq):Ug.BZ (w^^k+1) (g,K,()) λAF=>J AF=J K/\∀t,AD AF t=Y↔Ei g.aa (λs=>AD K s=Y) t:=by
 clear w k g K _ d q;have f:AP (J K):=q⊂(BY d.1\∅);have y:AP (J g.aa.zipIdx):=by rw[Fb];exact BY d.3\∅
 have ok:∀{rs:-(Bp×Nat)} {p AN},rs++p::AN=g.aa.zipIdx->p.1.CA (J K):=λe=>q⊂d.4 _ (kA<|e▸BH _ (.head _));have room:∀{zs B2 B} {s:HC},ES {g.aa,K} zs B2 B s->J s.D2<=J K:=λS=>eu S.4 λt A=>(S.5 t A).1;calc aY aai {f,f,f,λZ=>Y,λZ=>[],λZ Z=>{rfl,λZ=>rfl},?_};refine {y,AhU g K,{[],rfl,ah (λa=>GN g K {[],K,[]} a (Bz,0) 0 0 0 0 0) abp},λp AN Af i=>?_,λAf i=>?_}
 ·obtain⟨rs,e,b⟩:=i;subst b;show OL.wp w (GN g K {rs.map λp=>NO K p.1.r,K,[]} (Dq (J K)<|D1 K rs [] p.2) p 0 0 0 0 0) _;calc abk rfl f (ok e) ?_ ?_ {rs++[p],Dr rs [p] AN^e,?_};·calc ?_\d.5;rw[<-e];unfold Ma;rw[Ee,List.sum_append_nat,HI,List.sum_cons,<-El];exact CD _ _
  ·show AP (rs.map _).length;rw[Bq];calc ?_\y;rw[<-e,BD];exact CD _ _
  ·rw[Ee];rfl
 ·obtain⟨rs,e,b⟩:=i;subst b;rw[Ct] at e;subst e;calc {y,AhV g K,{[],_,rfl,rfl,abq},λp AN Af i=>?_,λAf i=>?_};·obtain⟨rs,s,e,b,S⟩:=i;subst b;obtain⟨u,b⟩:=abo e;subst b;have o:=ok e;show OM.wp w (GN g K s (Dq (J K)<|D1 K g.aa.zipIdx [] 0) (g.aa.getD (J rs) Bz,J rs) 0 0 0 0 0) _;calc abl (X:={g.aa,K}) {S.1⊂u,Cu.lt u<|BY d.3\∅} {S.2⊂o.1,Cu.lt o.1 f} rfl (room S\f) {_,_,Dr rs [_] AN^e,rfl,?_};calc(S.Nl u o.1 λz=>(S.6 _ u).symm^z).bY λj h=>?_;rw[BD] at h;exact kB.mp h
  ·obtain⟨rs,s,e,b,S⟩:=i;subst b;rw[Ct] at e;calc {AhJ g K,{J K,s,0,rfl,{S.1,S.2,S.3,S.4,S.5,S.6,(λj Z h=>S.7 j (by rw[e,Fb];calc h) h),S.8},C9 _,rfl},λE Af i=>?_};obtain⟨s,a,b,S,F,C⟩:=i;subst b;subst C;calc {room S\f,bV (λc=>?_) λc=>{S.2,S.af λt A=>?_}};·show OP.wp w (GN g K s (Dq (J K)<|D1 K g.aa.zipIdx [] 0) (Bz,0) 0 0 a 0 0) _;exact abn d q c S λb D d=>{J K-(a+1),Rg (Cw c<|room S)<|EM a,b,a+1,rfl,D,d,rfl}
   ·calc(X3 (l:=s.D2)<|bM c).symm∣A
end
def Ei.bY{K:Nat->Prop}(h:∀s,K s->b s)(g:Ei R K a):Ei R b a:=by
 cases g with
 |ba k=>calc .ba<|h _ k|aO c _ d=>calc .aO c d
def Ei.pB{K:Nat->Prop}(h:∀s,K s↔b s):Ei R K a↔Ei R b a:={.bY λs=>(h s).mp,.bY λs=>(h s).mpr}
def pC(n s:Nat):AD (CV n Ab) s=Ab:=by
 unfold AD;rw[CO,ki]
 split<;>rfl
abbrev CY(g:AK):Nat->Prop:=Ei g.aa λZ=>False
abbrev Mb(g:AK):Nat->Prop:=Ei g.aa λs=>s<g.Ad
def GP(g:AK)(S:Nat->Prop)(AF:-Bool):Prop:=Em
 (J AF=J g.Aq)
 (∀t,AD AF t=Y↔S t)
section
variable{w:Bk}{k:Nat}{g:AK}
def AK.CA.aB(a:g.CA):AP (J g.Aq):=BY a.1\∅
def AK.CA.bA(a:g.CA):AP (J g.aa.zipIdx):=by rw[Fb];calc BY a.3\∅
def AK.CA.aw(a:g.CA)(h:s<J g.Aq):Cu s:=Cu.lt h a.aB
def e3(a:g.CA):R6.BZ (w^^k+2) (g,()) (GP g<|CY g):=by clear w k g _ a;calc aY aaj<|(dp a.aB).aq λn e=>{Ab,rfl,e⊂a.aB,(pA a<|MJ.trans e).aq λa q=>{q.1.trans<|MJ.trans e,λt=>(q.2 t).trans (Ei.pB λs=>by rw[pC];calc {br,nofun})}}
def b8(f:α->β)(xs:-α):(xs.filter λZ=>Y).map f=xs.map f:=by rw[Z8.mpr λZ Z=>rfl]
def abr{n:Nat}(A4:c<=n):AD ((Cn 0 n).map λs=>decide<|s<c) s=Y↔s<c:=by
 unfold AD;rw[<-X7,CO,Gw];by_cases h:s<n;·rw[tF h];exact bB
 ·rw[Ws (by rw[Gy];calc bM h)];calc {br,λz=>ar (Cw z A4) h}
def iU(a:g.CA):K7.BZ (w^^k+2) (g,()) (GP g<|Mb g):=by
 clear w k g _ a;calc aY aak ((dp a.aB).aq λn e=>⟨e⊂a.aB,by show AP (Cn 0 n).length;rw[H6,e];exact a.aB,λ(Z:Nat)=>Y,λ(s:Nat)=>decide<|s<g.Ad,λx Z=>{rfl,λZ=>e2},by
   rw[b8];have b:((Cn 0 n).map λ(s:Nat)=>decide<|s<g.Ad).length=J g.Aq:=by rw[Bq,H6,e]
   calc(pA a b).aq λc q=>{q.1.trans b,λt=>(q.2 t).trans<|Ei.pB λs=>abr<|e⊂BY a.2}⟩)
end
section
variable{t:Az}{σ:Type}{b:Au V Bd BO}
def fQ(e:σ->Bool->Ao V)(Inv BI:σ->Prop)(a:σ->Nat){Af:Ao V}{P:FK V Bd}{s0:σ}(d:Af=e s0 Y)(A4:∀s z Q,Q z->c.wp w (e s z) Q)
  (f:∀s (AV:Ao V->Prop),Inv s->(∀s' z,Inv s'->(z=Y->a s'<a s)->(z=Ab->BI s')->AV (e s' z))->b.wp w (e s Y) (G1 D Af AV P))(g:Inv s0)(BA:∀s,Inv s->BI s->P.av (e s Ab)):(LD D c b).wp w Af P:=by
 clear V Bd BO σ w D _ e Inv BI a Af P _ b c s0 d A4 f g BA;calc⟨λn h=>∃s z,h=e s z/\Inv s/\(z=Y->n=a s+1)/\(z=Ab->n=0/\BI s),{a s0+1,s0,Y,d,g,λZ=>rfl,gj},λn h i=>by
   obtain⟨s,z,rfl,i,j,m⟩:=i;calc A4 s z _ ?_;cases z with
   |false=>calc BA s i (m rfl).2|true=>
    calc f s _ i λs' z l Ag o=>?_;cases z with
    |true=>calc {_,(j rfl).symm∣Wx (Ag rfl),s',Y,rfl,l,λZ=>rfl,gj}|false=>calc {0,(j rfl).symm∣F0 _,s',Ab,rfl,l,br,λZ=>{rfl,o rfl}}⟩
def iV{g:ME V t}(e:σ->Ao V)(I:-t.AR->σ->Prop)(d:a=e s0)(f:I xs s0)
  (h:∀x l s (AV:Ao V->Prop),I (x::l) s->(∀s',I l s'->AV (e s'))->b.wp w (g.BG x<|e s) (G1 D Af AV P))(BA:∀s,I [] s->P.av (e s)):∃I:-t.AR->Ao V->Prop,I xs a/\(∀x l c,I (x::l) c->b.wp w (g.BG x c) (G1 D Af (I l) P))/\∀c,I [] c->P.av c:=
 {λl a=>∃s,a=e s/\I l s,{s0,d,f},λx l a i=>Exists.elim i λs i=>i.1▸h x l s _ i.2 λa i=>{a,rfl,i},λa i=>Exists.elim i λs i=>i.1⊂BA s i.2}
def dD(e:σ->Ao V)(I:-t.AR->σ->Prop)(a:∀Q,Q xs->q.wp w Af Q)(c:Af=e s0)(d:I xs s0)
  (f:∀x l s (AV:Ao V->Prop),I (x::l) s->(∀s',I l s'->AV (e s'))->b.wp w (g.BG x<|e s) (G1 D Af AV P))(BA:∀s,I [] s->P.av (e s)):(Ca D g q b).wp w Af P:=
 a _ (iV e I c d f BA)
def c2(e:-t.AR->Ao V)(a:∀Q,Q xs->q.wp w Af Q)(c:Af=e [])
  (d:∀Al x l (AV:Ao V->Prop),Al++x::l=xs->AV (e<|Al++[x])->b.wp w (g.BG x<|e Al) (G1 D Af AV P))(BA:P.av (e xs)):(Ca D g q b).wp w Af P:=
 dD e (λl a=>a++l=xs) a c rfl (λx l a b i f=>d a x l b i<|f _<|Dr a [x] l^i) λa i=>((Ct a).symm^i).symm∣BA
abbrev iJ(w:Bk)(D:-Bool)(g:ME V t)(b:Au V Bd BO)(Af c:Ao V)(P:FK V Bd)(xs:-t.AR):Prop:=∃I:-t.AR->Ao V->Prop,I xs c/\(∀x l a,I (x::l) a->b.wp w (g.BG x a) (G1 D Af (I l) P))/\∀a,I [] a->P.av a
def iO(e:σ->Ao V)(I:-t.AR->σ->Prop)(a:c=e s0)(d:I [] s0)
  (f:∀Al x l s (AV:Ao V->Prop),Al++x::l=xs->I Al s->(∀s',I (Al++[x]) s'->AV (e s'))->b.wp w (g.BG x<|e s) (G1 D Af AV P))(BA:∀s,I xs s->P.av (e s)):iJ w D g b Af c P xs:=
 iV (λq=>e q.2) (λl q=>q.1++l=xs/\I q.1 q.2) (s0:=([],s0)) a {rfl,d} (λx l q a i h=>f q.1 x l q.2 a i.1 i.2 λa j=>h (q.1++[x],a) {Dr q.1 [x] l^i.1,j}) λq i=>BA q.2<|((Ct q.1).symm^i.1)∣i.2
def b1(e:σ->Ao V)(I:-t.AR->σ->Prop)(a:∀Q,Q xs->q.wp w Af Q)(c:Af=e s0)(d:I [] s0)
  (f:∀Al x l s (AV:Ao V->Prop),Al++x::l=xs->I Al s->(∀s',I (Al++[x]) s'->AV (e s'))->b.wp w (g.BG x<|e s) (G1 D Af AV P))(BA:∀s,I xs s->P.av (e s)):(Ca D g q b).wp w Af P:=a _<|iO e I c d f BA
def fR{q:Gm V O}(e:σ->Ao V)(I:Nat->σ->Prop){n:Nat}(f:∀Q,Q (Cn m<|n-m)->q.wp w Af Q)(j:Af=e s0)(o:m<=n)(d:I m s0)
  (p:∀i s (AV:Ao V->Prop),m<=i->i<n->I i s->(∀s',I (i+1) s'->AV (e s'))->b.wp w (g.BG i<|e s) (G1 D Af AV P))(BA:∀s,I n s->P.av (e s)):(Ca D g q b).wp w Af P:=
 dD (σ:=Nat×σ) (λq=>e q.2) (λl q=>(m<=q.1/\q.1<=n/\l=Cn q.1 (n-q.1))/\I q.1 q.2) (s0:=(m,s0)) f j {{CE m,o,rfl},d} (λx l q b h r=>by
  obtain⟨⟨d,Ag,a⟩,i⟩:=h;have lt:=SX Ag λz=>by rw[z,WH] at a;delta a
  rw[<-Nat.succ_pred_eq_of_pos (kC lt),ks] at a;have c:=Ge a;calc c.1▸p q.1 q.2 b d lt i λa u=>r (q.1+1,a) {{Ml d,lt,c.2^ah (Cn<|q.1+1) (Nat.sub_succ n q.1).symm},u}) λq h=>by obtain⟨⟨-,Ag,a⟩,i⟩:=h;calc BA q.2<|Qy Ag (AjP<|(H6▸ah J a).symm)∣i
def i0{q:Gm V O}(e:Nat->Ao V){n:Nat}(a:∀Q,Q (Cn m<|n-m)->q.wp w Af Q)(c:Af=e m)(d:m<=n)
  (f:∀i (AV:Ao V->Prop),m<=i->i<n->AV (e<|i+1)->b.wp w (g.BG i<|e i) (G1 D Af AV P))(BA:P.av (e n)):(Ca D g q b).wp w Af P:=
 fR e (λi s=>s=i) a c d rfl (λi s a b h i j=>i∣f s a (i▸b) (i▸h) (j _<|by rw[i])) λs i=>i⊂BA
def e4(e:σ->Ao V)(Inv:σ->Prop)(a:σ->Nat)(f:Af=e s0)(g:Inv s0)
  (j:∀s (AV:Ao V->Prop),Inv s->(∀s',Inv s'->a s'<a s->AV (e s'))->c.wp w (e s) λz=>if z=Y then b.wp w (e s) (G1 D Af AV P) else P.av (e s)):(LD D c b).wp w Af P:=
 {λn d=>∃s,d=e s/\Inv s/\n=a s,{a s0,s0,f,g,rfl},λn d i=>Exists.elim i λs i=>i.1▸j s _ i.2.1 λb l h=>{a b,i.2.2⊂h,b,rfl,l,rfl}}
def i1(e:σ->Bool->Ao V)(Inv:σ->Prop)(a:σ->Nat)(C:σ->t.AR->Prop)(f:j=e s0 UL)
  (m:∀s z x (AV:Ao V->Prop),x∈xs->Inv s->(C s x->AV (e s z))->(∀s',Inv s'->a s'<a s->AV (e s' Y))->b.wp w (g.BG x<|e s z) (G1 D Af AV P))(o:Inv s0)(BA:∀s z,Inv s->((s=s0/\z=UL)/\∀x∈xs,C s0 x)\/z=Y/\a s<a s0->P.av (e s z)):iJ w D g b Af j P xs:=
 iO (λp=>e p.1 p.2) (λb p=>Inv p.1/\(((p.1=s0/\p.2=UL)/\∀x∈b,C s0 x)\/p.2=Y/\a p.1<a s0)) (s0:=(s0,UL)) f {o,.inl {{rfl,rfl},az}} (λa x l p b e i d=>m p.1 p.2 x b (e∣BH _ (.head _)) i.1 (λc=>d p {i.1,i.2.elim (λh=>.inl {h.1,λy r=>(aN r).elim (h.2 y) λa=>aF a▸rwl h.1.1 c}) .inr}) λa u h=>d (a,Y) {u,.inr {rfl,i.2.elim (λq=>q.1.1∣h) λq=>DQ h q.2}}) λp i=>BA p.1 p.2 i.1 i.2
def g7(e:σ->Bool->Ao V)(Inv:σ->Prop)(a:σ->Nat)(C:σ->t.AR->Prop)(c:Af=e s0 Ab)(d:∀Q,Q xs->q.wp w Af Q)
  (f:∀s z x (AV:Ao V->Prop),x∈xs->Inv s->(C s x->AV (e s z))->(∀s',Inv s'->a s'<a s->AV (e s' Y))->b.wp w (g.BG x<|e s z) (G1 D Af AV P))(j:Inv s0)(BA:∀s z,Inv s->(z=Y->a s<a s0)->(z=Ab->s=s0/\∀x∈xs,C s0 x)->P.av (e s z)):(Ca D g q b).wp w Af P:=
 d _<|i1 e Inv a C c f j λs z i h=>BA s z i (λe=>h.elim (λh=>Bool.noConfusion<|e.symm^h.1.2) λh=>h.2) λe=>h.elim (λh=>{h.1.1,h.2}) λh=>Bool.noConfusion<|e.symm^h.1
end
class inductive DF(R:-Bp)(Ad:Nat):Nat->Nat->Prop where
 |bS {s:Nat}:s<Ad->DF R Ad s s
 |aO {r:Bp} {pre post:-Nat} {b x:Nat}:r∈R->r.r=pre++b::post->(∀y∈pre,Ei R (λZ=>False) y)->DF R Ad b x->DF R Ad r.l x
class inductive BV(N:Nat->Prop)(F:Nat->Nat->Prop):-Nat->Nat->Prop where
 |Sd {b x:Nat} {w:-Nat}:F b x->BV N F (b::w) x
 |aX {b x:Nat} {w:-Nat}:N b->BV N F w x->BV N F (b::w) x
section
variable{N c:Nat->Prop}{F d:Nat->Nat->Prop}{b x:Nat}{w:-Nat}
def BV.cons:BV N F (b::w) x↔F b x\/N b/\BV N F w x:=by
 clear N F b x w _;calc⟨λh=>by
  cases (h)with
  |Sd h=>calc .inl h|aX Ag a=>calc .inr ⟨Ag,a⟩,λh=>h.elim .Sd λh=>.aX h.1 h.2⟩
def BV.nil:¬BV N F [] x:=nofun
def BV.bY(a:∀s,N s->c s)(e:∀s x,F s x->d s x)(h:BV N F w x):BV c d w x:=by
 cases h with
 |Sd h=>calc .Sd<|e _ _ h|aX Ag _ f=>calc .aX (a _ Ag) f
def BV.aO{R:-Bp}{Ad:Nat}{r:Bp}(g:r∈R)(h:BV (Ei R λZ=>False) (DF R Ad) r.r x):DF R Ad r.l x:=by
 have key:∀(w pre:-Nat),r.r=pre++w->(∀y∈pre,Ei R (λZ=>False) y)->BV (Ei R λZ=>False) (DF R Ad) w x->DF R Ad r.l x:=λw=>by
  cases w with
  |nil=>calcλZ Z Z h=>ar h BV.nil|cons a w i=>exactλpre e f h=>(BV.cons.mp h).elim (.aO g e f) λh=>i (pre++[a]) (e^(Dr pre [a] w).symm) (λy j=>(aN j).elim (f y) λz=>aF z⊂h.1) h.2
 calc key r.r [] rfl az h
def BV.i2(e:∀y∈pre,N y)(h:F b x):BV N F (pre++b::w) x:=by
 cases pre with
 |nil=>calc .Sd h|cons a pre f=>calc .aX (e a<|.head _)<|f λy g=>e y<|.tail _ g
end
abbrev HD(g:AK)(w:-Nat)(x:Nat):Prop:=BV (CY g) (DF g.aa g.Ad) w x
def Gp(aj:-Bool)(DB:-Nat):-Nat->Nat->Nat×Bool
 |[],m=>(m,Y)
 |s::w,m=>if AD aj s=Y then Gp aj DB w (m|||DB.getD s 0) else(m|||DB.getD s 0,Ab)
section
variable{w:Bk}{k:Nat}{g:AK}{aj:-Bool}{j:-Nat}{Ah:-Nat}
def d9[Decidable p]{B:Prop}(a:¬p->A)(b:p->B):if(!decide p)=Y then A else B:=bZ (λh=>a<|b2 h) λh=>b<|aL h
def g8{w:-Nat}:Gp aj j (s::w) m=if AD aj s=Y then Gp aj j w (m|||j.getD s 0) else(m|||j.getD s 0,Ab):=rfl
def pD(h:∀s∈Ah,s<J aj/\s<J j/\Cu s)(b:AP (J Ah)):K8.BZ (w^^k+1) (Ah,aj,j,()) (·=Gp aj j Ah 0):=by
 clear w k aj j Ah _ h b;calc aY aal ⟨b,λl a=>∃m,a=(Ah,aj,j,m,0,())/\(∀s∈l,s<J aj/\s<J j/\Cu s)/\Gp aj j l m=Gp aj j Ah 0,{0,rfl,h,rfl},λx l Af i=>by
   calc aE i λm d h e=>?_;subst d;have a:=h x<|.head _;rw[g8] at e;refine {a.2,{a.1,a.2.2},bZ (λc=>?_) λc=>{_,rfl,λs a=>h s<|.tail _ a,?_}}
   ·have c:AD aj x=Ab:=c;rw[c] at e;exact e
   ·have c:AD aj x=Y:=c;rw[ao c] at e;exact e,λa i=>by obtain⟨m,rfl,-,e⟩:=i;calc e⟩
def g9(x:Nat):∀(w:-Nat) (m:Nat),(Gp aj j w m).1.testBit x=Y↔m.testBit x=Y\/BV (λs=>AD aj s=Y) (λs x=>(j.getD s 0).testBit x=Y) w x
 |[]=>λm=>{.inl,λh=>h.elim id nofun}
 |s::w=>λm=>by
  have key:((m|||j.getD s 0).testBit x=Y)↔m.testBit x=Y\/(j.getD s 0).testBit x=Y:=by rw[Nat.testBit_or,kD]
  rw[g8];rw[BV.cons];induction AD aj s with
  |true=>rw[ao rfl,g9 x w,key,or_assoc,eq_self,true_and]|false=>rw[ai H3];calc key.trans<|or_congr_right {.inl,λh=>h.elim id λh=>Bool.noConfusion h.1}
def pE:∀{w:-Nat} {m:Nat},(Gp aj j w m).2=Y↔∀s∈w,AD aj s=Y
 |[],m=>{nofun,λZ=>rfl}
 |s::w,m=>by
  rw[g8];rw[jU];by_cases c:AD aj s=Y;·rw[ao c,pE,and_iff_right c]
  ·rw[ai c];calc {br,λh=>ar h.1 c}
def i3{n:Nat}(h:∀s,j.getD s 0<2^n):∀(w:-Nat) (m:Nat),m<2^n->(Gp aj j w m).1<2^n
 |[]=>λZ a=>a|s::w=>λm a=>by
  have:=kE a<|h s;rw[g8]
  split
  ·exact i3 h w _ this
  ·calc this
def Se(g:AK)(S:Nat->Nat->Prop)(j:-Nat):Prop:=Dy
 (J j=J g.Aq)
 (∀s,j.getD s 0<2^(J g.Aq))
 (∀s x,(j.getD s 0).testBit x=Y↔S s x)
def LG(g:AK)(S:Nat->Nat->Prop)(j:-Nat):Prop:=Dy
 (J j=J g.Aq)
 (∀s,j.getD s 0<2^(J g.Aq))
 (∀s x,(j.getD s 0).testBit x=Y->S s x)
noncomputable def lk(g:AK)(j:-Nat):Nat:=(j.map (2^(J g.Aq)-·)).sum
def abt{l:-Nat}{v:Nat}(b:i<J l)(Ag:l.getD i 0<v)(c:v<=B):((l.set i v).map (B-·)).sum<(l.map (B-·)).sum:=by
 induction l generalizing i with
 |nil=>calc ar b<|I2 _|cons a l d=>
  cases i using Nat.casesOn with
  |zero=>
   calc Z1 (Rg (Cw Ag c) Ag) _
  |succ i=>
   calc Lq (d (MU b) Ag) _
def ea{b:Nat}:(a|||b).testBit x=Y↔a.testBit x=Y\/b.testBit x=Y:=by rw[Nat.testBit_or,kD]
def LG.up{S:Nat->Nat->Prop}{i:Nat}(F:LG g S j)(c:i<J g.Aq)(d:m<2^(J g.Aq))(f:∀x,m.testBit x=Y->S i x)(h:(j.getD i 0|||m)≠j.getD i 0):LG g S (j.set i<|j.getD i 0|||m)/\lk g (j.set i<|j.getD i 0|||m)<lk g j:=by
 have b:=F.1▸c;have A8:(j.getD i 0|||m)<2^(J g.Aq):=kE (F.2 _) d;refine {{Mk ..^F.1,λs=>?_,λs x a=>?_},abt b (SX Nat.left_le_or<|Ne.symm h)<|BY A8}
 ·rw[cZ b];split;·exact A8
  ·exact F.2 s
 ·rw[cZ b] at a
  split at a
  ·rename_i e;exact e∣(ea.mp a).elim (F.3 i x) (f x)
  ·calc F.3 s x a
def Xx(aj:-Bool)(j:-Nat)(r:Bp×Nat):Prop:=(j.getD r.1.l 0|||(Gp aj j r.1.r 0).1)=j.getD r.1.l 0
def Xy(g:AK)(aj:-Bool)(r:Bp×Nat)(m s:Nat)(j:-Nat)(z:Bool):Ao Ni:=(g,aj,j,s,z,r,m,())
def Sf(g:AK)(j:-Nat):Prop:=Em
 (LG g (DF g.aa g.Ad) j)
 (∀s,s<g.Ad->(j.getD s 0).testBit s=Y)
def abu(a:GP g (CY g) aj)(F:Sf g j)(h:∀r∈g.aa.zipIdx,Xx aj j r):Se g (DF g.aa g.Ad) j:=⟨F.1.1,F.1.2,λs x=>by
 calc {F.1.3 s x,λc=>?_};cases c with
 |bS hs=>calc F.2 _ hs|@aO r pre post b x d e f _ l=>
  obtain⟨i,m,rfl⟩:=Pn d;have q:=h (g.aa[i],i)<|di<|Dv m;unfold Xx at q;rw[<-q,ea,g9];calc .inr<|.inr<|e⊂BV.i2 (λy o=>(a.2 y).mpr<|f y o) l⟩
def pF{r:Bp×Nat}(b:g.CA)(d:GP g (CY g) aj)(F:Sf g j)(a:r.1∈g.aa)(c:¬Xx aj j r):Sf g (j.set r.1.l<|j.getD r.1.l 0|||(Gp aj j r.1.r 0).1)/\lk g (j.set r.1.l<|j.getD r.1.l 0|||(Gp aj j r.1.r 0).1)<lk g j:=by
 have Bu:=F.1.up (b.4 _ a).1 (i3 F.1.2 r.1.r 0<|VC _) (λx f=>BV.aO a<|((g9 x _ _).mp f|>.resolve_left (by rw[X8];nofun)).bY (λs=>(d.2 s).mp) F.1.3) c;calc {{Bu.1,λs hs=>?_},Bu.2};rw[cZ<|F.1.1⊂(b.4 _ a).1];split;·rename_i e;rw[ea,e];exact .inl<|F.2 s hs
 ·calc F.2 s hs
def abv{z:Bool}(a:g.CA)(b:GP g (CY g) aj)(F:Sf g j)(d:r.1∈g.aa)(i:Xx aj j r->P.av (Xy g aj r (j.getD r.1.l 0|||(Gp aj j r.1.r 0).1) s j z))
  (p:∀f,Sf g f->lk g f<lk g j->P.av (Xy g aj r (j.getD r.1.l 0|||(Gp aj j r.1.r 0).1) s f Y)):AbN.wp (w^^k+1) (Xy g aj r m s j z) P:=by
 have o:=a.4 _ d;have h:r.1.l<J j/\Cu r.1.l:={F.1.1⊂o.1,a.aw o.1}
 calc {h,(pD (λs c=>{b.1⊂o.2 s c,F.1.1⊂o.2 s c,a.aw<|o.2 s c})<|BY o.3\∅).aq λy e=>?_};subst e;calc {h,d9 (λc=>{h,p _ (pF a b F d c).1 (pF a b F d c).2}) i}
def bX{R:-Bp}(h:r∈R.zipIdx):r.1∈R:=kA h
def QV(g:AK)(n:Nat):-Nat:=Dq n λs=>if s<g.Ad then 2^s else 0
def abw(hs:s<J g.Aq):(QV g<|J g.Aq).getD s 0=if s<g.Ad then 2^s else 0:=et hs
def e5{l:-α}(h:J l<=i):l.getD i d=d:=by rw[CO,Ws h];rfl
def abx(a:g.CA):Sf g (QV g<|J g.Aq):=by
 clear g _ a;have key:=λs=>by
  by_cases h:s<(J g.Aq);·exact abw h
  ·rw[e5 (by unfold QV;rw[c1];calc bM h),ai λz=>h<|DQ z a.2]
 refine {{c1,λs=>?_,λs x h=>?_},λs hs=>?_}
 ·rw[key];split;·rename_i h;exact Nat.pow_lt_pow_right ∅<|DQ h a.2
  ·exact VC _
 ·rw[key] at h
  split at h
  ·rename_i q;rw[AjQ,bB] at h;exact h∣.bS q
  ·rw[X8] at h;exact ar h H3
 ·rw[key,ao hs,Nat.testBit_two_pow_self]
def ha{n:Nat}:Dq (n+1) f=Dq n f++[f n]:=by unfold Dq;rw[VB,Ee];rfl
def pG{n:Nat}(h:xs++x::Al=Cn 0 n):x=J xs/\J xs<n:=by have e:=ah J h;rw[BD,H6] at e;have lt:J xs<n:=e∣Pm (F0 _);calc {?_,lt};have e:=ah (·[J xs]?) h;rw[Qz<|CE _,WH,AiS lt,EV,kf] at e;calc BQ e
def i4(a:g.CA):K9.BZ (w^^k+3) (g,()) (Se g<|DF g.aa g.Ad):=by
 clear w k g _ a;calc aY aam ((e3 a).aq λaj d=>(dp a.aB).aq λn e=>by
   subst e;refine {a.aB,λl a=>∃xs,xs++l=Cn 0 (J g.Aq)/\a=(g,aj,QV g<|J xs,0,Ab,(Bz,0),0,()),{[],rfl,rfl},λx l Af i=>?_,λAf i=>?_}
   ·obtain⟨xs,e,rfl⟩:=i;obtain⟨rfl,lt⟩:=pG e;have go:∀v,v=(if(J xs)<g.Ad then 2^(J xs) else 0)->∃Al,Al++l=Cn 0 (J g.Aq)/\((g,aj,QV g (J xs)++[v],0,Ab,(Bz,0),0,()):Ao Ni)=(g,aj,QV g<|J Al,0,Ab,(Bz,0),0,()):=λv f=>{xs++[J xs],Dr xs [_] l^e,by rw[BD];unfold QV;rw[Pl,ha,f];rfl}
    calc e2.aq λz m=>?_;subst m;have aB:AP (QV g<|J xs).length:=by unfold QV;rw[c1];exact BY lt\a.aB
    exact bV (λc=>{{BY lt\a.aB,∅},aB,go _<|AjR _^(ao c).symm}) λc=>{aB,go _ (ai c).symm}
   ·obtain⟨xs,e,rfl⟩:=i;rw[Ct] at e;subst e;rw[H6];calc fQ (Xy g aj (Bz,0) 0 0) (Sf g) (λj=>∀r∈g.aa.zipIdx,Xx aj j r) (lk g) rfl (λZ Z Z q=>q) (λj AV F o=>?_) (abx a) λj F h=>abu d F h;show AbP.wp _ (Xy g aj (Bz,0) 0 0 j Ab) _;calc g7 (Xy g aj (Bz,0) 0 0) (Sf g) (lk g) (Xx aj) rfl (λZ q=>{a.bA,q}) (λs z r c p F e b=>abv a d F (bX p) e b) F λs z F a b=>o s z F a λe=>(b e).1⊂(b e).2)
end
class inductive DV(g:AK):Nat->Nat->Prop where
 |aU {r:Bp} {pre post:-Nat} {b x:Nat}:r∈g.aa->r.r=pre++b::post->g.Ad<=b->HD g post x->DV g b x
 |up {r:Bp} {pre post:-Nat} {b x:Nat}:r∈g.aa->r.r=pre++b::post->g.Ad<=b->(∀y∈post,CY g y)->DV g r.l x->DV g b x
def AhO(N:Nat->Prop)(F:Nat->Nat->Prop)(M:Nat->Prop)(w:-Nat)(x:Nat):Prop:=BV N F w x\/(∀y∈w,N y)/\M x
def N0(aj:-Bool)(DB:-Nat)(m s:Nat):Nat:=if AD aj s=Y then m|||DB.getD s 0 else DB.getD s 0
def AK.G3(g:AK):Prop:=Em
 (g.CA)
 (∀r∈g.aa,g.Ad<=r.l)
def AK.G3.aj(a:g.G3)(h:CY g s):g.Ad<=s:=by
 cases h with
 |ba h=>calc h.elim|aO b _=>calc a.2 _ b
def TZ(g:AK)(aj:-Bool)(DB:-Nat):Prop:=Dy
 (g.G3)
 (GP g (CY g) aj)
 (Se g (DF g.aa g.Ad) DB)
def PV(aj:-Bool)(DB:-Nat)(w:-Nat)(m:Nat):Nat:=w.foldr (λs m=>N0 aj DB m s) m
def LH(g:AK)(aj:-Bool)(DB:-Nat)(r:Bp×Nat)(m s:Nat)(B0:-Nat)(z:Bool):Ao MN:=(g,aj,DB,B0,z,r,m,s,())
section
variable{w:Bk}{k:Nat}{g:AK}{aj:-Bool}{a B0:-Nat}{r:Bp×Nat}{m s:Nat}{z:Bool}
def HD.cons{x:Nat}{Ah:-Nat}:HD g (s::Ah) x↔DF g.aa g.Ad s x\/CY g s/\HD g Ah x:=BV.cons
def hb(H:TZ g aj a)(x:Nat):∀(w:-Nat) (m:Nat),(PV aj a w m).testBit x=Y↔HD g w x\/(∀y∈w,CY g y)/\m.testBit x=Y
 |[]=>λm=>{λh=>.inr {az,h},λh=>h.elim nofun λh=>h.2}
 |s::w=>λm=>by
  show(N0 aj a (PV aj a w m) s).testBit x=Y↔_;unfold N0;rw[HD.cons,jU,and_assoc];by_cases h:AD aj s=Y;·have hs:=(H.2.2 s).mp h;rw[ao h,ea,H.3.3,(hb H x w m),and_iff_right hs,and_iff_right hs];exact {λq=>q.elim (λq=>q.elim (λq=>.inl<|.inr q) .inr) λq=>.inl<|.inl q,λq=>q.elim (λq=>q.elim .inr λq=>.inl<|.inl q) λq=>.inl<|.inr q}
  ·have hs:=λq=>h<|(H.2.2 s).mpr q;rw[ai h,H.3.3];calc {λq=>.inl<|.inl q,λq=>q.elim (λq=>q.elim id λq=>ar q.1 hs) λq=>ar q.1 hs}
def pH(H:TZ g aj a)(b:m<2^(J g.Aq)):∀{w:-Nat},PV aj a w m<2^(J g.Aq)
 |[]=>b|s::w=>by
  show N0 aj a (PV aj a w m) s<_;unfold N0
  split
  ·exact kE (pH H b)<|H.3.2 s
  ·calc H.3.2 s
def Zu(g:AK)(aj:-Bool)(a B0:-Nat)(m:Nat)(p:-Nat):Prop:=∀pre b post,p=pre++b::post->g.Ad<=b->(B0.getD b 0|||PV aj a post m)=B0.getD b 0
def Zv(g:AK)(aj:-Bool)(a B0:-Nat)(r:Bp×Nat):Prop:=Zu g aj a B0 (B0.getD r.1.l 0) r.1.r
def aby(H:TZ g aj a)(F:LG g (DV g) B0)(h:∀r∈g.aa.zipIdx,Zv g aj a B0 r):Se g (DV g) B0:=⟨F.1,F.2,λs x=>by
 have key:∀{r:Bp} {pre post:-Nat} {b x:Nat},r∈g.aa->r.r=pre++b::post->g.Ad<=b->(PV aj a post<|B0.getD r.l 0).testBit x=Y->(B0.getD b 0).testBit x=Y:=λ{r pre post b x} c e d f=>by obtain⟨i,j,rfl⟩:=Pn c;rw[<-h (g.aa[i],i) (di<|Dv j) pre b post e d,ea];exact .inr f
 calc {F.3 s x,λf=>?_};cases f with
 |aU c e d Ag=>calc key c e d<|(hb H _ _ _).mpr<|.inl Ag|up c e d Ag _ o=>calc key c e d<|(hb H _ _ _).mpr<|.inr {Ag,o}⟩
def pI(b:s<J a/\Cu s)(d:s<J aj/\Cu s)(h:P.av (LH g aj a r (N0 aj a m s) s B0 z)):(Bi (Bd:=⇑O) (BO:=.A) 6<|PH (CI<|A6 (BR Aj) (v 1)<|v 7) (BJ PM (v 6)<|A6 (BR O) (v 2)<|v 7)<|A6 (BR O) (v 2)<|v 7).wp w (LH g aj a r m s B0 z) P:=by
 unfold N0 at h;calc {d,bH (z:=AD aj s) (λc=>?_) λc=>?_};·rw[ao c] at h;exact {b,h}
 ·rw[c,ai H3] at h;calc {b,h}
def abz(H:TZ g aj a)(F:LG g (DV g) B0)(hs:s<J g.Aq)(j:m<2^(J g.Aq))(l:g.Ad<=s->∀x,m.testBit x=Y->DV g s x)
  (A4:s<g.Ad->P.Ft (LH g aj a r (N0 aj a m s) s B0 z))(p:g.Ad<=s->(B0.getD s 0|||m)=B0.getD s 0->P.av (LH g aj a r (N0 aj a m s) s B0 z))(t:∀i,LG g (DV g) i->lk g i<lk g B0->P.av (LH g aj a r (N0 aj a m s) s i Y)):OQ.wp (w^^k+1) (LH g aj a r m s B0 z) P:=by
 have b:s<J a/\Cu s:={H.3.1⊂hs,H.1.1.aw hs}
 have o:s<J aj/\Cu s:={H.2.1⊂hs,b.2}
 have f:s<J B0/\Cu s:={F.1⊂hs,b.2}
 calc e2.aq λy e=>?_;subst e;refine bV (λc=>{b,?_}) λc=>{f,f,d9 (λd=>{f,f,pI b o<|t _ (F.up hs j (l<|Mn c) d).1 (F.up hs j (l<|Mn c) d).2}) λd=>pI b o<|p (Mn c) d}
 have h:=A4 c;unfold N0 at h;rw[ai λq=>bz (H.1.aj<|(H.2.2 s).mp q) c] at h;calc h
def Zu.cons{p:-Nat}{b:Nat}(h:Zu g aj a B0 m p)(d:g.Ad<=b->(B0.getD b 0|||PV aj a p m)=B0.getD b 0):Zu g aj a B0 m (b::p)
 |[],_,_,e=>(Ge e).1▸rwl ((Ge e).2) d|_::pre,c,post,e=>h pre c post (Ge e).2
structure pL where
 p:↑Nat
 B0:↑Nat
 z:Bool
def Adq(g:AK)(aj:-Bool)(a B0:-Nat)(r:Bp×Nat)(z:Bool)(l:-Nat)(s:pL):Prop:=Dy
 (l.reverse++s.p=r.1.r)
 (LG g (DV g) s.B0)
 ((s.B0=B0/\s.z=z)/\Zu g aj a B0 (B0.getD r.1.l 0) s.p\/s.z=Y/\lk g s.B0<lk g B0)
def abA{m s:Nat}(H:TZ g aj a)(F:LG g (DV g) B0)(f:r.1∈g.aa)(u:∀m,Zv g aj a B0 r->P.av (LH g aj a r m s B0 z))
  (A:∀m d,LG g (DV g) d->lk g d<lk g B0->P.av (LH g aj a r m s d Y)):AbR.wp (w^^k+1) (LH g aj a r m s B0 z) P:=by
 clear w k g aj a B0 _ r z P m s _ H F f u A;have o:=H.1.1.4 _ f;calc {{F.1⊂o.1,H.1.1.aw o.1},?_};show AbQ.wp _ (LH g aj a r (B0.getD r.1.l 0) s B0 z) _;refine dD (λq:pL=>LH g aj a r (PV aj a q.p<|B0.getD r.1.l 0) s q.B0 q.z) (Adq g aj a B0 r z) (s0:={[],B0,z}) (λZ q=>{BY o.3\∅,q}) rfl {(Ct _).trans<|List.reverse_reverse _,F,.inl {{rfl,rfl},λpre b post e=>ar e.symm (Yg _<|Wy _ _)}} (λx l q AV i j=>?_) λq i=>?_
 ·have e:l.reverse++x::q.p=r.1.r:=by rw[<-i.1,kn,Dr];rfl
  show OQ.wp _ (LH g aj a r (PV aj a q.p<|B0.getD r.1.l 0) x q.B0 q.z) _;have old:(g.Ad<=x->(q.B0.getD x 0|||PV aj a q.p (B0.getD r.1.l 0))=q.B0.getD x 0)->Adq g aj a B0 r z l {x::q.p,q.B0,q.z}:=λh=>{e,i.2,i.3.imp (λc=>{c.1,c.2.cons λt=>c.1.1▸h t}) id}
  calc abz H i.2 (o.2 x<|e∣BH _ (.head _)) (pH H<|F.2 _) (λt y B=>?_) (λc=>j _<|old λt=>ar c<|bz t) (λt c=>j _<|old λZ=>c) λd a b=>j {x::q.p,d,Y} {e,a,.inr {rfl,i.3.elim (λc=>c.1.1∣b) λc=>DQ b c.2}};exact((hb H y _ _).mp B).elim (.aU f e.symm t) λh=>.up f e.symm t h.1 (F.3 _ _ h.2)
 ·have e:q.p=r.1.r:=i.1;rcases i.3 with⟨⟨AW,A3⟩,c⟩|⟨A3,lt⟩
  ·rw[AW,A3];exact u _ (by unfold Zv;rw[<-e];calc c)
  ·rw[A3];calc A _ _ i.2 lt
def hc(n s:Nat):(CV n 0).getD s 0=0:=by
 rw[CO,ki]
 split<;>rfl
def LG.zero:LG g S (CV (J g.Aq) 0):={MJ,λs=>by rw[hc];exact VC _,λs x h=>by rw[hc,X8] at h;calc ar h H3}
def pM(b:g.G3):Uh.BZ (w^^k+4) (g,()) (Se g<|DV g):=by
 clear w k g _ b;calc aY aan ((e3 b.1).aq λaj d=>(i4 b.1).aq λa f=>(dp b.1.aB).aq λn e=>by
   subst e;have H:TZ g aj a:={b,d,f}
   calc {0,rfl,b.1.aB,fQ (LH g aj a (Bz,0) 0 0) (LG g<|DV g) (λb=>∀r∈g.aa.zipIdx,Zv g aj a b r) (lk g) rfl (λZ Z Z q=>q) (λB0 AV F i=>?_) LG.zero λa F h=>aby H F h};show AbS.wp _ (LH g aj a (Bz,0) 0 0 B0 Ab) _;calc g7 (LH g aj a (Bz,0) 0 0) (LG g<|DV g) (lk g) (Zv g aj a) rfl (λZ q=>{b.1.bA,q}) (λa z r b j F d c=>abA H F (bX j) (λZ=>d) λZ=>c) F λs z F a c=>i s z F a λe=>(c e).1⊂(c e).2)
end
class inductive Lg(R:-Bp)(AG:-Bool)(a:Nat):Nat->Prop where
 |ba:Lg R AG a a
 |aU {i:Nat} {s:Nat}:i<J R->AD AG i=Y->Lg R AG a (R.getD i Bz).l->s∈(R.getD i Bz).r->Lg R AG a s
def LI(AF:-Bool):Nat:=AF.countP (!·)
def pN:∀{AF:-Bool} {s:Nat},s<J AF->AD AF s=Ab->LI (AF.set s Y)+1=LI AF
 |[],_=>λh Z=>ar h<|I2 _|b::AF,0=>λZ h=>by have c:b=Ab:=h;subst c;show Pp _ (Y::AF)+1=Pp _ (Ab::AF);rw[AjS ∅,kF rfl]|b::AF,s+1=>λd h=>by have a:=pN (AF:=AF) (s:=s) (MU d) h;show Pp _ (b::AF.set s Y)+1=Pp _ (b::AF);unfold LI at a;rw[WD,WD,<-a,Hb]
def abB(h:AD AF s=Y):s<J AF:=NA λz=>by unfold AD at h;rw[e5 z] at h;delta h
def AK.TY(g:AK):Prop:=He
 (g.G3)
 (J g.L7=J g.Aq)
 (∀s i,i∈g.L7.getD s []↔i<J g.aa/\(g.aa.getD i Bz).l=s)
 (∀s,AP (g.L7.getD s []).length)
def Hl(g:AK)(AG:-Bool)(pP:Nat->Prop)(AF:-Bool)(st:-Nat):Prop:=Pr
 (J AF=J g.Aq)
 (∀s,AD AF s=Y->Lg g.aa AG g.Ad s)
 (∀s,pP s->Lg g.aa AG g.Ad s/\s<J g.Aq)
 (AD AF g.Ad=Y)
 (∀s∈st,AD AF s=Y)
 (∀s,AD AF s=Y->s∈st\/∀i,i<J g.aa->(g.aa.getD i Bz).l=s->AD AG i=Y->∀y∈(g.aa.getD i Bz).r,AD AF y=Y\/pP y)
 (2*LI AF+J st<=2*J g.Aq+1)
def Sg(g:AK)(AG:-Bool)(a:-Nat)(y:Nat):Prop:=∃i∈a,AD AG i=Y/\y∈(g.aa.getD i Bz).r
def MR(g:AK)(AG:-Bool)(a i s:Nat)(q:-Bool×↑Nat):Ao PW:=(g,AG,q.1,a,q.2,i,s,())
section
variable{w:Bk}{k:Nat}{g:AK}{AG AF:-Bool}{st:-Nat}{f:Nat->Prop}{a i:Nat}
def Hl.ax(S:Hl g AG f AF st)(Ag:∀y,f y->AD AF y=Y\/b y)(d:∀y,b y->f y):Hl g AG b AF st:={S.1,S.2,(λs h=>S.3 s<|d s h),S.4,S.5,(λs h=>(S.6 s h).imp id λc i e j l y m=>(c i e j l y m).elim .inl<|Ag y),S.7}
def pQ(h:s<J AF)(Ax:AD AF s=Ab):2*LI (AF.set s Y)+(st++[s]).length+1=2*LI AF+J st:=by rw[<-pN h Ax,BD,Nat.mul_add,El,El<|J st,FO<|J st,<-El];rfl
def Hl.ct(S:Hl g AG f AF st)(hs:f s)(Ax:AD AF s=Ab):Hl g AG f (AF.set s Y) (st++[s]):=by clear g AG AF st f s _ S hs Ax;have b:=S.1▸(S.3 s hs).2;have up:∀{t},AD AF t=Y->AD (AF.set s Y) t=Y:=λh=>(dK b).mpr<|.inl h;calc {Mk ..^S.1,λt h=>((dK b).mp h).elim (S.2 t) λe=>e⊂(S.3 s hs).1,S.3,up S.4,λt h=>(aN h).elim (λh=>up<|S.5 t h) λh=>aF h⊂(dK b).mpr (.inr rfl),λt h=>((dK b).mp h).elim (λh=>(S.6 t h).imp (CL _) λc i a d j y l=>(c i a d j y l).imp up id) λe=>.inl<|e∣BH _ (.head _),?_};calc Ex _\(Di (pQ b Ax)\S.7)
def Hl.abC(d:g.TY)(S:Hl g AG (λZ=>False) AF (st++[y])):Hl g AG (Sg g AG<|g.L7.getD y []) AF st:=⟨
 (S.1),
 (S.2),
 (λs h=>by calc aE h λi m o hs=>aC ((d.3 y i).mp m) λAg b=>?_;calc {.aU Ag o (b⊂S.2 y (S.5 y<|BH _<|.head _)) hs,(d.1.1.4 _<|bJ Ag).2 s hs}),
 (S.4),
 (λs h=>S.5 s<|CL _ h),
 (λs h=>by
  by_cases e:s=y;·exact .inr λi a b j z l=>.inr {i,(d.3 y i).mpr {a,b^e},j,l}
  ·calc(S.6 s h).imp (λh=>(aN h).resolve_right λz=>e<|aF z) λc i a b j z l=>(c i a b j z l).imp id False.elim),
 (Du (by rw[BD];calc CD _ _) _\S.7)⟩
def Hl.af(S:Hl g AG (λZ=>False) AF [])(s:Nat):AD AF s=Y↔Lg g.aa AG g.Ad s:=by
 calc {S.2 s,λh=>?_};cases h with
 |ba=>calc S.4|aU Ag b _ c d=>calc((S.6 _ d).resolve_left CR _ Ag rfl b _ c).resolve_right id
def Hl.aB(b:g.CA)(S:Hl g AG f AF st):AP (J st):=(Iv _ _\S.7)\(GX (Hd 2<|BY b.1)\∅)
def abD(j:g.CA)(S:Hl g AG f AF st)(hs:f s)(h:∀b e,Hl g AG f b e->AD b s=Y->2*LI b+J e<=2*LI AF+J st->P.av (MR g AG a i s (b,e))):OR.wp w (MR g AG a i s (AF,st)) P:=by
 have d:s<J AF/\Cu s:={S.1⊂(S.3 s hs).2,j.aw (S.3 s hs).2}
 calc {d,bZ (λc=>{d,S.aB j,h (AF.set s Y) (st++[s]) (S.ct hs c) ((dK d.1).mpr<|.inr rfl) ?_}) λc=>h _ _ S c<|CE _};calc pQ d.1 c∣Ex _
def abE{b:-Nat}(D:g.CA)(m:J AG=J g.aa)(S:Hl g AG (Sg g AG (i::b)) AF st)(u:i<J g.aa)(h:∀B C,Hl g AG (Sg g AG b) B C->2*LI B+J C<=2*LI AF+J st->P.av (MR g AG a i s (B,C)))(G:Hl g AG (Sg g AG b) AF st->P.Ft (MR g AG a i s (AF,st))):OS.wp w (MR g AG a i s (AF,st)) P:=by
 clear w g AG AF st a i s P b _ D m S u h G;have E:Cu i:=Cu.lt u<|BY D.3\∅;have H:∀y,Sg g AG b y->Sg g AG (i::b) y:=λy h=>h.imp λj h=>{.tail _ h.1,h.2}
 refine {{m⊂u,E},bZ (z:=AD AG i) (λc=>G<|S.ax (λy h=>?_) H) λc=>?_}
 ·calc aE h λj p m F=>?_;rcases aK p with rfl|p
  ·exact Bool.noConfusion<|c.symm^m
  ·exact .inr {j,p,m,F}
 ·have o:=D.4 _<|bJ (d:=Bz) u;show AbT.wp w (MR g AG a i s (AF,st)) _;refine dD (t:=O) (xs:=(g.aa.getD i Bz).r) (λq=>MR g AG a i s q) (λl q=>(∀s∈l,s∈(g.aa.getD i Bz).r)/\Hl g AG (λy=>y∈l\/Sg g AG b y) q.1 q.2/\2*LI q.1+J q.2<=2*LI AF+J st) (λQ q=>{{Fb⊂u,E},?_}) rfl {λZ h=>h,S.ax (λy h=>?_) λy h=>?_,CE _} (λx l q AV A I=>?_) λq A=>h q.1 q.2 (A.2.1.ax (λy h=>h.elim (λh=>ar h CR) .inr) λy=>.inr) A.2.2
  ·show AP (J (kG g.aa.zipIdx i (Bz,0)).1.r)/\Q (kG g.aa.zipIdx i (Bz,0)).1.r;rw[fP u];exact {BY o.3\∅,q}
  ·exact aE h λj p m F=>.inr<|(aK p).elim (λe=>.inl<|e∣F) λp=>.inr {j,p,m,F}
  ·exact h.elim (λh=>{i,.head _,c,h})<|H y
  ·show OR.wp w (MR g AG a i x (q.1,q.2)) _;calc abD D A.2.1 (.inl<|.head _) λB C L a E=>I (B,C) {λs a=>A.1 s<|.tail _ a,L.ax (λy h=>h.elim (λh=>(aK h).elim (λe=>.inl<|e⊂a) λh=>.inr<|.inl h) λh=>.inr<|.inr h) λy h=>h.imp (.tail _) id,E\A.2.2}
def abF(l:-α):l=[]\/∃Dl x,l=Dl++[x]:=by clear α _ l;calc(List.eq_nil_or_concat l).imp id λc=>a4 c λa b e=>{a,b,e^List.concat_eq_append ..}
def i5(b:g.TY)(p:J AG=J g.aa):Za.BZ (w^^k+2) (g,AG,()) (GP g<|Lg g.aa AG g.Ad):=by
 clear w k g AG _ b p;calc aY aao ((dp b.1.1.aB).aq λn e=>by
   subst e;have r:g.Ad<(CV (J g.Aq) Ab).length:=MJ⊂b.1.1.2;have Ax:∀s,AD ((CV (J g.Aq) Ab).set g.Ad Y) s=Y↔s=g.Ad:=λs=>by rw[dK r,pC];exact {λh=>h.elim br id,.inr}
   calc {Ab,rfl,b.1.1.aB,{r,b.1.1.aw b.1.1.2},?_};show AbX.wp _ (MR g AG g.Ad 0 0 ((CV (J g.Aq) Ab).set g.Ad Y,[g.Ad])) _;refine e4 (MR g AG g.Ad 0 0) (λq=>Hl g AG (λZ=>False) q.1 q.2) (λq=>2*LI q.1+J q.2) rfl {Mk ..^MJ,λs h=>(Ax s).mp h∣.ba,nofun,(Ax _).mpr rfl,λs h=>(Ax s).mpr<|aF h,λs h=>.inl<|Io.mpr<|(Ax s).mp h,?_} λq AV S d=>d9 (λc=>?_) λc=>?_
   ·refine GX<|Hd 2<|tM\Di (Mk ..^MJ)
   ·obtain⟨AF,st⟩:=q;rcases abF st with rfl|⟨st,y,rfl⟩
    ·exact ar rfl c
    have u:y<J g.Aq:=S.1∣abB (S.5 y<|BH _<|.head _);show AbW.wp _ (MR g AG g.Ad 0 0 (AF,st++[y])) _;calc {st,y,rfl,S.aB b.1.1,(aa8 {b.2⊂u,b.1.1.aw u}<|b.4 y).aq λBW e=>{e⊂b.4 y,iV (t:=O) (MR g AG g.Ad 0 0) (λl q=>(∀i∈l,i<J g.aa)/\Hl g AG (Sg g AG l) q.1 q.2/\2*LI q.1+J q.2<=2*LI AF+J st) (s0:=(AF,st)) rfl {λi z=>((b.3 y i).mp<|e∣z).1,e⊂S.abC b,CE _} (λx l q AV i d=>?_) λq i=>d q (i.2.1.ax (λy h=>h.elim λZ h=>ar h.1 CR) nofun) (by rw[BD];calc Iu i.2.2)}};show OS.wp _ (MR g AG g.Ad x 0 (q.1,q.2)) _;exact abE b.1.1 p i.2.1 (i.1 x<|.head _) (λA B S m=>d (A,B) {λj o=>i.1 j<|.tail _ o,S,m\i.2.2}) λS=>d q {λj o=>i.1 j<|.tail _ o,S,i.2.2}
   ·obtain⟨AF,st⟩:=q;have c:st=[]:=c;subst c;calc {S.1,S.af})
end
def QJ(g:AK)(AG:-Bool):Prop:=Em
 (J AG=J g.aa)
 (∀i,AD AG i=Y↔i<J g.aa/\∀s∈(g.aa.getD i Bz).r,Mb g s)
abbrev Es(g:AK)(s:Nat):Nat:=g.Aq.getD s 0
def PJ(g:AK):-Nat:=Cn (g.Ad+1)<|J g.Aq-(g.Ad+1)
structure HY(g:AK) where
 A8:↑Bool
 AG:↑Bool
 ab:↑Bool
 h:GP g (Mb g) A8
 u:QJ g AG
 d:GP g (Lg g.aa AG g.Ad) ab
section
variable{w:Bk}{k:Nat}{g:AK}{A8 AG ab:-Bool}
def abG(c:z=Y):Y=(z||y):=by rw[c];rfl
def abH(c:z=Ab):y=(z||y):=c⊂rfl
def dc(c:z=Y):y=(z&&y):=c⊂rfl
def dE(c:z=Ab):Ab=(z&&y):=by rw[c];rfl
def TU(A8:-Bool)(g:AK)(l:-Nat):-Nat:=(l.filter λs=>!AD A8 s).map<|Es g
def TV(A8 ab:-Bool)(g:AK)(l:-Nat):-Nat:=(l.filter λs=>AD A8 s&&!AD ab s).map<|Es g
def Ah0(g:AK)(AG ab:-Bool):-Nat:=(g.aa.zipIdx.filter λp=>!AD AG p.2||!AD ab p.1.l).map (·.2)
def HY.LO(u:HY g):-Nat×↑Nat×↑Nat:=(TU u.A8 g<|PJ g,TV u.A8 u.ab g<|PJ g,Ah0 g u.AG u.ab)
def abI(a:g.TY):Oi.BZ (w^^k+3) (g,()) (GP g<|Lg g.aa (CV (J g.aa.zipIdx) Y) g.Ad):=by clear w k g _ a;calc aY aap {a.1.1.bA,Y,rfl,a.1.1.bA,i5 a<|MJ^Fb}
def UM(A8:-Bool)(p:Bp×Nat):Bool:=decide (∀s∈p.1.r,AD A8 s=Y)
def abL(H:GP g (Mb g) A8):QJ g (g.aa.zipIdx.map<|UM A8):=⟨by rw[Bq,Fb],λi=>by
 show((g.aa.zipIdx.map<|UM A8).getD i Ab=Y)↔_;by_cases a:i<(J g.aa);·rw[CO,Gw,kz,Dv a,and_iff_right a,CO,Dv a];exact bB.trans<|forall_congr' λs=>forall_congr' λZ=>H.2 s
 ·rw[e5 (by rw[Bq,Fb];calc bM a)];calc {br,λh=>ar h.1 a}⟩
def Aax(g:AK)(A8 AG:-Bool):Ao Xo:=(g,A8,AG,(Bz,0),())
def pR(a:g.CA):Zb.BZ (w^^k+3) (g,()) (QJ g):=by
 clear w k g _ a;calc aY aaq ((iU a).aq λA8 H=>by
   show AbK.wp _ (Aax g A8 []) _;refine c2 (t:=Cb) (xs:=g.aa.zipIdx) (λa=>Aax g A8<|a.map<|UM A8) (λZ q=>{a.bA,q}) rfl (λAl p l AV e c=>?_) (abL H)
   ·have o:=a.4 p.1<|bX<|e∣BH _ (.head _);calc {BY o.3\∅,BY o.3\∅,λs=>!AD A8 s,id,λs b=>{{{H.1⊂o.2 s b,a.aw<|o.2 s b},rfl},λZ=>rfl},?_,?_};·show AP (Al.map _).length;rw[Bq];exact(by rw[<-e,BD];calc CD _ _)\a.bA
    ·rw[Ee] at c;calc(ah (λb=>AV<|Aax g A8<|Al.map (UM A8)++[b])<|cX ?_).mpr c;rw[EW,Pq];exact forall_congr' λs=>forall_congr' λZ=>by cases AD A8 s<;>decide)
def abM:TU A8 g (l++[s])=if AD A8 s=Y then TU A8 g l else TU A8 g l++[Es g s]:=by
 unfold TU;rw[LZ,Ee];cases h:AD A8 s with
 |true=>rw[ao rfl,SY (by rw[h];nofun)];calc Ct _|false=>rw[ai br,Rn (by rw[h];rfl)];rfl
def abN:TV A8 ab g (l++[s])=if(AD A8 s&&!AD ab s)=Y then TV A8 ab g l++[Es g s] else TV A8 ab g l:=by
 unfold TV;rw[LZ,Ee];cases h:AD A8 s&&!AD ab s with
 |true=>rw[ao rfl,Rn (p:=λs=>AD A8 s&&!AD ab s) h];rfl|false=>rw[ai nofun,SY (by rw[h];nofun)];calc Ct _
def cR{xs:-α}:((xs.filter p).map f).length<=J xs:=by rw[Bq];calc Ro _ _
def AK.CA.bW(a:g.CA):AP (g.Ad+1):=AjT a.2\a.aB
def abP(a:g.CA)(e:Al++s::l=PJ g):s<J g.Aq/\J Al<=J g.Aq:=by calc {Cw (cJ (rwl e (BH Al<|.head l):s∈PJ g)).2<|Di<|MV a.2,?_};have:=ah J e;unfold PJ at this;rw[BD,H6] at this;calc CD _ _\(Di this\QC _ _)
def hg(Ag:z=Y->Q Y)(a:z=Ab->P):E2 .Or z P Q:=bH Ag a
def bO(Ag:z=Y->P)(a:z=Ab->Q Ab):E2 .And z P Q:=bH Ag a
def UN(g:AK)(A8 AG ab:-Bool)(l:-Nat)(rs:-Nat)(s:Nat):Ao PX:=(g,A8,AG,ab,TU A8 g l,TV A8 ab g l,s,rs,())
def pS(a:g.TY):Ui.BZ (w^^k+4) (g,()) λy=>∃u:HY g,y=u.LO:=by
 clear w k g _ a;calc aY aar ((iU a.1.1).aq λA8 H=>(pR a.1.1).aq λAG Bu=>(i5 a Bu.1).aq λab D=>by
   show AbY.wp _ (UN g A8 AG ab [] [] 0) _;refine c2 (t:=O) (xs:=PJ g) (λl=>UN g A8 AG ab l [] 0) (λZ q=>(dp a.1.1.aB).aq λn e=>{{a.1.1.bW,e⊂a.1.1.aB},e⊂q}) rfl (λAl s l AV e b=>?_) ⟨a.1.1.bA,a.1.1.bA,λ(p:Bp×Nat)=>!AD AG p.2||!AD ab p.1.l,(·.2),λp f=>{?_,λZ=>rfl},{{A8,AG,ab,H,Bu,D},rfl}⟩
   ·have h:=abP a.1.1 e;show AbZ.wp _ (UN g A8 AG ab Al [] s) _;unfold UN at b;rw[abM,abN] at b;have aB:∀{p:Nat->Bool},AP ((Al.filter p).map<|Es g).length:=cR\(h.2\a.1.1.aB);calc {{H.1⊂h.1,a.1.1.aw h.1},bZ (z:=AD A8 s) (λc=>{{h.1,a.1.1.aw h.1},aB,?_}) λc=>{{D.1⊂h.1,a.1.1.aw h.1},bZ (z:=AD ab s) (λd=>{{h.1,a.1.1.aw h.1},aB,?_}) λd=>?_}};·rw[c] at b;exact b
    ·rw[c,d] at b;exact b
    ·rw[c,d] at b;exact b
   ·have i:=a.1.1.4 _<|bX f;calc {{Bu.1⊂Yd f,?_},?_};·exact Cu.lt (Yd f)<|BY a.1.1.3\∅
    ·calc hg (z:=!AD AG p.2) abG λc=>{{D.1⊂i.1,a.1.1.aw i.1},abH c})
def abQ(a:g.TY):Oj.BZ (w^^k+5) (g,()) λb=>∃u:HY g,b=decide (u.LO=([],[],[])):=by
 clear w k g _ a;calc aY aas ((pS a).aq λy e=>by obtain⟨u,rfl⟩:=e;calc {u,cX Wg})
end
def Bv.Zw:Bv->Bv->Bv
 |.Dd,f=>f|l,_=>l
abbrev Hm(Av:-(Bv×Az)):-Az:=Av.map (·.2)
def Ij(Ak:EA)(l:Bv):(Av:-(Bv×Az))->Ao (Hm Av)->↑T
 |[],_=>[]
 |p::Av,v=>p.2.AH Ak (l.Zw p.1) v.1::Ij Ak l Av v.2
noncomputable def Ao.bN{p:Bv×Az}:(Av:-(Bv×Az))->Ao (Hm Av)->p.2.AR->Ao (Hm<|Av++[p])
 |[],_,x=>(x,())
 |_::Av,v,x=>(v.1,Ao.bN Av v.2 x)
section
variable{Ak:EA}{l:Bv}
def i6:∀{Av:-(Bv×Az)} {v:Ao (Hm Av)},Fp (Ij Ak l Av v)=Ij Ak .F Av v
 |[],_=>rfl|p::Av,v=>by show(p.2.AH Ak (l.Zw p.1) v.1).D5::Fp (Ij Ak l Av v.2)=_;rw[p.2.Dx,i6];rfl
def pT:∀{Av:-(Bv×Az)} {v:Ao (Hm Av)},GZ (Ij Ak .F Av v)=Y
 |[],_=>rfl|p::_,v=>bc {p.2.no Ak v.1,pT}
def pW:∀{Av:-(Bv×Az)} {v:Ao (Hm Av)},NC (Ij Ak .A Av v)=Y
 |[],_=>rfl|p::_,v=>bc {p.2.a5 Ak v.1,pW}
def pX{p:Bv×Az}{x:p.2.AR}:∀{Av:-(Bv×Az)} {v:Ao (Hm Av)},Ij Ak .Dd (Av++[p]) (Ao.bN Av v x)=Ij Ak .Dd Av v++[p.2.AH Ak p.1 x]
 |[],_=>rfl|_::_,v=>ah (_::·) pX
end
abbrev IK(k:Nat)(as:-Nat)(Av:-(Bv×Az)):Az where
 AR:=Ao (Hm Av)
 C2:=Ao.C2 _
 AH Ak l v:=.ab (.DM k as) l.b (Ij Ak l Av v)
 aW:=Ab
 strict:=Ab
 Dx _ _ _:=ah (T.ab (.DM k as) Ab) i6
 no _ _:=pT
 a5 _ _:=pW
 Bf:=br
 st:=br
structure PO(c x:Nat)(V:-Az) where
 An:-C8->↑C8
 AI:Ea->↑C8->Bool
 AB:Br->Bool
 wp:Bk->Ao V->(T->Prop)->Prop
 AX:∀{w:Bk} {st:Br} {Af:Ao V} {z:A5} {Q},In w V st Af z->∀l,AI z.V.C l=Y->AB st=Y->wp w Af Q->Dj z (DJ<|An l) (Jm c x Q)
section
variable{c x:Nat}{d V:-Az}{t Bd:Az}{as:-Nat}{Av:-(Bv×Az)}{BO:Bv}
def Adr:PO c x (IK (Fg c x) as Av::d) where
 An _:=[]
 AI _ _:=Y
 AB st:=decide (st.EP=U .Dd)
 wp w Af Q:=Q (.ab (.DM c as) Y<|Ij w.AA .Dd Av Af.1)
 AX H l _ k q:=lE<|.mk as _ (H.2.b6 (F0 _)<|aL k) q
def Ah1(s:BC V Bd BO)(b:PO c x V):PO c x V where
 An l:=s.An (IP l)::b.An l.tail
 AI C l:=s.AI C (IP l)&&b.AI C l.tail
 AB st:=(s.AB [] st).elim Ab λo=>o.elim Ab b.AB
 wp w Af Q:=s.wp w Af {λa=>b.wp w a Q,λZ=>False,λZ=>False,λZ=>False}
 AX H l h k q:=a3 h λa f=>c9 k λo c k=>c9 k λd g k=>h1 ((s.AX H _ a c q).aq λFt a r=>by
  cases r with
  |av e R q=>calcλw=>b.AX (H.ax R) _ f (BQ (g.symm^e)∣k) q|LA R q=>calc q.elim|Ft R q=>calc q.elim|bW q=>calc q.elim)
def Cc.abR{Ak:EA}{t t':Az}{st:Br}{Af:Ao (t::V)}{Am:B5}{l:Bv}{v:t'.AR}(R:Cc Ak (t::V) st Af Am)(h:st.EP=U l):Cc Ak (t'::V) st ((v,Af.2):t'.AR×Ao V) (Am.set 0<|U<|t'.AH Ak l v):=a8 R λZ r e Z a=>e⊂{_,r,rfl,λa b=>by cases D8 h.symm b;rfl,a}
def IZ(n:Nat)(f:Bv)(a:Bx (IK (Fg c x) as Av::d) t)(b:PO c x (IK (Fg c x) (as++[n]) (Av++[(f,t)])::d))(Ax:autoParam (HM c n=Y) mAr)(e:autoParam (F1 as n=Ai) mAr)(HT:autoParam (J as<=100) mAd):PO c x (IK (Fg c x) as Av::d) where
 An l:=.Assign [.Attribute (IS<|Ap (Bh (IP l) 1) 0) (En n) (Bh (IP l) 1).pos] (a.An<|Bh (IP l) 0) (E5<|IP l)::b.An l.tail
 AI C l:=(MD C 0 (CN<|Ap (Bh (IP l) 1) 0)&&a.AI C (Bh (IP l) 0))&&b.AI C l.tail
 AB st:=(decide (st.EP=U .Dd)&&(a.AB st).elim Ab λr=>decide<|tk t r.1 r.2=U f)&&b.AB st
 wp w Af Q:=a.wp w Af λv=>b.wp w ((Ao.bN Av Af.1 v,Af.2):(IK (Fg c x) (as++[n])<|Av++[(f,t)]).AR×Ao d) Q
 AX {w st Af z _} H l h k q:=a3 h λg i=>aC (aD g) λg j=>aC (aD (aD k).1) λh l=>c9 l λr m o=>cT (d8 g) λp s u=>h1 (wV H.1.ok ((a.AX H _ j m q).em λv q=>⟨_,gO<|aL o,λX a=>gL (z:=z.aA X a) p s u (H.2.b6 (F0 _)<|aL h) ⟨_,as,_,rfl,{ip^Ax,HT},λy=>b.AX (z:=z.ax (z.Am.set 0<|U<|T.ab (.DM (Fg c x)<|PD as n) Y<|Gi (F1 as n) (Ij w.AA .Dd Av Af.1)<|t.AH w.AA f v) y) ⟨{H.1.1,H.1.2,H.1.3},(show Cc w.AA (IK (Fg c x) (as++[n]) (Av++[(f,t)])::d) st ((Ao.bN Av Af.1 v,Af.2):(IK (Fg c x) (as++[n])<|Av++[(f,t)]).AR×Ao d) (z.Am.set 0<|U<|T.ab (.DM (Fg c x)<|PD as n) Y<|Gi (F1 as n) (Ij w.AA .Dd Av Af.1)<|t.AH w.AA f v) from by
  have R:=H.2.abR (t':=IK (Fg c x) (as++[n])<|Av++[(f,t)]) (v:=Ao.bN Av Af.1 v)<|aL h;rw[show(IK (Fg c x) (as++[n])<|Av++[(f,t)]).AH w.AA .Dd (Ao.bN Av Af.1 v)=T.ab (.DM (Fg c x)<|as++[n]) Y (Ij w.AA .Dd Av Af.1++[t.AH w.AA f v]) from ah (T.ab _ Y)<|pX] at R;unfold PD;rw[e];calc R)⟩ _ i (aD k).2 q⟩⟩))
def i7{Ak:EA}{l:Bv}:∀{Av:-(Bv×Az)} {i:Nat} {f:Bv} (v:Ao (Hm Av)),(Av[i]?).map (·.1)=U f->(Ij Ak l Av v)[i]?=U ((gt (Hm Av) i).AH Ak (l.Zw f)<|Ao.Cq (Hm Av) i v)
 |_::_,0,_,_,h=>by delta h;rfl|_::Av,_+1,_,v,h=>i7 v.2 h
def pK{Ak:EA}{l:Bv}:∀{Av:-(Bv×Az)} {i:Nat} {f:Bv} (v:Ao (Hm Av)) (y:(gt (Hm Av) i).AR),(Av[i]?).map (·.1)=U f->(Ij Ak l Av v).set i ((gt (Hm Av) i).AH Ak (l.Zw f) y)=Ij Ak l Av (Ao.BG (Hm Av) i y v)
 |_::_,0,_,_,_,h=>by delta h;rfl|_::Av,_+1,_,v,y,h=>ah (_::·)<|pK v.2 y h
def Aay(n i:Nat)(f:Bv)(Ax:autoParam (HM c n=Y) mAr)(a:autoParam (F1 as n=U i) mAr)(b:autoParam ((Av[i]?).map (·.1)=U f) mAr):IL (IK (Fg c x) as Av) (gt (Hm Av) i):={n,Ao.Cq (Hm Av) i,λl=>l.Zw f,λ{c l v d Q} q=>.mk (ip^Ax) a (i7 v b) q}
def Aaz(n i:Nat)(p:L6 V (IK (Fg c x) as Av))(Ax:autoParam (HM c n=Y) mAr)(b:autoParam (F1 as n=U i) mAr)(a:autoParam ((Av[i]?).map (·.1)=U .A) mAr):L6 V (gt (Hm Av) i) where
 An e:=.Attribute (p.An<|Ap e 0) (En n) e.pos
 AI C e:=p.AI C (Ap e 0)
 Y4:=0
 AB st:=(p.AB st).bind λl=>if l=.Dd then U .A else Ai
 wp w Af Q:=p.wp w Af λv a=>Q (Ao.Cq (Hm Av) i v) λy=>a (Ao.BG (Hm Av) i y v)
 nb _:=rfl
 AX H e h k q:=aV k λl d k=>aC (bf k) λj e=>e▸wz H.1.ok (p.nb _) ((p.AX H _ h (j▸d) q).aq λf d p=>p.rec λ{v d g} e q=>{.DM (Fg c x) as,_,rfl,i,_,{ao (ip.trans Ax)^b,i7 v a},.mk (λy=>ah (λa=>g<|T.ab (.DM (Fg c x) as) Y a) (pK v y a)▸e (Ao.BG (Hm Av) i y v)) q})
def pZ{Ak:EA}{l:Bv}{u:Az}(a:u.aW=Y):∀Al:List u.AR,NC (Al.map λy=>u.AH Ak l y)=Y
 |[]=>rfl|_::Al=>bc {(cQ a).2,pZ a Al}
noncomputable def ext(p:L6 V ⇑t)(a:Bx V ⇑t)(g:autoParam (t.aW=Y) mAr):BC V Bd BO where
 An s:=.Expr (.Call (.Attribute (p.An<|Ap (Ap (Bh s 0) 0) 0) "extend" (Ap (Bh s 0) 0).pos) [a.An<|Ap (Bh s 0) 1] [] (Bh s 0).pos) (E5 s)
 AI C s:=((Ap (Bh s 0) 0).pos.endLine==(Bh s 0).pos.line)&&(p.AI C (Ap (Ap (Bh s 0) 0) 0)&&a.AI C (Ap (Bh s 0) 1))
 AB _ st:=(p.AB st).bind λl=>(a.AB st).bind λZ=>if l.b=Y then U (U st) else Ai
 wp w Af P:=p.wp w Af λb c=>AP (J b)/\a.wp w Af λa=>AP (J a)/\P.av (c<|b++a)
 AX {w _ _ _ _ _ _} H s h c q:=cp h λj m o=>aV c λl u c=>aV c λr z c=>aC (bf c) λi e=>e▸wL (p.nb _) j (a.B1 _).1 ((p.AX H _ m u q).aq λA c p=>p.rec λ{c d f} e q=>⟨c.map λx=>t.AH w.AA l.B2 x,dX i c,q.1.bw,(a.AX H _ o z q.2).em λa q=>⟨_,a.map λy=>t.AH w.AA l.B2 y,(ah (T.ab .Bo r.2.b)<|fI g r.2.B2 l.B2),{g5 g a,pZ g a,q.1.bw},.av rfl (by
  have h:=e<|c++a;rw[dX i,Ee] at h;calc h) q.2⟩⟩)
end
noncomputable section
section
variable{w:Bk}{k:Nat}
def i8(bt:NX w.Aa w.DD){c i:Nat}{as EG ls:-Az}{b:∀x,PO c x (IK (Fg c x) [] []::(EG++ls))}{BI a0:As}{Ae:Ao as}{IE:Ao EG}{Q:T->Prop}(A4:ND c=U BI)(f:c<2)(g:HS w.Aa (B6 i a0))(h:H4 w.Aa.K (.ref BI) "__init__"=U (U<|.ref a0))(j:isFn w.Aa.K (.ref a0)=Y)(a:Lc w.AA as Ae++(B6 i 0).E3=Lc w.AA EG IE)(d:(B6 i 0).FR.length=J EG+1/\(B6 i 0).NM.length=J ls)
  (hs:∀x,(b x).AI (B6 i 0).C (B6 i 0).Eg=Y/\(b x).An (B6 i 0).Eg=(B6 i 0).Eg/\(b x).AB (U .Dd::CV (J EG) (U .F))=Y)(H:∀x,(b x).wp (w^^k) (((),Ao.DL EG IE<|Ao.C2 ls):Unit×Ao (EG++ls)) Q):Ia w.Aa (AS<|k+1) (.ref BI) (Lc w.AA as Ae) Q:=
 xc (F:=B6 i a0) bt.1 A4 f g (by rw[Gb,Hb,<-BD,show(B6 i a0).E3=(B6 i 0).E3 from rfl,a,g0];calc d.1.symm) (λx z AW A3 DU m=>by
  have o:In (w^^k) (IK (Fg c x) [] []::(EG++ls)) (U .Dd::CV (J EG) (U .F)) (((),Ao.DL EG IE<|Ao.C2 ls):Unit×Ao (EG++ls)) z:=⟨{AW,DU,bt},by
   rw[m];calc {_,_,rfl,λl e=>by delta e;rfl,?_};show Cc _ _ _ _ ((Lc w.AA as Ae++(B6 i 0).E3).map U++CV (B6 i 0).NM.length Wl);rw[a,d.2];calc Cc.Gg⟩
  have S:=(b x).AX o (B6 i 0).Eg (A3⊂(hs x).1) (hs x).2.2<|H x;rw[(hs x).2.1] at S;calc S) h j
end
def Zx(x:Nat):PO 0 x [IK (Fg 0 x) [] [],O,O,Ar O,EZ,ER,O,O]:=IZ (t:=O) 0 .A (v 1)<|IZ (t:=O) 1 .A (v 2)<|IZ (t:=Ar O) 2 .A (v 3)<|IZ (t:=EZ) 3 .A (v 4)<|IZ (t:=ER) 4 .A (v 5)<|IZ (t:=O) 5 .A (v 6)<|IZ (t:=O) 6 .A (v 7) Adr
def pY(i:Nat)(h:i=1\/i=2)(x:Nat):(Zx x).AI (B6 i 0).C (B6 i 0).Eg=Y/\(Zx x).An (B6 i 0).Eg=(B6 i 0).Eg/\(Zx x).AB (U .Dd::CV 7 (U .F))=Y:=by
 rcases h with rfl|rfl<;>calc {Sort,Sort,Sort}
section
variable{w:Bk}{k n l:Nat}{r:-Nat}{u:Int}
def pU(w:Bk):Gh (DP w Cb (.AU,.A) (·=({l,r,u},n))) (Cb.AH w.AA .A ({l,r,u},n)):=.bh (Cb.a5 w.AA _)<|.mk rfl
def pV:Of.BZ (w^^k+1) (n,l,r,u,()) (·=({l,r,u},n)):=λc=>bP c.7 λd a f h=>i8 c (EG:=[O,O,Ar O,EZ,ER,O,O]) (ls:=[]) (b:=Zx) (IE:=(n,l,r,u,(),0,0,())) c.6.1 ∅ f.1 h.1.1 h.1.2 rfl {rfl,rfl} (pY 1<|.inl rfl) λx=>pU _
def abS:Aby.BZ (w^^k+1) (n,l,r,u,(),0,0,()) (·=({l,r,u},n)):=λc=>bP c.7 λd a f h=>i8 c (EG:=[O,O,Ar O,EZ,ER,O,O]) (ls:=[]) (b:=Zx) (IE:=(n,l,r,u,(),0,0,())) c.6.2.1 ∅ f.2.1 (BQ (c.6.1.symm^c.6.2.1)∣h.1.1) h.1.2 rfl {rfl,rfl} (pY 2<|.inr rfl) λx=>pU _
end
abbrev pJ:-(Bv×Az):=[(.F,⇑Ac),(.A,O),(.F,⇑Cb),(.F,AQ A7 O),(.A,ER),(.A,O)]
abbrev pO:-(Bv×Az):=[(.F,⇑Ac),(.A,O),(.F,⇑Cb),(.F,AQ A7 O),(.A,ER),(.A,O),(.A,⇑⇑O),(.A,⇑O),(.A,⇑O)]
abbrev p0:-(Bv×Az):=pO++[(.A,O)]
abbrev Ah2(x:Nat):Az:=IK (Fg 1 x) [7,8,9,10,11,12] pJ
abbrev i9(x:Nat):Az:=IK (Fg 1 x) [7,8,9,10,11,12,13,14,15] pO
abbrev p1(x:Nat):-Az:=[Ah2 x,⇑Ac,O,⇑Cb,AQ A7 O,ER,O,Cb]
abbrev P0(x:Nat):-Az:=[i9 x,⇑Ac,O,⇑Cb,AQ A7 O,ER,O,Cb]
def Ads{x:Nat}:IL (i9 x) ⇑O:=Aay 15 8 .A
def AaA{x:Nat}:L6 (P0 x) (i9 x):=Dp 0<|F0 7
def Ah3{x:Nat}:L6 (P0 x) ⇑⇑O:=Aaz 13 6 AaA
def Ah4{x:Nat}:L6 (P0 x) ⇑O:=Aaz 14 7 AaA
def Ah5{x:Nat}:L6 (P0 x) ⇑O:=Aaz 15 8 AaA
def UP{x:Nat}:Bx (P0 x) Cb:=v 7
def Ah6(x:Nat):Au (P0 x) ER .A:=sq (E6 (Y5 (JU ⇑O) Ah3<|Bw FF UP)<|Bw PT UP)<|sq (E6 Ah4<|Cd (G2 O)<|Bw Ads<|v 0)<|sq (ext Ah5 (BJ (TH O) (Bo<|Ag<|Bw PT UP)<|BJ FW (Cd (MI O)<|Bw Le UP)<|n 1)) af
def Adt(x:Nat):BC (P0 x) ER .A:=Ca [Y,Y,Y,Y,Y,Y,Y,Ab] (BF 7<|EM 7) (CP<|Bw (Aay 9 2 .F)<|v 0)<|Ah6 x
def Ah7(x:Nat):PO 1 x (P0 x):=Ah1 (Adt x)<|IZ 16 .A (Cd (G2 O)<|Bw Ads<|v 0) Adr
def Ah8(x:Nat):PO 1 x (p1 x):=IZ (t:=⇑⇑O) 13 .A (CQ (V:=p1 x) [Ac] (BF 8<|EM 8) (CP (t:=Ac)<|Bw (Aay (c:=1) (as:=[7,8,9,10,11,12]) (Av:=pJ) 7 0 .F)<|v 0) D7<|C4 O).x<|IZ (t:=⇑O) 14 .A (C4 O)<|IZ (t:=⇑O) 15 .A (C4 O)<|Ah7 x
def UQ(x:Nat):PO 1 x [IK (Fg 1 x) [] [],⇑Ac,O,⇑Cb,AQ A7 O,ER,O,Cb]:=IZ (t:=⇑Ac) 7 .F (v 1)<|IZ (t:=O) 8 .A (v 2)<|IZ (t:=⇑Cb) 9 .F (v 3)<|IZ (t:=AQ A7 O) 10 .F (v 4)<|IZ (t:=ER) 11 .A (v 5)<|IZ (t:=O) 12 .A (v 6)<|Ah8 x
def abT(x:Nat):(UQ x).AI (B6 3 0).C (B6 3 0).Eg=Y/\(UQ x).An (B6 3 0).Eg=(B6 3 0).Eg/\(UQ x).AB (U .Dd::CV 6 (U .F))=Y:={Sort,Sort,Sort}
def Xz(p:↑↑Nat×↑Nat×↑Nat)(r:Bp×Nat):↑↑Nat×↑Nat×↑Nat:=(p.1.set r.1.l<|p.1.getD r.1.l []++[r.2],p.2.1++[J p.2.2],p.2.2++CV (J r.1.r+1) r.2)
def Sh(names:-Nat)(Ad:Nat)(aa:-Bp)(st:Nat):AK:=
 let q:=aa.zipIdx.foldl Xz (names.map λZ=>[],[],[])
 {names,Ad,aa,st,q.1,q.2.1,q.2.2,J q.2.2}
def XA(names:-Nat)(Ad:Nat)(aa:-Bp)(st:Nat):Prop:=Em
 ((Sh names Ad aa st).CA)
 (AP<|Ma aa.zipIdx+J aa)
def abW{R:-Bp}{r:Bp×Nat}(h:r∈R.zipIdx):r.1∈R:=kA h
def XB(N:Nat)(rs:-(Bp×Nat))(UR:↑↑Nat)(s:↑↑Nat×↑Nat×↑Nat):Prop:=Mo
 (s=rs.foldl Xz (UR,[],[]))
 (J s.1=N)
 (∀i,(s.1.getD i []).length<=J rs)
 (J s.2.1=J rs)
 (J s.2.2=Ma rs+J rs)
def abX{rs:-(Bp×Nat)}{r:Bp×Nat}:Ma (rs++[r])=Ma rs+J r.1.r:=by unfold Ma;rw[Ee,AjW];rfl
def XB.aU{N:Nat}{rs:-(Bp×Nat)}{UR:↑↑Nat}{s:↑↑Nat×↑Nat×↑Nat}{r:Bp×Nat}(I:XB N rs UR s)(a:r.1.l<N):XB N (rs++[r]) UR (Xz s r):=⟨
 (by rw[SV,<-I.1];rfl),
 (Mk ..^I.2),
 (λi=>by
  rw[cZ<|I.2⊂a,BD]
  split
  ·rw[BD];exact G8 (I.3 _) 1
  ·calc Ml<|I.3 i),
 (by
  rw[BD,I.4,BD];rfl),
 (by
  rw[BD,I.5,MJ,BD,abX,AjX];rfl)⟩
section
variable{x Ad st:Nat}{w:Bk}{names:-Nat}{R:-(Bp×Nat)}{c:Bp×Nat}{a:↑↑Nat}
abbrev ja(x:Nat)(Hx:-Nat)(Ad:Nat)(R:-(Bp×Nat))(st:Nat)(s:↑↑Nat×↑Nat×↑Nat)(r:Bp×Nat):Ao (P0 x):=((Hx,Ad,R,[],(),st,s.1,s.2.1,s.2.2,()),Hx,Ad,R,[],(),st,r,())
def abK{P:FK (P0 x) ER}(g:AP (J names))(b:AP (J R))(h:∀q∈R,q.1.l<J names/\AP (J q.1.r+1))(d:AP (Ma R+J R))(i:XB (J names) [] a (a,[],[]))(BA:∀s,XB (J names) R a s->P.av (ja x names Ad R st s c)):(Adt x).wp w (ja x names Ad R st (a,[],[]) c) P:=by
 clear x Ad st w names R c a _ P _ g b h d i BA;calc b1 (xs:=R) (λs=>ja x names Ad R st s c) (λb s=>XB (J names) b a s) (λZ q=>{b,q}) rfl i (λAl r l s AV e I j=>?_) BA;have m:J Al+(J l+1)=J R:=by rw[<-e,BD,Gb]
 calc aC (h r<|e∣BH _ (.head _)) λAg f=>?_;have eb:=m▸CD _ _;have fS:J s.2.2<=Ma R+J R:=I.5⊂EL (by rw[<-e];unfold Ma;rw[Ee,AjW];calc CD _ _) eb;calc {{I.2⊂Ag,Cu.lt Ag g},I.3 _\(eb\b),{fS\d,I.4⊂(eb\b),fS\d,{Ex _\f,r.2,rfl,f,by rw[MJ];calc f,j _<|I.aU Ag}}}
def abZ{g:AK}{as:-Nat}(has:as=[7,8,9,10,11,12,13,14,15,16]):Gh (DP w A1 (.aM,.F) (·=g)) (.ab (.DM 1 as) Y<|Ij w.AA .Dd p0 (g.Aq,g.Ad,g.aa.zipIdx,([]:(AQ A7 O).AR),(),g.st,g.L7,g.c0,g.bh,g.J4,())):=.Gz (by
 subst has;show DP w A1 (.aM,.F) (·=g) (T.ab (.DM 1 _) Ab<|Fp<|Ij w.AA .Dd p0 _) .aM;rw[i6];calc(.mk rfl))
def p2{d:-Bp}{k:Nat}(h:XA names Ad d st):Uc.BZ (w^^k+1) (names,Ad,d.zipIdx,[],(),st,()) (·=Sh names Ad d st):=by
 clear Ad st w names d k _ h;exactλbt=>bP bt.7 λa0 r f j=>i8 bt (i:=3) (EG:=[⇑Ac,O,⇑Cb,AQ A7 O,ER,O]) (ls:=[Cb]) (b:=UQ) (IE:=(names,Ad,d.zipIdx,[],(),st,())) bt.6.2.2 ∅ f.2.2 j.2.1 j.2.2 rfl {rfl,rfl} abT λx=>by
  have e:AP (J names):=BY h.1.1\∅;have a:∀s,(names.map λZ=>([]:-Nat)).getD s []=[]:=λs=>by rw[CO,Gw];cases names[s]?<;>rfl
  calc {e,{e,λZ=>Y,λZ=>[],λZ Z=>{rfl,λZ=>rfl},?_}};rw[Z8 (l:=names) (p:=λZ=>Y)|>.mpr λZ Z=>rfl];refine abK (R:=d.zipIdx) e (by rw[Fb];calc BY h.1.3\∅) (λq m=>?_) (by rw[Fb];calc h.2) {rfl,Bq _,λi=>by rw[a];calc CE _,rfl,rfl} λs I=>{?_,?_}
  ·have o:=h.1.4 q.1<|abW m;exact {o.1,o.3\∅}
  ·rw[show(J s.2.2)=_ from I.5,Fb];exact h.2
  ·cases I.1;calc abZ (w:=w.at<|AS<|k+1) (g:=Sh names Ad d st) rfl
end
end
def Zy(rs:-(Bp×Nat))(s:Nat):-Nat:=(rs.filter λp=>p.1.l==s).map (·.2)
def p3(N:Nat):∀(rs:-(Bp×Nat)) (p:↑↑Nat×↑Nat×↑Nat),J p.1=N->(∀q∈rs,q.1.l<N)->(rs.foldl Xz p).1.length=N/\∀s,(rs.foldl Xz p).1.getD s []=p.1.getD s []++Zy rs s
 |[]=>λp h Z=>{h,λs=>(Ct _).symm}
 |r::rs=>λp h a=>by
  refine aC (p3 N rs (Xz p r) (Mk ..^h) λq b=>a q<|List.mem_cons_of_mem _ b) λc d=>{c,λs=>?_}
  rw[Rp,d];rw[cZ<|h⊂a r Z4];unfold Zy;by_cases e:r.1.l=s;·subst e;rw[ao rfl,Rn (p:=λp:Bp×Nat=>p.1.l==r.1.l)<|beq_self_eq_true r.1.l,HI,Dr];rfl
  ·rw[ai e,SY (p:=λp:Bp×Nat=>p.1.l==s) λz=>e<|eq_of_beq z]
def abY{R:-Bp}{s j:Nat}:j∈Zy R.zipIdx s↔j<J R/\(R.getD j Bz).l=s:=by
 clear R s j _;unfold Zy;rw[ZS];constructor
 ·rintro ⟨⟨r,i⟩,h,rfl⟩
  rw[SD] at h;have Ag:=d0 h.1;exact {(bK Ag),by rw[CO,Ag];calc beq_iff_eq.mp h.2}
 ·rintro ⟨Ag,a⟩
  calc {(R.getD j Bz,j),c4 {di (by rw[CO,Dv Ag];rfl),beq_iff_eq.mpr a},rfl}
section
variable{w:Bk}{k:Nat}{g:AK}{B4:-Bool}
def Si(Ad:Nat)(w:-Nat):Int:=w.foldl (λv s=>if s<Ad then(s:Int) else v)<|Neg.neg 1
def US(Ah:-Nat)(Ad:Nat)(v:Int):Ao Ux:=(Ah,Ad,v,0,())
def abU(h:AP (J Ah)):Oh.BZ (w^^k+1) (Ah,Ad,()) (·=Si Ad Ah):=by calc aY aaf ?_;show AbA.wp _ (US Ah Ad<|Neg.neg 1) _;calc c2 (t:=O) (xs:=Ah) (λa=>US Ah Ad<|Si Ad a) (λZ q=>{h,q}) rfl (λAl s l AV e a=>?_) rfl;unfold Si at a;rw[SV] at a;calc bV (λc=>(ah (λv=>AV<|US Ah Ad v)<|ao c).mp a) λc=>(ah (λv=>AV<|US Ah Ad v)<|ai c).mp a
def HU(g:AK)(B4:-Bool)(s:Nat):Bool:=decide (s<=g.Ad)||AD B4 s
def Gq(g:AK)(B4:-Bool)(n:Nat):-Nat:=Dq n λs=>((Cg s).filter<|HU g B4).length
def Fw(g:AK)(B4:-Bool)(n:Nat):-Nat:=((Cg n).filter<|HU g B4).map<|Es g
def UT(pl:-Nat)(r:Bp):Bp:={pl.getD r.l 0,r.r.map λs=>pl.getD s 0,r.v}
def LL(Cv:-Bool)(pl:-Nat)(Al:-(Bp×Nat)):-Bp:=(Al.filter λr=>decide (r.2=0)||AD Cv r.2).map λr=>UT pl r.1
def QO(g:AK)(B4 Cv:-Bool)(pl B3:-Nat)(s:Nat)(rs:-(Bp×Nat))(r:Bp×Nat):Ao L8:=(g,B4,Cv,pl,B3,s,rs,r,[],0,())
def abV{n:Nat}:Fw g B4 (n+1)=if HU g B4 n=Y then Fw g B4 n++[Es g n] else Fw g B4 n:=by
 unfold Fw;rw[VB,LZ,Ee];cases h:HU g B4 n with
 |true=>rw[ao rfl,Rn h];rfl|false=>rw[ai nofun,SY (by rw[h];nofun)];calc Ct _
def abJ:LL Cv pl (Al++[r])=if(decide (r.2=0)||AD Cv r.2)=Y then LL Cv pl Al++[UT pl r.1] else LL Cv pl Al:=by
 unfold LL;rw[LZ,Ee];cases h:decide (r.2=0)||AD Cv r.2 with
 |true=>rw[ao rfl,Rn (p:=λr:Bp×Nat=>decide (r.2=0)||AD Cv r.2) h];rfl|false=>rw[ai nofun,SY (by rw[h];nofun)];calc Ct _
def p4:(xs++[x]).zipIdx=xs.zipIdx++[(x,J xs.zipIdx)]:=by rw[List.zipIdx_append,Fb,EV];rfl
def p5(hs:S)(Ag:(z||y)=Y->A)(a:(z||y)=Ab->B):E2 .Or z (S/\if y=Y then A else B) λb=>if b=Y then A else B:=by
 cases z with
 |true=>calc Ag rfl|false=>calc {hs,bH Ag a}
def abO{i:Nat}(b:g.CA)(Ag:J B4=J g.Aq)(a:i<J g.Aq)(h:P.av (QO g B4 Cv (Gq g B4<|i+1) (Fw g B4<|i+1) i [] (Bz,0))):OG.wp w (QO g B4 Cv (Gq g B4 i) (Fw g B4 i) i [] (Bz,0)) P:=by
 clear w g B4 Cv P i _ b Ag a h;have d:=b.aw a;have f:(Fw g B4 i).length<=i:=by unfold Fw;exact cR\Di Gy
 have aB:AP (Fw g B4 i).length:=f\(BY a\b.aB);have e:Gq g B4 (i+1)=Gq g B4 i++[(Fw g B4 i).length]:=by unfold Gq Fw;rw[ha,Bq]
 rw[e,abV] at h;calc {aB,?_,p5 (z:=decide<|i<=g.Ad) (y:=AD B4 i) {Ag⊂a,d} (λc=>{{a,d},aB,?_}) λc=>?_};·unfold Gq;show AP (Dq _ _).length;rw[c1];exact BY a\b.aB
 ·rw[ao<|show HU g B4 i=Y from c] at h;exact h
 ·rw[ai<|show¬HU g B4 i=Y from QA.mp c] at h;calc h
def ab0{pl B3:-Nat}{Al:-(Bp×Nat)}{r:Bp×Nat}(a:g.CA)(f:J Cv=J g.aa)(i:J pl=J g.Aq)(b:r∈g.aa.zipIdx)(j:AP (J Al))(h:∀l q,P.av ((g,B4,Cv,pl,B3,0,(LL Cv pl<|Al++[r]).zipIdx,r,l,q,()):Ao L8)):OH.wp (w^^k+1) (QO g B4 Cv pl B3 0 (LL Cv pl Al).zipIdx r) P:=by
 clear w k g B4 Cv P pl B3 Al r _ a f i b j h;have o:=a.4 _<|bX b;have m:r.2<J g.aa:=Yd b;have d:AP (J r.1.r):=BY o.3\∅;have Co:AP (LL Cv pl Al).zipIdx.length:=by rw[Fb];exact cR\j
 have p:∀s,s<J g.Aq->s<J pl/\Cu s:=λs b=>{i⊂b,a.aw b}
 rw[abJ] at h;refine p5 (z:=decide<|r.2=0) (y:=AD Cv r.2) {f⊂m,Cu.lt m<|BY a.3\∅} (λc=>?_) λc=>?_
 ·rw[ao c,p4] at h;calc {d,d,λZ=>Y,λ(s:Nat)=>pl.getD s 0,λs a=>{rfl,λZ=>{p s<|o.2 s a,rfl}},?_,?_};·show AP (Hs _<|SU _ r.1.r).length;exact cR\d
  ·calc {p _ o.1,Co,abS.aq λy e=>{Co,?_}};subst e;show P.av (g,B4,Cv,pl,B3,0,(LL Cv pl Al).zipIdx++[({pl.getD r.1.l 0,(r.1.r.filter λZ=>Y).map λs=>pl.getD s 0,r.1.v},(LL Cv pl Al).zipIdx.length)],r,(r.1.r.filter λZ=>Y).map λs=>pl.getD s 0,_,());rw[b8];exact h _ _
 ·rw[ai<|QA.mp c] at h;calc h _ _
def Adu(g:AK)(B4 Cv:-Bool):AK:=Sh (Fw g B4<|J g.Aq) g.Ad (LL Cv (Gq g B4<|J g.Aq) g.aa.zipIdx)<|(Gq g B4<|J g.Aq).getD g.st 0
def ab1(a:g.CA)(b:g.st<J g.Aq)(Ag:J B4=J g.Aq)(d:J Cv=J g.aa)(f:XA (Fw g B4<|J g.Aq) g.Ad (LL Cv (Gq g B4<|J g.Aq) g.aa.zipIdx) ((Gq g B4<|J g.Aq).getD g.st 0)):Ue.BZ (w^^k+2) (g,B4,Cv,()) (·=Adu g B4 Cv):=by
 clear w k g B4 Cv _ a b Ag d f;calc aY aah ?_;have h:(Gq g B4<|J g.Aq).length=J g.Aq:=c1;show AbL.wp _ (QO g B4 Cv [] [] 0 [] (Bz,0)) _;calc i0 (λi=>QO g B4 Cv (Gq g B4 i) (Fw g B4 i) 0 [] (Bz,0)) (λZ q=>(dp a.aB).aq λn e=>{e⊂a.aB,e⊂q}) rfl (C9 _) (λi AV Z j c=>?_) ?_;·show OG.wp _ (QO g B4 Cv (Gq g B4 i) (Fw g B4 i) i [] (Bz,0)) _;exact abO a Ag j c
 ·show AbM.wp _ (QO g B4 Cv (Gq g B4<|J g.Aq) (Fw g B4<|J g.Aq) 0 [] (Bz,0)) _;calc c2 (t:=Cb) (xs:=g.aa.zipIdx) (λa=>QO g B4 Cv (Gq g B4<|J g.Aq) (Fw g B4<|J g.Aq) 0 (LL Cv (Gq g B4<|J g.Aq) a).zipIdx (Bz,0)) (λZ q=>{a.bA,q}) rfl (λAl r l AV e c=>?_) {{h⊂b,a.aw b},p2 f};show OH.wp _ (QO g B4 Cv (Gq g B4<|J g.Aq) (Fw g B4<|J g.Aq) 0 (LL Cv (Gq g B4<|J g.Aq) Al).zipIdx r) _;calc ab0 a d h (e∣BH _ (.head _)) ((by rw[<-e,BD];calc CD _ _)\a.bA) λZ Z=>c
end
class inductive F9(E:Nat->Nat->Prop)(m:Nat):Nat->Nat->Prop where
 |P1 {a b:Nat}:E a b->F9 E m a b
 |CQ {a b c:Nat}:F9 E m a c->c<m->F9 E m c b->F9 E m a b
def F9.aq{n:Nat}(h:F9 E m a b)(c:m<=n):F9 E n a b:=by
 cases h with
 |P1 h=>calc .P1 h|CQ _ A4 _ d e=>calc .CQ d (Cw A4 c) e
def ab2:F9 E (m+1) a b↔F9 E m a b\/F9 E m a m/\F9 E m m b:=by
 constructor
 ·intro h;cases h with
  |P1 h=>calc .inl<|.P1 h|CQ _ A4 _ e f=>
   rcases kB.mp A4 with A4|rfl
   ·rcases e with Ag|⟨Ag,d⟩<;>rcases f with c|⟨c,g⟩
    ·exact .inl<|.CQ Ag A4 c
    ·exact .inr {.CQ Ag A4 c,g}
    ·exact .inr {Ag,.CQ d A4 c}
    ·exact .inr {Ag,g}
   ·exact .inr {e.elim id Z5,f.elim id Rk}
 ·rintro (h|⟨Ag,d⟩)
  ·exact h.aq<|Ex m
  ·calc .CQ (Ag.aq<|Ex m) (EM m)<|d.aq<|Ex m
def ab3:F9 E 0 a b↔E a b:=⟨λh=>by
 cases h with
 |P1 h=>calc h|CQ _ A4 _=>calc ar A4<|I2 _,.P1⟩
abbrev dF(AF:-Nat)(s x:Nat):Prop:=(AF.getD s 0).testBit x=Y
def Fl(n:Nat)(S:Nat->Nat->Prop)(AF:-Nat):Prop:=Em
 (J AF=n)
 (∀s x,dF AF s x↔S s x)
section
variable{w:Bk}{k:Nat}{n m o:Nat}{E:Nat->Nat->Prop}{AF d:-Nat}{g:AK}
def Fl.ax(F:Fl n S AF)(h:∀s x,S s x↔a s x):Fl n a AF:={F.1,λs x=>(F.2 s x).trans<|h s x}
theorem Fl.BG{v:Nat}(F:Fl n S AF)(b:i<n)(h:∀x,v.testBit x=Y↔a i x)(c:∀s x,s≠i->(S s x↔a s x)):Fl n a (AF.set i v):=⟨Mk ..^F.1,λs x=>by
 unfold dF;rw[cZ<|F.1⊂b];by_cases e:i=s;·rw[ao e,<-e];exact h x
 ·rw[ai e];calc(F.2 s x).trans<|c s x λz=>e z.symm⟩
def Fl.lt(F:Fl n S AF)(h:S s x):s<n:=NA λz=>by have:=(F.2 s x).mpr h;unfold dF at this;rw[e5<|F.1⊂z,X8] at this;calc H3 this
def Fl.bR(F:Fl n E AF)(h:F9 E m s x):s<n:=by
 cases h with
 |P1 h=>calc F.lt h|CQ _ _ _ a _=>calc a
def ab4:decide (m>>>i&&&1=1)=m.testBit i:=cn<|bB.trans g6
def TJ(d AF:-Nat)(m o:Nat):Ao TX:=(d,AF,m,o,())
def XC(E:Nat->Nat->Prop)(m o s x:Nat):Prop:=F9 E m s x\/s<o/\F9 E m s m/\F9 E m m x
def ab5:XC E m o m x↔F9 E m m x:={λh=>h.elim id λh=>h.2.2,.inl}
def ab6{P:FK TX ⇑O}(b:AP n)(F:Fl n (XC E m o) AF)(f:m<n)(a:o<n)(h:∀i,Fl n (XC E m<|o+1) i->P.av (TJ d i m o)):OT.wp w (TJ d AF m o) P:=by
 clear w n m o E AF d P _ b F f a h;have BP:o<J AF/\Cu o:={F.1⊂a,Cu.lt a b}
 have old:∀s x,s≠o->(XC E m o s x↔XC E m (o+1) s x):=λs x e=>or_congr_right<|and_congr_left λZ=>{I1,λq=>SX (Mm q) e}
 have l:(AF.getD o 0).testBit m=Y↔F9 E m o m:=(F.2 o m).trans {λh=>h.elim id λh=>h.2.1,.inl};have j:(AF.getD o 0>>>m&&&1=1)↔F9 E m o m:=g6.trans l;refine {BP,bV (p:=AF.getD o 0>>>m&&&1=1) (λc=>{BP,({F.1⊂f,Cu.lt f b}),BP,h _<|F.BG a (λx=>?_) old}) λc=>h _<|F.ax λs x=>?_}
 ·calc ea.trans<|(or_congr (F.2 o x)<|(F.2 m x).trans ab5).trans {λq=>?_,λq=>?_};·exact q.elim (λq=>q.elim .inl λq=>.inr {EM o,q.2}) λq=>.inr {EM o,j.mp c,q}
  ·exact q.elim (λq=>.inl<|.inl q) λq=>.inr q.2.2
 ·by_cases e:s=o;·subst e;exact or_congr_right {λq=>ar q.1<|Hq _,λq=>ar (j.mpr q.2.1) c}
  ·calc old s x e
def ab7(b:AP n)(F:Fl n E d):Ol.BZ (w^^k+1) (d,()) (Fl n<|F9 E n):=by
 have a:=F.1▸b;calc aY aat {a,?_};show AbV.wp _ (TJ d d 0 0) _;calc fR (λa=>TJ d a 0 0) (λm a=>Fl n (F9 E m) a) (λZ q=>{a,a,F.1⊂q}) rfl (C9 _) (F.ax λs x=>ab3.symm) (λm AF AV Z c B e=>?_) λa B=>B;show AbU.wp _ (TJ d AF m 0) _;have a:=B.1▸b;refine fR (λa=>TJ d a m 0) (λo a=>Fl n (XC E m o) a) (λZ q=>{a,a,B.1⊂q}) rfl (C9 _) (B.ax λs x=>{.inl,λh=>h.elim id λh=>ar h.1<|I2 _}) (λo AF i Z BP B f=>?_) λAF B=>e AF<|B.ax λs x=>?_
 ·show OT.wp _ (TJ d AF m o) _;exact ab6 b B c BP f
 ·calc(or_congr_right {λh=>h.2,λh=>{F.bR h.1,h}}).trans ab2.symm
def dq{p:α->Prop}:(∃q∈Al++[r],p q)↔(∃q∈Al,p q)\/p r:=by clear α _ Al r p;calc {λa=>ae a λq h z=>(aN h).elim (λh=>.inl {q,h,z}) λh=>.inr<|aF h∣z,λh=>h.elim (λa=>ae a λq h z=>{q,CL _ h,z}) λz=>{r,BH _<|.head _,z}}
def UW(g:AK)(E:Nat->Nat->Prop)(y:-Nat):Prop:=∃p:Nat->Bool,(∀s,p s=Y↔F9 E (J g.Aq) s s)/\y=(Cn g.Ad<|J g.Aq-g.Ad).filter p
def p6(a:g.CA)(F:Fl (J g.Aq) E d):Uj.BZ (w^^k+2) (g,d,()) (UW g E):=by
 clear w k E d g _ a F;calc aY aau ((ab7 a.aB F).aq λAF B=>by
   have b:=B.1.symm▸a.aB;calc {b,{BY a.2\a.aB,b},?_,λ(s:Nat)=>(AF.getD s 0).testBit s,id,λ(s:Nat) hs=>?_,λs=>(AF.getD s 0).testBit s,λs=>B.2 s s,?_};·show AP (Cn g.Ad<|J AF-g.Ad).length;rw[H6];exact QC _ _\b
   ·have h:=cJ hs;have lt:=Cw h.2<|Di<|MV<|B.1⊂BY a.2;exact {{{lt,Cu.lt lt b},ab4},λZ=>rfl}
   ·show Hs id (SU _<|Cn g.Ad<|J AF-g.Ad)=_;rw[EW,B.1])
def Adv(g:AK)(a b:Nat):Prop:=∃r∈g.aa,a=r.l/\BV (CY g) (λb x=>x=b) r.r b
def Sj(g:AK)(aj:-Bool)(r:Bp×Nat)(s:Nat)(d:-Nat):Ao QZ:=(g,aj,d,r,s,())
def ab8{v:Nat}:(v|||1<<<b).testBit x=Y↔v.testBit x=Y\/x=b:=by rw[ea,AjR,AjQ,bB];calc or_congr_right eq_comm
def Fl.p7{a:Nat}(F:Fl n S AF)(c:a<n):Fl n (λs x=>S s x\/s=a/\x=b) (AF.set a<|AF.getD a 0|||1<<<b):=
 F.BG c (λx=>ab8.trans<|or_congr (F.2 a x) {λh=>{rfl,h},λh=>h.2}) λs x e=>{.inl,λh=>h.resolve_right λz=>e z.1}
def ab9{T:Nat->Nat->Prop}(f:g.CA)(i:GP g (CY g) aj)(j:r.1.l<J g.Aq)(hs:s<J g.Aq)(F:Fl (J g.Aq) S d)(u:∀a x,T a x↔S a x\/a=r.1.l/\BV (CY g) (λb x=>x=b) (s::l) x)
  (Ag:∀e p,Fl (J g.Aq) p e->(∀a x,T a x↔p a x\/a=r.1.l/\BV (CY g) (λb x=>x=b) l x)->P.av (Sj g aj r s e))(y:∀e,Fl (J g.Aq) T e->P.LA (Sj g aj r s e)):OK.wp w (Sj g aj r s d) P:=by
 have q:r.1.l<J d/\Cu r.1.l:={F.1⊂j,f.aw j}
 have B:=F.p7 (b:=s) j;have t:∀a x,T a x↔(S a x\/a=r.1.l/\x=s)\/a=r.1.l/\CY g s/\BV (CY g) (λb x=>x=b) l x:=λa x=>by rw[u,BV.cons,or_assoc,and_or_left]
 calc {q,({BY hs\f.aB,∅}),q,{i.1⊂hs,f.aw hs},bZ (z:=AD aj s) (λc=>y _<|B.ax λa x=>?_) λc=>Ag _ _ B λa x=>?_};·rw[t,<-i.2,c];exact {.inl,λh=>h.resolve_right λz=>Bool.noConfusion z.2.1}
 ·rw[t,<-i.2,c,eq_self,true_and]
def aca(c:g.CA):Oo.BZ (w^^k+3) (g,()) (UW g<|Adv g):=by
 clear w k g _ c;calc aY aaw ((e3 c).aq λaj C=>(dp c.aB).aq λn e=>by
   subst e;calc {0,rfl,c.aB,?_};show Ab1.wp _ (Sj g aj (Bz,0) 0<|CV (J g.Aq) 0) _;refine b1 (t:=Cb) (xs:=g.aa.zipIdx) (Sj g aj (Bz,0) 0) (λc d=>Fl (J g.Aq) (λa x=>∃r∈c,a=r.1.l/\BV (CY g) (λb x=>x=b) r.1.r x) d) (λZ q=>{c.bA,q}) rfl {MJ,λs x=>{λh=>?_,λh=>h.elim λZ h=>ar h.1 CR}} (λAl r l d AV e F A=>?_) λd F=>p6 c<|F.ax λa x=>{λj=>ae j λr p h=>{r.1,bX p,h},λj=>ae j λr p h=>?_}
   ·rw[dF,hc,X8] at h;delta h
   ·have o:=c.4 r.1<|bX<|e∣BH _ (.head _);show Ab0.wp _ (Sj g aj r 0 d) _;refine dD (t:=O) (xs:=r.1.r) (σ:=-Nat) (λd=>Sj g aj r 0 d) (λl d=>∃S,Fl (J g.Aq) S d/\(∀s∈l,s<J g.Aq)/\∀a x,(∃q∈Al++[r],a=q.1.l/\BV (CY g) (λb x=>x=b) q.1.r x)↔S a x\/a=r.1.l/\BV (CY g) (λb x=>x=b) l x) (λZ q=>{BY o.3\∅,q}) rfl {_,F,o.2,λa x=>?_} (λs l d L i D=>?_) λd i=>?_
    ·rw[dq]
    ·obtain⟨S,B,hs,f⟩:=i;show OK.wp _ (Sj g aj r s d) _;exact ab9 c C o.1 (hs s<|.head _) B f (λu G y h=>D u {G,y,λs h=>hs s<|.tail _ h,h}) λu y=>A u y
    ·obtain⟨S,B,-,f⟩:=i;exact A d<|B.ax λa x=>{λh=>(f a x).mpr<|.inl h,λh=>((f a x).mp h).resolve_right λz=>ar z.2 BV.nil}
   ·obtain⟨i,H,I⟩:=Pn p;subst I;calc {(g.aa[i],i),di<|Dv H,h})
def TO(g:AK)(w:-Nat)(b:Nat):Prop:=∃pre post,w=pre++b::post/\(∀y∈pre,CY g y)/\∀y∈post,CY g y
def Adw(g:AK)(a b:Nat):Prop:=∃r∈g.aa,a=r.l/\TO g r.r b
noncomputable def solid(aj:-Bool)(w:-Nat):-Nat:=w.filter λs=>!AD aj s
def P2(aj:-Bool)(n s:Nat):Nat:=if AD aj s=Y then n else n-1
def p8(a:GP g (CY g) aj){w:-Nat}:(solid aj w).length=0↔∀y∈w,CY g y:=by unfold solid;rw[Ajy,Pq];exact forall_congr' λy=>forall_congr' λZ=>by rw[<-a.2];cases AD aj y<;>decide
def acb(a:GP g (CY g) aj){w:-Nat}{x:Nat}:(x∈w/\P2 aj (solid aj w).length x=0)↔TO g w x:=by
 clear g aj w x _ a;have key:∀pre post,P2 aj (solid aj (pre++x::post)).length x=0↔(∀y∈pre,CY g y)/\∀y∈post,CY g y:=λpre post=>by
  rw[<-p8 a,<-p8 a];unfold P2 solid;rw[LZ,BD];cases q:AD aj x with
  |true=>rw[ao rfl,SY (by rw[q];nofun)];calc tI|false=>rw[ai br,Rn (by rw[q];rfl),Gb,<-El,kk];exact tI
 constructor
 ·rintro ⟨Ag,b⟩
  calc a4 (List.append_of_mem Ag) λpre post c=>?_;subst c;exact {pre,post,rfl,(key pre post).mp b}
 ·rintro ⟨pre,post,rfl,h⟩
  calc {BH _<|.head _,(key pre post).mpr h}
def Q0(g:AK)(aj:-Bool)(r:Bp×Nat)(a:-Nat)(s v:Nat)(d:-Nat):Ao PK:=(g,aj,d,r,a,s,v,())
def acd{v:Nat}(b:g.CA)(q:GP g (CY g) aj)(o:r.1.CA (J g.Aq))(hs:s∈r.1.r)(F:Fl (J g.Aq) S d)
  (Ag:∀i t,Fl (J g.Aq) (λa x=>S a x\/a=r.1.l/\x=s/\P2 aj (solid aj r.1.r).length s=0) i->P.av (Q0 g aj r (solid aj r.1.r) s t i)):OX.wp w (Q0 g aj r (solid aj r.1.r) s v d) P:=by
 have j:r.1.l<J d/\Cu r.1.l:={F.1⊂o.1,b.aw o.1}
 have f:=o.2 s hs;have p:AP (solid aj r.1.r).length:=Ro _ _\(BY o.3\∅);have aR:if decide (P2 aj (solid aj r.1.r).length s=0)=Y then(r.1.l<J d/\Cu r.1.l)/\(s<=1000000/\1<2^64)/\(r.1.l<J d/\Cu r.1.l)/\P.av (Q0 g aj r (solid aj r.1.r) s (P2 aj (solid aj r.1.r).length s)<|d.set r.1.l<|d.getD r.1.l 0|||1<<<s) else P.av (Q0 g aj r (solid aj r.1.r) s (P2 aj (solid aj r.1.r).length s) d):=
  bV (λc=>{j,({BY f\b.aB,∅}),j,Ag _ _<|(F.p7 o.1).ax λa x=>or_congr_right<|and_congr_right λZ=>{λe=>{e,c},λe=>e.1}}) λc=>Ag _ _<|F.ax λa x=>{.inl,λh=>h.resolve_right λz=>c z.2.2}
 calc {{q.1⊂f,b.aw f},bH (z:=AD aj s) (λc=>{p,?_}) λc=>{p,?_,?_}};·have e:P2 aj (solid aj r.1.r).length s=(solid aj r.1.r).length:=ao c;rw[e] at aR;exact aR
 ·exact AjK (c4 {hs,by rw[c];rfl}:s∈solid aj r.1.r)
 ·have e:P2 aj (solid aj r.1.r).length s=(solid aj r.1.r).length-1:=ai (by rw[c];nofun);rw[e] at aR;calc aR
def ace(b:g.CA):Om.BZ (w^^k+3) (g,()) (UW g<|Adw g):=by
 clear w k g _ b;calc aY aav ((e3 b).aq λaj c=>(dp b.aB).aq λn e=>by
   subst e;calc {0,rfl,b.aB,?_};show AbO.wp _ (Q0 g aj (Bz,0) [] 0 0<|CV (J g.Aq) 0) _;refine b1 (t:=Cb) (xs:=g.aa.zipIdx) (Q0 g aj (Bz,0) [] 0 0) (λb d=>Fl (J g.Aq) (λa x=>∃r∈b,a=r.1.l/\TO g r.1.r x) d) (λZ q=>{b.bA,q}) rfl {MJ,λs x=>{λh=>?_,λh=>h.elim λZ h=>ar h.1 CR}} (λAl r l d AV e F p=>?_) λd F=>p6 b<|F.ax λa x=>{λf=>ae f λr j h=>{r.1,bX j,h},λf=>ae f λr j h=>?_}
   ·rw[dF,hc,X8] at h;delta h
   ·have o:=b.4 r.1<|bX<|e∣BH _ (.head _);have bA:AP (J r.1.r):=BY o.3\∅;calc {bA,bA,λs=>!AD aj s,id,λs a=>{{{c.1⊂o.2 s a,b.aw<|o.2 s a},rfl},λZ=>rfl},?_};rw[EW];show AbJ.wp _ (Q0 g aj r (solid aj r.1.r) 0 0 d) _;refine b1 (t:=O) (xs:=r.1.r) (Q0 g aj r (solid aj r.1.r) 0 0) (λb d=>Fl (J g.Aq) (λa x=>(∃r∈Al,a=r.1.l/\TO g r.1.r x)\/a=r.1.l/\x∈b/\P2 aj (solid aj r.1.r).length x=0) d) (λZ q=>{bA,q}) rfl (F.ax λa x=>{.inl,λh=>h.resolve_right λz=>ar z.2.1 CR}) (λzs s l d H u B y=>?_) λd B=>p d<|B.ax λa x=>?_
    ·show OX.wp _ (Q0 g aj r (solid aj r.1.r) s 0 d) _;calc acd b c o (u∣BH _ (.head _)) B λA I C=>y A<|C.ax λa x=>?_;rw[or_assoc,Mj,Io];refine or_congr_right {λh=>h.elim (λh=>{h.1,.inl h.2.1,h.2.2}) λh=>{h.1,.inr h.2.1,h.2.1⊂h.2.2},λh=>h.2.1.elim (λq=>.inl {h.1,q,h.2.2}) λq=>.inr {h.1,q,q∣h.2.2}}
    ·rw[dq,acb c]
   ·obtain⟨i,D,G⟩:=Pn j;subst G;calc {(g.aa[i],i),di<|Dv D,h})
end
abbrev GQ:=↑↥↑Nat
def Ga(W:GQ):-Nat->↥↑Nat
 |[]=>U []|s::Bm=>(W.getD s Ai).bind λw=>(Ga W Bm).map (w++·)
class inductive Ce(R:-Bp)(Ad:Nat):-Nat->↑Nat->Prop where
 |nil:Ce R Ad [] []
 |FG {s:Nat} {Bm v:-Nat}:s<Ad->s≠1->Ce R Ad Bm v->Ce R Ad (s::Bm) (s::v)
 |aO {r:Bp} {Bm u v:-Nat}:r∈R->Ce R Ad r.r u->Ce R Ad Bm v->Ce R Ad (r.l::Bm) (u++v)
section
variable{W:GQ}
def Ce.cx{v:-Nat}(h:Ce R Ad a u)(e:Ce R Ad b v):Ce R Ad (a++b) (u++v):=by
 cases h with
 |nil=>calc e|FG Ag c _ d=>calc .FG Ag c d|aO Ag c _ _ d=>rw[Dr];calc .aO Ag c d
def Ce.hh:∀{a b w:-Nat},Ce R Ad (a++b) w->∃u v,w=u++v/\Ce R Ad a u/\Ce R Ad b v
 |[],b,w=>λh=>{[],w,rfl,.nil,h}
 |s::a,b,w=>λh=>by
  generalize e:s::a++b=x at h;cases (h)with
  |nil=>delta e|FG Ag c d=>
   delta e;calc a8 (Ce.hh d) λu v f g i=>?_;subst f;calc {_::u,v,rfl,.FG Ag c g,i}
  |aO Ag c d=>
   delta e;calc a8 (Ce.hh d) λu v f g i=>?_;subst f;calc {_,v,(Dr ..).symm,.aO Ag c g,i}
def ec{Bm:-Nat}:Ga W (s::Bm)=(W.getD s Ai).bind λw=>(Ga W Bm).map (w++·):=rfl
def fT{Bm:-Nat}:Ga W (s::Bm)=U w↔∃a,W.getD s Ai=U a/\∃b,Ga W Bm=U b/\a++b=w:=
 AiC.trans (exists_congr λa=>and_congr_right λZ=>Aiz)
def p9(h:∀s w,W.getD s Ai=U w->Ce R Ad [s] w):∀{Bm w:-Nat},Ga W Bm=U w->Ce R Ad Bm w
 |[],w=>λe=>BQ e∣.nil|s::Bm,w=>λe=>by obtain⟨a,AW,b,A3,rfl⟩:=fT.mp e;calc(h s a AW).cx<|p9 h A3
def acf(a:∀s,s<Ad->s≠1->W.getD s Ai=U [s])(Ag:∀r∈R,∀w,Ga W r.r=U w->∃v,W.getD r.l Ai=U v/\J v<=J w){Bm u:-Nat}(h:Ce R Ad Bm u):∃w,Ga W Bm=U w/\J w<=J u:=by
 cases h with
 |nil=>calc {[],rfl,CE _}|FG b c _ d=>
  calc ae d λw e f=>{_,fT.mpr {_,a _ b c,w,e,rfl},GX f}
 |aO g _ _ i j=>
  calc ae i λq AW bG=>ae j λm A3 o=>?_;refine ae (Ag _ g _ AW) λv DU p=>{_,fT.mpr {v,DU,m,A3,rfl},?_}
  rw[BD,BD];calc EL (p\bG) o
def jb(h:∀s w,W.getD s Ai=U w->J w<=B):∀{Bm w:-Nat},Ga W Bm=U w->J w<=B*(J Bm)
 |[],w=>λe=>BQ e∣C9 _|s::Bm,w=>λe=>by obtain⟨a,AW,b,A3,rfl⟩:=fT.mp e;rw[BD,Gb,Wv,FO];calc EL (jb h A3)<|h s a AW
def P4(W:GQ):Nat:=W.countP (·.isSome)
def qa:∀{W:GQ} {i:Nat} {w:-Nat},i<J W->P4 (W.set i<|U w)=if(W.getD i Ai).isSome=Y then P4 W else P4 W+1
 |[],_,_=>λh=>ar h<|I2 _|a::W,0,w=>λZ=>by
  show Pp _ (U w::W)=if a.isSome=Y then Pp _ (a::W) else Pp _ (a::W)+1;cases a with
  |none=>rw[AjZ,ai H3,kF rfl,AjS H3]|some v=>rw[AjY,ao rfl,kF rfl,kF rfl]
 |a::W,i+1,w=>λh=>by
  have b:=qa (W:=W) (i:=i) (w:=w)<|MU h;unfold P4 at b;show Pp _ (a::W.set i (U w))=if(W.getD i Ai).isSome=Y then Pp _ (a::W) else Pp _ (a::W)+1;rw[WD,WD,b]
  split
  ·rfl
  ·calc Hb _ _ _
def jc{f:α->Nat}{v:α}:∀{l:-α} {i:Nat},i<J l->f v<f (l.getD i d)->((l.set i v).map f).sum<(l.map f).sum
 |[],_=>λh Z=>ar h<|I2 _|a::l,0=>λZ h=>Z1 h _|a::l,i+1=>λb h=>Lq (jc (MU b) h) _
end
def P5(g:AK)(W:GQ):Prop:=He
 (J W=J g.Aq)
 (∀s,s<g.Ad->s≠1->W.getD s Ai=U [s])
 (∀s w,W.getD s Ai=U w->Ce g.aa g.Ad [s] w)
 (∀s w,W.getD s Ai=U w->J w<=3^P4 W)
def AaB(N:Nat):↥↑Nat->Nat
 |none=>3^N+1|some w=>(J w)
def AK.HV(g:AK):Prop:=Mo
 (g.TY)
 (J g.Aq<=11)
 (∀r∈g.aa,J r.r<=3)
 (J g.Aq*g.Ad<64)
 (g.Ad<=5)
def Adx(Ah:-Nat)(W:GQ)(ay:-Nat):Ao Xp:=(Ah,W,ay,0,())
def Ady(Ah:-Nat)(W:GQ)(ay:-Nat):Ao Xq:=(Ah,W,ay,0,())
section
variable{w:Bk}{k:Nat}{g:AK}{W:GQ}{Bm:-Nat}{s:Nat}
def MS(W:GQ)(Bm:-Nat)(B:Nat)(l ay:-Nat):Prop:=Dy
 ((Ga W l).map (ay++·)=Ga W Bm)
 (∀s∈l,s<J W/\Cu s)
 (J ay+B*J l<=1000000)
def MS.no(h:MS W Bm B (s::l) ay)(c:(W.getD s Ai).isNone=Y):Ai=Ga W Bm:=by have e:=h.1;rw[ec,Wi.mp c] at e;calc e
def MS.go(d:∀s w,W.getD s Ai=U w->J w<=B)(h:MS W Bm B (s::l) ay)(c:(W.getD s Ai).isNone=Ab):∃a,W.getD s Ai=U a/\(AP (J ay)/\AP (J a))/\MS W Bm B l (ay++a):=by
 cases q:W.getD s Ai with
 |none=>rw[q] at c;delta c|some a=>
  have n:=h.3;have b:=d s a q;rw[Gb,Wv] at n;calc {a,rfl,{CD _ _\n,b\(Iv _ _\(Iv _ _\n))},?_,λt e=>h.2 t<|.tail _ e,?_};·rw[<-h.1,ec,q,WG,Option.map_map];exact ah (Lo · _)<|funext λx=>Dr ay a x
  ·rw[BD];calc(by rw[El,FO<|J a];calc Du (Du b _) _)\n
theorem MS.Gg(h:∀s∈Bm,s<J W/\Cu s)(a:B*J Bm<=1000000):MS W Bm B Bm []:={by cases Ga W Bm<;>rfl,h,(EV _).symm∣a}
def MS.af(h:MS W Bm B [] ay):Option.some ay=Ga W Bm:=(ah Option.some<|Ct ay).symm^h.1
def acg(b:∀s w,W.getD s Ai=U w->J w<=B)(h:∀s∈Bm,s<J W/\Cu s)(d:B*J Bm<=1000000)(e:AP (J Bm)):Oq.BZ (w^^k+1) (Bm,W,()) (·=Ga W Bm):=by calc aY aax ?_;show Ab2.wp _ (Adx Bm W []) _;calc dD (t:=O) (xs:=Bm) (Adx Bm W) (MS W Bm B) (λZ q=>{e,q}) rfl (MS.Gg h d) (λs l d e i f=>{i.2 s<|.head _,bH (z:=(W.getD s Ai).isNone) i.no λc=>{i.2 s<|.head _,(i.go b c).imp λa h=>{h.1,h.2.1,f _ h.2.2}}}) λa i=>i.af
def ach(b:∀s w,W.getD s Ai=U w->J w<=B)(h:∀s∈Bm,s<J W/\Cu s)(d:B*J Bm<=1000000)(e:AP (J Bm)):Ot.BZ (w^^k+1) (Bm,W,()) (·=Ga W Bm):=by calc aY aay ?_;show Ab3.wp _ (Ady Bm W []) _;calc dD (t:=O) (xs:=Bm) (Ady Bm W) (MS W Bm B) (λZ q=>{e,q}) rfl (MS.Gg h d) (λs l d e i f=>{i.2 s<|.head _,bH (z:=(W.getD s Ai).isNone) i.no λc=>{i.2 s<|.head _,(i.go b c).imp λa h=>{h.1,h.2.1,f _ h.2.2}}}) λa i=>i.af
def Sk(W:GQ)(r:Bp×Nat):Prop:=∀w,Ga W r.1.r=U w->∃v,W.getD r.1.l Ai=U v/\J v<=(J w)
def T1(g:AK)(W:GQ):Nat:=(W.map<|AaB<|J g.Aq).sum
def qb{r:Bp×Nat}{a:-Nat}(d:g.HV)(F:P5 g W)(b:r.1∈g.aa)(q:Ga W r.1.r=U a)(f:∀v,W.getD r.1.l Ai=U v->J a<J v):P5 g (W.set r.1.l<|U a)/\T1 g (W.set r.1.l<|U a)<T1 g W:=by
 clear g W r a _ d F b q f;have c:r.1.l<J W:=F.1⊂(d.1.1.1.4 _ b).1;have A4:=qa (w:=a) c;have h:P4 (W.set r.1.l<|U a)<=J g.Aq:=tM\Di (Mk ..^F.1);have key:J a<=3^P4 (W.set r.1.l<|U a)/\P4 W<=P4 (W.set r.1.l<|U a)/\AaB (J g.Aq) (U a)<AaB (J g.Aq) (W.getD r.1.l Ai):=by
  cases e:W.getD r.1.l Ai with
  |none=>
   rw[e,AjZ,ai H3] at A4;have Ag:J a<=3^P4 (W.set r.1.l<|U a):=by rw[A4,Nat.pow_succ];exact(jb F.4 q\Hd _ (d.3 _ b))
   calc {Ag,A4⊂Ex _,Iu<|Ag\Z9 ∅ h}
  |some v=>
   rw[e,AjY,ao rfl] at A4;exact {by rw[A4];calc BY (f v e)\F.4 _ v e,Di A4.symm,f v e}
 calc {{Mk ..^F.1,λs Ag i=>?_,λs v A8=>?_,λs v A8=>?_},jc c key.2.2};·rw[cZ c,ai λ(z:r.1.l=s)=>bz (d.1.1.2 _ b)<|z⊂Ag];exact F.2 s Ag i
 ·rw[cZ c] at A8
  split at A8
  ·rename_i e;cases A8;have:=Ce.aO b (p9 F.3 q) .nil;rw[Ct] at this;exact e∣this
  ·exact F.3 s v A8
 ·rw[cZ c] at A8
  split at A8
  ·delta A8;exact key.1
  ·calc F.4 s v A8\Z9 ∅ key.2.1
def P5.ed(a:g.HV)(F:P5 g W)(s:Nat)(w:-Nat)(h:W.getD s Ai=U w):J w<=177147:=
 F.4 s w h\(Z9 ∅ ((F.1▸tM)\a.2)\∅)
def Q1(g:AK)(s:Nat)(r:Bp×Nat)(v:↥↑Nat)(W:GQ)(z:Bool):Ao PZ:=(g,W,s,z,r,v,())
open Classical in
def CM(W:GQ)(r:Bp×Nat):GQ:=match Ga W r.1.r with
 |none=>W|some a=>if∀v,W.getD r.1.l Ai=U v->J a<J v then W.set r.1.l (U a) else W
def aci(e:Ga W r.1.r=U a)(h:∀v,W.getD r.1.l Ai=U v->J a<J v):CM W r=W.set r.1.l (U a):=by unfold CM;rw[e];calc ao h
def acj(h:Sk W r):CM W r=W:=by
 clear W r _ h;unfold CM;cases e:Ga W r.1.r with
 |none=>rfl|some a=>calc ai λz=>(h a e).elim λv q=>bz q.2<|z v q.1
def ack{r:Bp×Nat}{v:↥↑Nat}{z:Bool}(b:g.HV)(F:P5 g W)(f:r.1∈g.aa)(Ag:∀v,Sk W r->P.av (Q1 g s r v W z))(m:∀v,P5 g (CM W r)->T1 g (CM W r)<T1 g W->P.av (Q1 g s r v (CM W r) Y)):OZ.wp (w^^k+1) (Q1 g s r v W z) P:=by
 clear w k g W s P r v z _ b F f Ag m;have o:=b.1.1.1.4 _ f;have i:r.1.l<J W/\Cu r.1.l:={F.1⊂o.1,b.1.1.1.aw o.1}
 have p:177147*J r.1.r<=1000000:=Hd _ (b.3 _ f)\∅;calc(acg (F.ed b) (λs a=>{F.1⊂o.2 s a,b.1.1.1.aw<|o.2 s a}) p<|BY o.3\∅).aq λy e=>?_;cases y with
 |none=>calc Ag _ λw h=>nomatch e.trans h|some a=>
  have go:=λj=>by have:=m<|U a;rw[aci e.symm j] at this;exact this (qb b F f e.symm j).1 (qb b F f e.symm j).2
  calc {i,bH (z:=(W.getD r.1.l Ai).isNone) (λc=>{i,go λv A8=>?_}) λc=>{a,rfl,(jb (F.ed b) e.symm\p),i,?_}};·rw[A8] at c;delta c
  ·cases q:W.getD r.1.l Ai with
   |none=>rw[q] at c;delta c|some v=>calc {v,q,F.ed b _ v q\∅,bV (λd=>{i,go λt a=>BQ (q.symm.trans a)∣d}) λd=>Ag _ λw h=>{v,q,BQ (e.trans h)∣Mn d}}
def P6(g:AK)(s:Nat):↥↑Nat:=if s<g.Ad/\s≠1 then U [s] else Ai
def acm(a:g.CA):P5 g (Dq (J g.Aq)<|P6 g):=by
 clear g _ a;have key:∀s,(Dq (J g.Aq)<|P6 g).getD s Ai=P6 g s:=λs=>by
  by_cases h:s<(J g.Aq);·exact et h
  ·rw[e5 (by rw[c1];calc bM h)];exact(ai λz=>h<|DQ z.1 a.2).symm
 calc {c1,λs a b=>key s^ao {a,b},λs w h=>?_,λs w h=>?_}<;>rw[key] at h<;>unfold P6 at h<;>split at h;·rename_i q;delta h;exact .FG q.1 q.2 .nil
 ·delta h
 ·delta h;exact Nat.pow_pos ∅
 ·delta h
def XD(g:AK)(W:GQ):GQ:=g.aa.zipIdx.foldl CM W
def Sl(g:AK):Nat->GQ
 |0=>Dq (J g.Aq)<|P6 g|n+1=>XD g<|Sl g n
def MT(g:AK)(W:GQ):Prop:=Dy
 (P5 g W)
 ((∃n,W=Sl g n)/\XD g W=W)
 (∀Bm u,Ce g.aa g.Ad Bm u->∃w,Ga W Bm=U w/\J w<=J u)
def qc(b:g.HV):Uk.BZ (w^^k+2) (g,()) (MT g):=by
 clear w k g _ b;calc aY aaz ?_;show Ab4.wp _ (Q1 g 0 (Bz,0) Ai [] Ab) _;refine i0 (m:=0) (n:=J g.Aq) (λi=>Q1 g 0 (Bz,0) Ai (Dq i<|P6 g) Ab) (λZ q=>(dp b.1.1.1.aB).aq λn e=>{e⊂b.1.1.1.aB,e⊂q}) rfl (C9 _) (λi AV Z f a=>e2.aq λy e=>?_) ?_
 ·subst e;rw[ha] at a;have aB:AP (Dq i<|P6 g).length:=by rw[c1];exact BY f\b.1.1.1.aB
  refine bH (z:=decide<|i<g.Ad) (λc=>d9 (λd=>{aB,?_}) λd=>{aB,?_}) λc=>{aB,?_}
  ·rw[show P6 g i=U [i] from ao {aL c,d}] at a;exact a
  ·rw[show P6 g i=Ai from ai λz=>z.2 d] at a;exact a
  ·rw[show P6 g i=Ai from ai λz=>b2 c z.1] at a;exact a
 ·refine fQ (Q1 g 0 (Bz,0) Ai) (λW=>P5 g W/\∃n,W=Sl g n) (λW=>XD g W=W/\∀r∈g.aa.zipIdx,Sk W r) (T1 g) rfl (λZ Z Z q=>q) (λW AV F a=>?_) {acm b.1.1.1,0,rfl} λW F h=>{F.1,{F.2,h.1},λBm u=>acf F.1.2 λr p=>?_}
  ·show Ab5.wp _ (Q1 g 0 (Bz,0) Ai W Ab) _;refine b1 (t:=Cb) (xs:=g.aa.zipIdx) (λq:GQ×Bool=>Q1 g 0 (Bz,0) Ai q.1 q.2) (λa q=>P5 g q.1/\q.1=a.foldl CM W/\((q.2=Ab/\q.1=W/\∀r∈a,Sk W r)\/q.2=Y/\T1 g q.1<T1 g W)) (s0:=(W,Ab)) (λZ q=>{b.1.1.1.bA,q}) rfl {F.1,rfl,.inl {rfl,rfl,az}} (λAl r l q C e I j=>?_) λq I=>?_
   ·have o:(Al++[r]).foldl CM W=CM q.1 r:=by rw[SV,<-I.2.1];rfl
    show OZ.wp _ (Q1 g 0 r Ai q.1 q.2) _;refine ack b I.1 (bX<|e∣BH _ (.head _)) (λv c=>j q {I.1,o⊂(acj c).symm,I.2.2.imp (λ(h:q.2=Ab/\q.1=W/\∀r∈Al,Sk W r)=>{h.1,h.2.1,λx A=>(aN A).elim (h.2.2 x) λe=>by rw[aF e,<-h.2.1];calc c}) id}) λv a b=>j (CM q.1 r,Y) {a,o.symm,.inr {rfl,I.2.2.elim (λ(h:q.2=Ab/\q.1=W/\∀r∈Al,Sk W r)=>h.2.1∣b) λh=>DQ b h.2}}
   ·have Aa:q.1=XD g W:=I.2.1;calc a q.1 q.2 {I.1,F.2.elim λn e=>{n+1,by rw[Aa,e];rfl}} (λ(c:q.2=Y)=>I.2.2.elim (λ(h:q.2=Ab/\q.1=W/\∀r∈g.aa.zipIdx,Sk W r)=>Bool.noConfusion<|h.1.symm^c) λh=>h.2) λc=>I.2.2.elim (λ(h:q.2=Ab/\q.1=W/\∀r∈g.aa.zipIdx,Sk W r)=>?_) λh=>Bool.noConfusion<|c.symm^h.1;have AW:q.1=W:=h.2.1;exact AW⊂{Aa.symm^AW,h.2.2}
  ·obtain⟨i,f,B⟩:=Pn p;subst B;calc h.2 (g.aa[i],i)<|di<|Dv f
def jd{n:Nat}(h:XD g (Sl g n)=Sl g n):∀m,Sl g (n+m)=Sl g n
 |0=>rfl|m+1=>by show XD g (Sl g<|n+m)=_;rw[jd h m,h]
def MT.ee{a:GQ}(Ag:MT g W)(b:MT g a):W=a:=by obtain⟨⟨n,rfl⟩,f1⟩:=Ag.2;obtain⟨⟨m,rfl⟩,f2⟩:=b.2;rw[<-jd f1 m,FO,jd f2 n]
def acn(a:g.HV)(hs:∀s∈Bm,s<J g.Aq)(b:J Bm<=5):Ou.BZ (w^^k+3) (g,Bm,()) λy=>∃W,MT g W/\y=Ga W Bm:=
 aY aaA ((qc a).aq λW F=>(ach (F.1.ed a) (λs h=>{F.1.1⊂hs s h,a.1.1.1.aw<|hs s h}) (Hd _ b\∅)<|b\∅).aq λy e=>{W,F,e})
end
section
variable[DecidableEq α]
def hi(c:α):C1 (B9 AE a b) c=if c=a then U b else C1 AE c:=by
 cases AE with
 |nil=>rfl|cons e AE d=>
  show C1 (if a=e.1 then(e.1,b)::AE else e::B9 AE a b) c=if c=a then U b else if c=e.1 then U e.2 else C1 AE c;by_cases h:a=e.1
  ·rw[ao h,h];show(if c=e.1 then U b else C1 AE c)=_;by_cases q:c=e.1;·rw[ao q,ao q]
   ·rw[ai q,ai q,ai q]
  ·rw[ai h];show(if c=e.1 then U e.2 else C1 (B9 AE a b) c)=_;rw[d];by_cases q:c=e.1;·rw[ao q,ai λz=>h<|z.symm^q,ao q]
   ·rw[ai q,ai q]
def e6{AE:-(α×β)}:(∃b,C1 AE a=U b)↔a∈AE.map (·.1):=by
 cases AE with
 |nil=>calc {λh=>h.elim nofun,c3}|cons e AE c=>
  show(∃b,(if a=e.1 then U e.2 else C1 AE a)=U b)↔a∈e.1::AE.map (·.1);rw[ZR];by_cases h:a=e.1;·rw[ao h];exact {λZ=>.inl h,λZ=>{_,rfl}}
  ·rw[ai h,c];calc {.inr,λz=>z.resolve_left h}
def dr{a:α}{b:β}:(B9 AE a b).map (·.1)=if a∈AE.map (·.1) then AE.map (·.1) else AE.map (·.1)++[a]:=by
 cases AE with
 |nil=>rfl|cons e AE c=>
  show(if a=e.1 then(e.1,b)::AE else e::B9 AE a b).map (·.1)=if a∈e.1::AE.map (·.1) then e.1::AE.map (·.1) else e.1::AE.map (·.1)++[a];by_cases h:a=e.1;·rw[ao h,ao<|h∣Z4];rfl
  ·rw[ai h,HI,c];by_cases q:a∈AE.map (·.1);·rw[ao q,ao<|.tail _ q]
   ·rw[ai q,ai λz=>(aK z).elim h q];rfl
def je{a:α}{b:β}(h:(AE.map (·.1)).Nodup):((B9 AE a b).map (·.1)).Nodup:=by
 rw[dr]
 split
 ·exact h
 ·rename_i q;calc cv {h,cw {CR,HL},λx c y d e=>q<|aF d▸e▸c}
def jf{a:α}:B9 (B9 AE a b) a c=B9 AE a c:=by
 cases AE with
 |nil=>show(if a=a then [(a,c)] else _)=_;rw[ao rfl];rfl|cons e AE d=>
  show B9 (if a=e.1 then(e.1,b)::AE else e::B9 AE a b) a c=if a=e.1 then(e.1,c)::AE else e::B9 AE a c;by_cases h:a=e.1;·rw[ao h,ao h];show(if a=e.1 then(e.1,c)::AE else _)=_;rw[ao h]
  ·rw[ai h,ai h];show(if a=e.1 then _ else e::B9 (B9 AE a b) a c)=_;rw[ai h,d]
def qd{a:α}{b:β}:(B9 AE a b).length<=J AE+1:=by
 have:=ah J<|dr (AE:=AE) (a:=a) (b:=b);rw[Bq] at this;rw[this]
 split
 ·rw[Bq];exact Ex _
 ·rw[BD,Bq];calc CE _
end
abbrev Lh:=-((Nat×Nat)×↑Nat)
def HE(g:AK)(r:Bp)(t:Nat):Prop:=AhO (CY g) (DF g.aa g.Ad) (DV g r.l) r.r t
def I7(l:-Nat):↥↑Nat:=if l=[] then Ai else U l
open Classical in
def Fx(g:AK)(Al:-(Bp×Nat))(key:Nat×Nat):-Nat:=(Al.filter λp=>decide<|p.1.l=key.1/\HE g p.1 key.2).map (·.2)
def FY(F:Nat×Nat->↑Nat)(b:Nat)(F3:Lh):Prop:=Dy
 ((F3.map (·.1)).Nodup)
 (∀key,C1 F3 key=I7 (F key))
 (J F3<=b)
def FY.b7{F:Nat×Nat->↑Nat}(Ag:FY F b t1)(a:FY F c FN):J8 (Ds AZ AZ) (CZ D0) t1 FN=Y:=by
 have Ax:∀{b} {t:Lh},FY F b t->∀x,x∈t.map (·.1)↔∃b,I7 (F x)=U b:=λh x=>e6.symm.trans (by rw[h.2]);have d:=(kH Ag.1 a.1).mpr λx=>(Ax Ag x).trans (Ax a x).symm;have f:=d.length_eq;rw[Bq,Bq] at f;calc bc {aJ f,Rl.mpr λp d=>?_};calc ak (e6.mpr<|Po d) λv e=>?_;have A3:C1 FN p.1=U v:=by rw[a.2,<-Ag.2];exact e
 show(((C1 t1 p.1).bind λx=>(C1 FN p.1).map λy=>_).getD Ab)=Y;rw[e,A3];calc aJ rfl
def Li(key:Nat×Nat)(r:Bp×Nat)(zs:-Nat):-Nat:=if key.1=r.1.l/\key.2∈zs then [r.2] else []
def N1(g:AK)(aj:-Bool)(DB B0:-Nat)(r:Bp×Nat)(m:Nat)(z:Bool)(t:Nat)(F3:Lh):Ao Nj:=(g,aj,DB,B0,F3,r,m,z,t,())
section
variable{w:Bk}{k:Nat}{g:AK}{aj:-Bool}{d B0:-Nat}{r:Bp×Nat}{t:Nat}{z:Bool}{f:Lh}{F:Nat×Nat->↑Nat}
def qe:(I7 l).getD []=l:=by unfold I7;split<;>rename_i h;calc h.symm;rfl
def FY.ct(T:FY F b f){i:Nat}:FY (λb=>F b++if b=a then [i] else []) (b+1) (B9 f a<|F a++[i]):=⟨je T.1,λb=>by
 show _=I7 (F b++if b=a then [i] else []);rw[hi];by_cases e:b=a;·rw[ao e,ao e,e];exact(ai<|Yg _<|Wy _ _).symm
 ·rw[ai e,ai e,Ct];calc T.2 b,qd\GX T.3⟩
def aco{P:FK Nj (AQ (Ds AZ AZ) ⇑O)}(T:FY F b f)(a:AP b)(i:AP (F (r.1.l,t)).length)(h:P.av (N1 g aj d B0 r m z t<|B9 f (r.1.l,t)<|F (r.1.l,t)++[r.2])):OY.wp w (N1 g aj d B0 r m z t f) P:=by
 clear w g aj d B0 r m _ t z f F b P _ T a i h;have e:=T.2 (r.1.l,t);by_cases q:F (r.1.l,t)=[]
 ·rw[q] at h e;refine bH (z:=!(C1 f (r.1.l,t)).isSome) (λZ=>{T.3\a,[],hi _^ao rfl,C9 _,?_}) λc=>?_
  ·show P.av (N1 g aj d B0 r m z t<|B9 (B9 f (r.1.l,t) []) (r.1.l,t) [r.2]);rw[jf];exact h
  ·rw[e] at c;delta c
 ·have A3:=e^ai q;refine bH (z:=!(C1 f (r.1.l,t)).isSome) (λc=>?_) λZ=>{_,A3,i,h}
  rw[A3] at c;delta c
def AaC(g:AK)(aj:-Bool)(d B0:-Nat):Prop:=Em
 (TZ g aj d)
 (Se g (DV g) B0)
def Nm(aj:-Bool)(d B0:-Nat)(r:Bp):Nat:=if(Gp aj d r.r 0).2=Y then(Gp aj d r.r 0).1|||B0.getD r.l 0 else(Gp aj d r.r 0).1
def jg{n:Nat}(h:m<2^n):t∈HZ m n↔m.testBit t=Y:=by unfold HZ;rw[SD,jV];calc {Rk,λq=>{NA λz=>?_,q}};rw[AjE<|Cw h<|Z9 ∅ z] at q;delta q
def qf{n:Nat}:(HZ m n).Nodup:=Z0.filter _
def hj{n:Nat}:(HZ m n).length<=n:=Ro _ _\Di Gy
def qg(H:AaC g aj d B0){r:Bp}:Nm aj d B0 r<2^(J g.Aq):=by
 have h:=i3 (aj:=aj) H.1.3.2 r.r 0<|VC _;unfold Nm
 split
 ·exact kE h<|H.2.2 _
 ·calc h
def acp(H:AaC g aj d B0){r:Bp}:t∈HZ (Nm aj d B0 r) (J g.Aq)↔HE g r t:=by
 clear g aj d B0 t r _ H;have a:(Gp aj d r.r 0).1.testBit t=Y↔HD g r.r t:=by rw[g9,X8];exact {λh=>(h.resolve_left br).bY (λs=>(H.1.2.2 s).mp) λs x=>(H.1.3.3 s x).mp,λh=>.inr<|h.bY (λs=>(H.1.2.2 s).mpr) λs x=>(H.1.3.3 s x).mpr}
 have b:(Gp aj d r.r 0).2=Y↔∀y∈r.r,CY g y:=pE.trans<|forall_congr' λy=>forall_congr' λZ=>H.1.2.2 y;rw[jg<|qg H];unfold Nm;show _↔HD g r.r t\/(∀y∈r.r,CY g y)/\DV g r.l t;by_cases q:(Gp aj d r.r 0).2=Y
 ·rw[ao q,ea,a,H.2.3,and_iff_right<|b.mp q]
 ·rw[ai q,a];calc {.inl,λh=>h.resolve_right λz=>q<|b.mpr z.1}
def qh{zs:-Nat}(a:t∉zs):Li key r zs++(if key=(r.1.l,t) then [r.2] else [])=Li key r (zs++[t]):=by
 clear r t key zs _ a;unfold Li;by_cases e:key=(r.1.l,t);·rw[ao e,e,ai λz=>a z.2,ao {rfl,BH _<|.head _}];rfl
 ·rw[ai e,Ct];by_cases c:key.1=r.1.l/\key.2∈zs;·rw[ao c,ao {c.1,CL _ c.2}]
  ·rw[ai c,ai λh=>(aN h.2).elim (λq=>c {h.1,q}) λz=>e<|LK h.1<|aF z]
def acq{B:Nat}(p:g.HV)(H:AaC g aj d B0)(C:r.1∈g.aa)(T:FY F b f)(u:b+J g.Aq<=B)(D:AP B)(E:∀key,(F key).length<=999999)(h:∀x xs m z,(∀t,t∈xs↔HE g r.1 t)->FY (λa=>F a++Li a r xs) B x->P.av (N1 g aj d B0 r m z 0 x)):OU.wp (w^^k+1) (N1 g aj d B0 r m z 0 f) P:=by
 have o:=p.1.1.1.4 _ C;have G:K8.BZ (w^^k+1) (r.1.r,aj,d,()) (·=Gp aj d r.1.r 0):=pD (λs a=>{H.1.2.1⊂o.2 s a,H.1.3.1⊂o.2 s a,p.1.1.1.aw<|o.2 s a})<|BY o.3\∅;have go:∀z,Ab6.wp (w^^k+1) (N1 g aj d B0 r (Nm aj d B0 r.1) z 0 f) (IQ (BO:=.A) af (w^^k+1) P):=λz=>by
  have I:∀{Al:-Nat} {l},Al++l=HZ (Nm aj d B0 r.1) (J g.Aq)->J Al<=J g.Aq:=λe=>(CD _ _\Di ((BD).symm.trans (ah J e)))\hj;refine b1 (t:=O) (xs:=HZ (Nm aj d B0 r.1)<|J g.Aq) (N1 g aj d B0 r (Nm aj d B0 r.1) z 0) (λa f=>FY (λb=>F b++Li b r a) (b+J a) f) (λQ q=>(pv (qg H) p.1.1.1.aB).aq λy e=>{e⊂(hj\p.1.1.1.aB),e⊂q}) rfl (by
   have:(λa=>F a++Li a r [])=F:=funext λa=>(ah (F a++·)<|ai λz=>CR z.2).trans<|Ct _;rw[this];calc T) (λzs t l f AV e j L=>?_) λf j=>h f _ _ _ (λt=>acp H) {j.1,j.2,j.3\(Du hj _\u)}
  have M:t∉zs:=λq=>by have:=qf (m:=Nm aj d B0 r.1) (n:=J g.Aq);rw[<-e] at this;exact(dI this) t q t (.head _) rfl
  show OY.wp _ (N1 g aj d B0 r (Nm aj d B0 r.1) z t f) _;refine aco j ((Du (I e) _\u)\D) ?_<|L _ ?_
  ·show AP (F _++Li _ r zs).length;rw[BD];calc EL (E _) (?_:_<=1)\CE _;unfold Li;split;·exact CE _
   ·exact C9 _
  ·have:=j.ct (a:=(r.1.l,t)) (i:=r.2);rw[El,<-Pl,<-BD] at this;exact {this.1,λa=>(this.2 a).trans<|ah I7 (by show F a++_++_=F a++_;rw[Dr,qh M]),this.3}
 calc G.aq λy e=>?_;subst e;refine bH (z:=(Gp aj d r.1.r 0).2) (λc=>{({H.2.1⊂o.1,p.1.1.1.aw o.1}),?_}) λc=>?_
 ·have:=go (Gp aj d r.1.r 0).2;unfold Nm at this;rw[ao c] at this;exact this
 ·have:=go (Gp aj d r.1.r 0).2;unfold Nm at this;rw[ai<|QA.mp c] at this;calc this
def fW:[a].filter p=if p a=Y then [a] else []:=by rw[List.filter_cons,List.filter_nil]
open Classical in
def qi(h:∀t,t∈xs↔HE g r.1 t)(key:Nat×Nat):Fx g Al key++Li key r xs=Fx g (Al++[r]) key:=by
 unfold Fx Li;rw[LZ,Ee,fW];calc ah _ ?_;by_cases c:r.1.l=key.1/\HE g r.1 key.2;·rw[ao {c.1.symm,(h _).mpr c.2},ao<|aJ c];rfl
 ·rw[ai λz=>c {z.1.symm,(h _).mp z.2},ai λz=>c<|aL z];rfl
def hk:(Fx g Al key).length<=J Al:=cR
abbrev P7(g:AK)(f:Lh):Prop:=FY (Fx g g.aa.zipIdx) 12000 f
def hl(a:g.HV):TR.BZ (w^^k+5) (g,()) (P7 g):=by
 clear w k g _ a;calc aY aaB ((e3 a.1.1.1).aq λaj j=>(i4 a.1.1.1).aq λd o=>(pM a.1.1).aq λB0 p=>by
   have c:J g.aa.zipIdx<=999:=by rw[Fb];exact Mm a.1.1.1.3
   have up:∀{n},n<=999->J g.Aq*n<=12000:=λh=>ti a.2 h\∅;show Ab7.wp _ (N1 g aj d B0 (Bz,0) 0 Ab 0 []) _;refine b1 (t:=Cb) (xs:=g.aa.zipIdx) (N1 g aj d B0 (Bz,0) 0 Ab 0) (λa f=>FY (Fx g a) (J g.Aq*J a) f) (λZ q=>{a.1.1.1.bA,q}) rfl {HL,λa=>rfl,C9 _} (λAl r l f AV e T s=>?_) λf T=>{T.1,T.2,T.3\up c}
   have i:=(Du (GX<|C9<|J l) _\Di ((BD).symm.trans (ah J e)))\c;show OU.wp _ (N1 g aj d B0 r 0 Ab 0 f) _;calc acq a ({{a.1.1,j,o},p}) (bX<|e∣BH _ (.head _)) T (CE _) (up i\∅) (λa=>hk\(SK i\∅)) λu a m z x b=>s u {b.1,λa=>b.2 a^ah I7 (qi x a),by rw[BD];calc b.3})
def DF.lt(h:DF R Ad s t):t<Ad:=by
 cases h with
 |bS h=>calc h|aO _ _ _ _ a=>calc a
def HD.lt(h:HD g Ah t):t<g.Ad:=by
 cases h with
 |Sd h=>calc h.lt|aX _ _ a=>calc a
def DV.lt(h:DV g s t):t<g.Ad:=by
 cases h with
 |aU _ _ _ h=>calc HD.lt h|up _ _ _ _ _ a=>calc a
def HE.lt{r:Bp}(h:HE g r t):t<g.Ad:=h.elim HD.lt λh=>DV.lt h.2
open Classical in
def qj:i∈Fx g g.aa.zipIdx key↔i<J g.aa/\(g.aa.getD i Bz).l=key.1/\HE g (g.aa.getD i Bz) key.2:=by
 clear g key i _;unfold Fx;rw[ZS];constructor
 ·rintro ⟨⟨r,j⟩,h,rfl⟩
  rw[SD] at h;have Ag:=d0 h.1;have e:g.aa.getD j Bz=r:=by rw[CO,Ag];rfl
  exact {(bK Ag),by rw[e];calc aL h.2}
 ·rintro ⟨Ag,a⟩
  calc {(g.aa.getD i Bz,i),c4 {di (by rw[CO,Dv Ag];rfl),aJ a},rfl}
def acr:(∃b,I7 l=U b)↔l≠[]:=by
 unfold I7;split;·rename_i h;exact {λz=>z.elim nofun,λz=>ar h z}
 ·rename_i h;calc {λZ=>h,λZ=>{_,rfl}}
def FY.jh(T:FY F b f)(key:Nat×Nat):key∈f.map (·.1)↔F key≠[]:=e6.symm.trans (by rw[T.2];calc acr)
def P7.ef(l:g.HV)(T:P7 g f):J f<64:=by
 clear g f _ l T;have h:∀a∈f.map (·.1),a.1<J g.Aq/\a.2<g.Ad:=λa b=>by calc ak (List.exists_mem_of_ne_nil _<|(T.jh a).mp b) λi m=>cT (qj.mp m) λAg j o=>?_;exact {j∣(l.1.1.1.4 _<|bJ Ag).1,o.lt}
 have ab:((f.map (·.1)).map λa=>a.2+g.Ad*a.1).Nodup:=List.pairwise_map.mpr (T.1.imp_of_mem λ{a c} b d p e=>p (by
  have Ag:=ah (·%g.Ad) e;have j:=ah (·/g.Ad) e;simp only [Nat.add_mul_mod_self_left,AjU (h a b).2,AjU (h c d).2,Nat.add_mul_div_left _ _<|Nat.zero_lt_of_lt (h a b).2,Vs (h a b).2,Vs (h c d).2,EV] at Ag j;calc LK j Ag))
 have le:=eu (N:=J g.Aq*g.Ad) ab λs hs=>by calc ae (b0 hs) λa b u=>?_;subst u;have q:=h a b;calc Cw (Z1 q.2 _) ?_;rw[FO,<-Wv,Nat.mul_comm];exact Lr _ q.1
 rw[Bq,Bq] at le;calc DG le l.4
def P8(F:Nat×Nat->↑Nat)(y:-(Nat×Nat×↑Nat)):Prop:=Kb
 (∃ag:-(Nat×Nat),ag.Nodup/\ag.Pairwise (λa b=>Gj [a.1,a.2] [b.1,b.2]=Y)/\(∀key,key∈ag↔F key≠[])/\y=(ag.filter λk=>decide<|1<(F k).length).map λk=>(k.1,k.2,F k))
def acs:Ic λa b:Nat×Nat=>Gj [a.1,a.2] [b.1,b.2]:=fD.NR (λa:Nat×Nat=>[a.1,a.2]) λa b h=>LK (Ge h).1 (Ge (Ge h).2).1
def P8.ee(Ag:P8 F y)(b:P8 F c):y=c:=by clear F y c _ Ag b;calc a6 Ag.1 λDT e s1 Ey a=>?_;subst a;calc a6 b.1 λDW h s2 Ep a=>?_;subst a;rw[eJ acs s1 s2<|(kH e h).mpr λx=>(Ey x).trans (Ep x).symm]
def hn(h:P8 F y):y=[]↔∀key,(F key).length<=1:=by
 clear F y _ h;calc a6 h.1 λag b s1 Ey a=>?_;subst a;rw[AjV,Pq];calc {λh key=>?_,λh a Z c=>ar (aL c)<|bz<|h a};by_cases q:F key=[]
 ·rw[q];exact C9 _
 ·calc Mn λz=>h key ((Ey key).mpr q)<|aJ z
def acu(T:FY F b f)(a:J f<64)(c:∀key,AP (F key).length):TS.BZ (w^^k+1) (f,()) (P8 F):=by
 clear w k f F b _ T a c;calc aY aaC ⟨{T.1,a},λag S=>by
   have Ax:J ag<64:=by rw[S.1.length_eq,Bq];exact a
   have h:AP (J ag):=BY Ax\∅;have mem:=λa=>S.1.mem_iff.trans<|T.jh a;calc {h,h,λ(a:Nat×Nat)=>decide<|1<(F a).length,λa=>(a.1,a.2,F a),λ(key:Nat×Nat) i=>?_,{ag,S.1.nodup_iff.mpr T.1,S.2,mem,rfl}};have e:=T.2 key^ai ((mem key).mp i);calc {{_,e,c key,rfl},λZ=>{_,e,rfl}}⟩
def P7.ew(a:g.HV)(T:P7 g f):TS.BZ (w^^k+1) (f,()) (P8<|Fx g g.aa.zipIdx):=acu T (T.ef a) λb=>hk\a.1.1.1.bA
def qk(a:g.HV):Ul.BZ (w^^k+6) (g,()) (P8<|Fx g g.aa.zipIdx):=aY aaD<|(hl a).aq λf T=>P7.ew a T
def ql(a:g.HV):Zc.BZ (w^^k+7) (g,()) λb=>∃y,P8 (Fx g g.aa.zipIdx) y/\b=decide (y=[]):=aY aaE<|(qk a).aq λy h=>{y,h,cX Wg}
end
def ey[DecidableEq α]:∀{l m:-α},l.Nodup->(∀x∈l,x∈m)->J l<=(J m)
 |[],_,_=>λZ=>C9 _|a::l,m,d=>λh=>by have b:=h a<|.head _;have A4:=du d;have:=ey A4.2 λx c=>(List.mem_erase_of_ne λ(e:x=a)=>A4.1<|e∣c).mpr<|h x<|.tail _ c;rw[List.length_erase_of_mem b] at this;calc AjT<|DG this<|Nat.pred_lt<|Ha<|AjK b
abbrev P9:=-(-Nat×Bool)
abbrev ag(D:P9):↑↑Nat:=D.map (·.1)
def Qa(w:-Nat):Prop:=J w<=2/\∀x∈w,x<5
def Ah9:↑↑Nat:=[]::((Cg 5).map λa=>[a])++(Cg 5).flatMap λa=>(Cg 5).map λb=>[a,b]
def acv:∀{w:-Nat},Qa w->w∈Ah9
 |[]=>λZ=>.head _|[a]=>λh=>CL _<|.tail _<|Po (f:=λa=>[a])<|cV<|h.2 a<|.head _|[a,b]=>λh=>BH _<|Yc.mpr {a,cV<|h.2 a<|.head _,Po<|cV<|h.2 b<|.tail _<|.head _}|_::_::_::w=>λh=>ar h.1<|X5.mpr<|Iv 3<|J w
def G4(S:-Nat->Prop)(D:P9):Prop:=Dy
 ((ag D).Nodup)
 (∀w,w∈(ag D)↔S w)
 (∀w,S w->Qa w)
section
variable{w:Bk}{k:Nat}{g:AK}{v:-Nat}
def G4.ef(T:G4 S D):J D<=31:=by have:=ey T.1 λx a=>acv<|T.3 x<|(T.2 x).mp a;rw[Bq] at this;calc this
def G4.aB(T:G4 S D):AP (J D):=T.ef\∅
def G4.ax(T:G4 S D)(h:∀w,S w↔a w):G4 a D:={T.1,λw=>(T.2 w).trans<|h w,λw q=>T.3 w<|(h w).mpr q}
def qm:v∈(B9 D a b).map (·.1)↔v∈(ag D)\/v=a:=by
 rw[dr]
 split
 ·rename_i h;exact {.inl,λz=>z.elim id λe=>e⊂h}
 ·rw[Mj,Io]
def G4.ct(T:G4 S D)(c:Qa a):G4 (λw=>S w\/w=a) (B9 D a b):={je T.1,λw=>qm.trans<|or_congr_left<|T.2 w,λw h=>h.elim (T.3 w) λe=>e⊂c}
def LM:-P9->↑Nat->Prop
 |[],w=>w=[]|p::AN,w=>∃a∈(ag p),∃b,LM AN b/\w=a++b
def LM.bN:∀{AN:-P9} {w:-Nat},LM (AN++[p]) w↔∃a,LM AN a/\∃b∈(ag p),w=a++b
 |[],w=>{λ⟨a,h,b,f,e⟩=>{[],rfl,a,h,by rw[e,show b=[] from f,Ct];rfl},λ⟨a,h,b,f,e⟩=>{b,f,[],rfl,by rw[e,show a=[] from h,Ct];rfl}}
 |q::AN,w=>⟨λ⟨a,h,b,f,e⟩=>by obtain⟨c,A4,d,i,rfl⟩:=LM.bN.mp f;calc {a++c,{a,h,c,A4,rfl},d,i,e^(Dr ..).symm},λ⟨a,⟨x,j,y,l,e⟩,b,f,A3⟩=>{x,j,y++b,LM.bN.mpr {y,l,b,f,rfl},by rw[A3,e,Dr]}⟩
def Q2(AN:-P9)(AF p a:P9)(b v:-Nat):Ao R9:=(AN,2,AF,p,a,b,v,())
def UX(b:-Nat)(Ae:↑↑Nat)(w:-Nat):Prop:=∃v∈Ae,J b+J v<=2/\w=b++v
def acw(T:G4 S e)(a:Qa b)(A8:Qa v)(h:∀d,G4 (λw=>S w\/J b+J v<=2/\w=b++v) d->P.av (Q2 AN AF p d b v)):OJ.wp w (Q2 AN AF p e b v) P:=by have r:∀{x:-Nat},Qa x->AP (J x):=λh=>h.1\∅;calc {r a,r A8,bV (λ(c:J b+J v<=2)=>{{r a,r A8},T.aB,h _<|(T.ct {by rw[BD];calc c,λx f=>(aN f).elim (a.2 x)<|A8.2 x}).ax λw=>or_congr_right (and_iff_right c).symm}) λc=>h _<|T.ax λw=>{.inl,λq=>q.resolve_right λz=>c z.1}}
def acx(o:∀p∈AN,∃S,G4 S p)(c:AP (J AN)):Zd.BZ (w^^k+1) (AN,2,()) (G4 λw=>LM AN w/\J w<=2):=by
 have E2:∀{p:P9},(∃S,G4 S p)->∀v∈(ag p),Qa v:=λh v a=>h.elim λS T=>T.3 v<|(T.2 v).mp a;have aB:∀{p:P9},(∃S,G4 S p)->AP (J p):=λh=>h.elim λS T=>T.aB;calc aY aaG ?_;show Acg.wp _ (Q2 AN [([],Y)] [] [] [] []) _;calc b1 (t:=AQ (C3 AZ) Aj) (xs:=AN) (λa=>Q2 AN a [] [] [] []) (λa b=>G4 (λw=>LM a w/\J w<=2) b) (s0:=[([],Y)]) (λZ q=>{c,q}) rfl {cw {CR,HL},λw=>Io.trans {λe=>{e,e⊂C9 _},λh=>h.1},λw h=>(show w=[] from h.1)⊂{C9 _,az}} (λAl p l AF AV e T r=>?_) λa T=>T;have m:=o p<|e∣BH _ (.head _);show Acf.wp _ (Q2 AN AF p [] [] []) _;refine b1 (t:=Ar O) (xs:=(ag AF)) (λa=>Q2 AN AF p a [] []) (λc a=>G4 (λw=>∃b∈c,UX b (ag p) w) a) (s0:=[]) (λZ q=>{T.aB,q}) rfl {HL,λw=>{c3,λh=>h.elim λZ h=>ar h.1 CR},λw h=>h.elim λZ h=>ar h.1 CR} (λbs b Dl a B s i u=>?_) λa i=>r a<|i.ax λw=>?_
 ·have d:Qa b:=T.3 b<|(T.2 b).mp<|s∣BH _ (.head _);show Ace.wp _ (Q2 AN AF p a b []) _;calc b1 (t:=Ar O) (xs:=(ag p)) (λa=>Q2 AN AF p a b []) (λc a=>G4 (λw=>(∃b∈bs,UX b (ag p) w)\/UX b c w) a) (s0:=a) (λZ q=>{aB m,q}) rfl (i.ax λw=>{.inl,λh=>h.resolve_right λz=>z.elim λZ z=>ar z.1 CR}) (λAe v C a D A3 j x=>?_) λa j=>u a<|j.ax λw=>dq.symm;show OJ.wp _ (Q2 AN AF p a b v) _;exact acw j d (E2 m v<|A3∣BH _ (.head _)) λy A=>x y (A.ax λw=>by unfold UX;rw[dq,or_assoc])
 ·rw[LM.bN];calc⟨λ⟨b,d,v,A8,c,f⟩=>{{b,((T.2 b).mp d).1,v,A8,f},f▸rwr BD c},λ⟨⟨b,d,v,A8,f⟩,c⟩=>by rw[f,BD] at c;calc {b,(T.2 b).mpr {d,CD _ _\c},v,A8,c,f}⟩
abbrev T2:=-P9
def Sm(W:T2)(r:-Nat):T2:=r.map (W.getD · [])
def Q3(g:AK)(W:T2):Prop:=He
 (J W=J g.Aq)
 (∀s,∃S,G4 S<|W.getD s [])
 (∀s,s<g.Ad->s≠1->[s]∈ag (W.getD s []))
 (∀s w,w∈ag (W.getD s [])->Ce g.aa g.Ad [s] w)
def T3(W:T2):Nat:=(W.map λD=>31-J D).sum
def AaD(W:T2)(r:Bp×Nat):Prop:=∀w,LM (Sm W r.1.r) w->J w<=2->w∈ag (W.getD r.1.l [])
def qn(c:∀s w,w∈ag (W.getD s [])->Ce g.aa g.Ad [s] w):∀{Bm w:-Nat},LM (Sm W Bm) w->Ce g.aa g.Ad Bm w
 |[],w,h=>by rw[show w=[] from h];calc .nil|s::Bm,w,⟨a,d,b,f,e⟩=>e⊂(c s a d).cx (qn c f)
def acy(F:Q3 g W)(h:∀r∈g.aa.zipIdx,AaD W r){Bm:-Nat}(c:Ce g.aa g.Ad Bm u):J u<=2->LM (Sm W Bm) u:=by
 cases c with
 |nil=>calcλZ=>rfl|@FG s Bm v d e _ f=>calcλa=>{[s],F.3 s d e,v,f<|SK a,rfl}
 |@aO r Bm u v j _ _ l m=>
  intro a;rw[BD] at a;have b:=CD _ _\a;obtain⟨i,o,rfl⟩:=Pn j;calc {u,h (g.aa[i],i) (di<|Dv o) u (l b) b,v,m<|Iv _ _\a,rfl}
def Nn(g:AK)(s:Nat)(b:Bool)(r:Bp×Nat)(x:-Nat)(W:T2)(z:Bool):Ao MQ:=(g,2,W,s,b,z,r,x,())
def qo:(C1 D x).isSome=Y↔x∈ag D:=Vc.trans e6
def acz(p:g.HV)(F:Q3 g W)(c:l<J W)(i:g.Ad<=l)(j:Qa x)(m:Ce g.aa g.Ad [l] x)(f:x∉ag (W.getD l [])):Q3 g (W.set l<|B9 (W.getD l []) x Y)/\T3 (W.set l<|B9 (W.getD l []) x Y)<T3 W:=by
 clear g W l x _ p F c i j m f;calc ak (F.2 l) λS T=>?_;have o:=T.ct (b:=Y) j;refine {{Mk ..^F.1,λs=>?_,λs Ag q=>?_,λs w h=>?_},jc (d:=[]) c<|Rg ?_ ?_}
 ·rw[cZ c];split;·exact {_,o}
  ·exact F.2 s
 ·rw[cZ c,ai λ(z:l=s)=>bz i<|z⊂Ag];exact F.3 s Ag q
 ·rw[cZ c] at h
  split at h
  ·rename_i e;subst e;exact(qm.mp h).elim (F.4 l w) λe=>e⊂m
  ·exact F.4 s w h
 ·have:=o.ef;have e:=ah J<|dr (AE:=W.getD l []) (a:=x) (b:=Y);rw[ai f,Bq,BD,Bq] at e;exact Cw (EM _)<|Di e.symm\this
 ·have e:=ah J<|dr (AE:=W.getD l []) (a:=x) (b:=Y);rw[ai f,Bq,BD,Bq] at e;rw[e];calc EM _
def acA(a:g.HV)(F:Q3 g W)(f:r.1∈g.aa)(h:Qa x)(i:Ce g.aa g.Ad [r.1.l] x)(Ag:x∈ag (W.getD r.1.l [])->P.av (Nn g s b r x W z))(j:∀d,Q3 g d->T3 d<T3 W->P.av (Nn g s b r x d Y)):OO.wp w (Nn g s b r x W z) P:=by
 have o:=a.1.1.1.4 _ f;have e:r.1.l<J W/\Cu r.1.l:={F.1⊂o.1,a.1.1.1.aw o.1}
 refine ak (F.2 r.1.l) λS T=>{e,bZ (z:=(C1 (W.getD r.1.l []) x).isSome) (λc=>{e,T.aB,?_}) λc=>Ag<|qo.mp c}
 have Bu:=acz a F e.1 (a.1.1.2 _ f) h i λq=>Bool.noConfusion<|c.symm^qo.mpr q;calc j _ Bu.1 Bu.2
def N2(g:AK)(s:Nat):P9:=if s<g.Ad/\s≠1 then [([s],Y)] else []
def acB(a:g.HV):Q3 g (Dq (J g.Aq)<|N2 g):=by
 clear g _ a;have key:∀s,(Dq (J g.Aq)<|N2 g).getD s []=N2 g s:=λs=>by
  by_cases h:s<(J g.Aq);·exact et h
  ·rw[e5 (by rw[c1];calc bM h)];exact(ai λz=>h<|DQ z.1 a.1.1.1.2).symm
 have Cf:∀{s},s<g.Ad/\s≠1->N2 g s=[([s],Y)]:=λh=>ao h;refine {c1,λs=>?_,λs Ag b=>?_,λs w h=>?_}
 ·rw[key];by_cases h:s<g.Ad/\s≠1;·rw[Cf h];exact {(·=[s]),cw {CR,HL},λw=>Io,λw e=>e⊂{Ex 1,λx c=>aF c▸Cw h.1 a.5}}
  ·rw[show N2 g s=[] from ai h];exact {λZ=>False,HL,λw=>{c3,False.elim},nofun}
 ·rw[key,Cf {Ag,b}];exact .head _
 ·rw[key] at h;by_cases q:s<g.Ad/\s≠1;·rw[Cf q] at h;exact aF h⊂.FG q.1 q.2 .nil
  ·rw[show N2 g s=[] from ai q] at h;cases h
def Aia(g:AK)(W:T2):Prop:=Em
 (J W=J g.Aq)
 (∀s,G4 (λw=>Ce g.aa g.Ad [s] w/\J w<=2)<|W.getD s [])
def acC{w:-Nat}:LM (Sm W [s]) w↔w∈ag (W.getD s []):={λ⟨a,c,b,d,e⟩=>by rw[e,show b=[] from d,Ct];calc c,λh=>{w,h,[],rfl,(Ct w).symm}}
def acD{a:GH V}(b:∀Q,Q z->a.wp w Af Q)(Ag:z=Y->r.wp w Af Q)(c:z=Ab->Q Ab):(CG .And a r).wp w Af Q:=b _<|bO Ag c
def acE(a:g.HV):Ov.BZ (w^^k+2) (g,2,()) (Aia g):=by
 clear w k g _ a;calc aY aaH ?_;show Ach.wp _ (Nn g 0 Ab (Bz,0) [] [] Ab) _;refine i0 (m:=0) (n:=J g.Aq) (λi=>Nn g 0 Ab (Bz,0) [] (Dq i<|N2 g) Ab) (λZ q=>(dp a.1.1.1.aB).aq λn e=>{e⊂a.1.1.1.aB,e⊂q}) rfl (C9 _) (λi AV Z E b=>e2.aq λy e=>?_) ?_
 ·subst e;rw[ha] at b;have aB:AP (Dq i<|N2 g).length:=by rw[c1];exact BY E\a.1.1.1.aB
  have go:∀{D},N2 g i=D->AP (Dq i<|N2 g).length/\AV (Nn g 0 Ab (Bz,0) [] (Dq i (N2 g)++[D]) Ab):=λe=>{aB,e∣b}
  exact bO (z:=decide<|i<g.Ad) (λc=>acD (z:=!decide (i=1)) (λZ q=>q) (λd=>go<|ao {aL c,b2<|EJ _∣d}) λd=>go<|ai λz=>z.2<|aL<|WI _∣d) λc=>go<|ai λz=>b2 c z.1
 ·refine fQ (Nn g 0 Ab (Bz,0) []) (Q3 g) (λW=>∀r∈g.aa.zipIdx,AaD W r) T3 rfl (λZ Z Z q=>q) (λW AV F b=>?_) (acB a) λW F h=>{F.1,λs=>(F.2 s).elim λS T=>T.ax λw=>(T.2 w).symm.trans {λh=>{F.4 s w h,(T.3 w<|(T.2 w).mp h).1},λq=>acC.mp<|acy F h q.1 q.2}}
  show Acj.wp _ (Nn g 0 Ab (Bz,0) [] W Ab) _;calc g7 (Nn g 0 Ab (Bz,0) []) (Q3 g) T3 AaD rfl (λZ q=>{a.1.1.1.bA,q}) (λW z r AV u F Ag f=>?_) F λs z F a f=>b s z F a λe=>(f e).1⊂(f e).2;have o:=a.1.1.1.4 _<|bX u;have bA:AP (J r.1.r):=BY o.3\∅;have A:∀{w},LM (Sm W r.1.r) w->Ce g.aa g.Ad [r.1.l] w:=λh=>by have:=Ce.aO (bX u) (qn F.4 h) .nil;rw[Ct] at this;exact this
  have G:Zd.BZ (w^^k+1) (Sm W r.1.r,2,()) (G4 λw=>LM (Sm W r.1.r) w/\J w<=2):=acx (λp H=>by obtain⟨s,_,I⟩:=b0 H;subst I;calc F.2 s) (by unfold Sm;rw[Bq];calc bA);show Aci.wp _ (Nn g 0 Ab r [] W z) _;calc {bA,bA,λZ=>Y,λ(s:Nat)=>W.getD s [],λs b=>{rfl,λZ=>{{F.1⊂o.2 s b,a.1.1.1.aw<|o.2 s b},rfl}},?_};show Zd.BZ _ ((r.1.r.filter λZ=>Y).map λs=>W.getD s [],2,()) _;rw[b8];refine G.aq λD T=>{T.aB,i1 (t:=Ar O) (λW z=>Nn g 0 Ab r [] W z) (Q3 g) T3 (λW x=>x∈ag (W.getD r.1.l [])) (s0:=W) (UL:=z) (xs:=ag D) rfl (λB C x P j FA L M=>?_) F λB C FA h=>?_}
  ·have j:=(T.2 x).mp j;show OO.wp _ (Nn g 0 Ab r x B C) _;exact acA a FA (bX u) (T.3 x j) (A j.1) L M
  ·rcases h with⟨⟨AW,A3⟩,h⟩|⟨AW,lt⟩
   ·subst AW A3;exact Ag λw A N=>h w<|(T.2 w).mpr {A,N}
   ·subst AW;calc f B FA lt
def Zz(S:-Nat->Prop)(ws:↑↑Nat):Prop:=Dy
 (ws.Nodup)
 (ws.Pairwise λa b=>Gj a b=Y)
 (∀w,w∈ws↔S w)
def Zz.ee{a:↑↑Nat}(Ag:Zz S a)(c:Zz S b):a=b:=eJ fD Ag.2 c.2<|(kH Ag.1 c.1).mpr λw=>(Ag.3 w).trans (c.3 w).symm
abbrev N3(g:AK)(w:-Nat):Prop:=Ce g.aa g.Ad [g.st] w/\J w<=2
def qp(a:g.HV)(hs:g.st<J g.Aq):Xl.BZ (w^^k+3) (g,2,()) (Zz<|N3 g):=by clear w k g _ a hs;calc aY aaI<|(acE a).aq λW F=>{{F.1⊂hs,a.1.1.1.aw hs},{(F.2 g.st).1,DG (F.2 g.st).ef ∅},λa S=>{S.1.nodup_iff.mpr (F.2 g.st).1,S.2,λw=>S.1.mem_iff.trans<|(F.2 g.st).2 w}}
end
def MW(F:(α->Prop)->α->Prop):Nat->α->Prop
 |0=>λZ=>False|n+1=>F<|MW F n
abbrev ZA(F:(α->Prop)->α->Prop):Prop:=∀S T:α->Prop,(∀y,S y->T y)->∀y,F S y->F T y
section
variable{α:Type}{F:(α->Prop)->α->Prop}
def qq(M:ZA F):∀(n:Nat) (y:α),MW F n y->MW F (n+1) y
 |0=>λZ h=>h.elim|n+1=>λy h=>M _ _ (qq M n) y h
def acF(M:ZA F){n:Nat}(h:MW F m y)(l:m<=n):MW F n y:=by
 cases l with
 |refl=>calc h|step _ a=>calc qq M _ _ a
def acG{p:Nat->Prop}:∀n,p n->∃m,p m/\∀i,i<m->¬p i:=λn=>by
 cases n using Nat.strongRecOn with
 |_ n a=>calcλh=>X9 (λq:∃m,m<n/\p m=>q.elim λm q=>a m q.1 q.2) λq=>{n,h,λi b z=>q {i,b,z}}
def qr(M:ZA F):∃Co:α->Nat,∀y,(∃n,MW F n y)->F (λz=>(∃n,MW F n z)/\Co z<Co y) y:=by
 clear α _ F _ M;have ew:=λy=>X9 (λh:∃n,MW F n y=>h.elim λn h=>(acG n h).imp λm h Z=>h) λh=>{0,λz=>ar z h}
 refine ak (AjJ ew) λCo H=>{Co,λy h=>?_}
 have q:=H y h;cases e:Co y with
 |zero=>rw[e] at q;calc q.1.elim|succ n=>
  rw[e] at q;calc M _ _ (λz a=>{{n,a},Iu<|Mn λl=>(H z {n,a}).2 n l a}) y q.1
end
def qs{p:Nat->Nat->Prop}(up:∀m n y,p m y->m<=n->p n y):∀{w:-Nat},(∀s∈w,∃n,p n s)->∃n,∀s∈w,p n s
 |[]=>λZ=>{0,az}
 |a::w=>λh=>by calc ak (h a<|.head _) λn b=>ak (qs up λs a=>h s<|.tail _ a) λm c=>?_;calc {n+m,λs a=>(aK a).elim (λe=>e▸up _ _ _ b (CD _ _)) λa=>up _ _ _ (c s a)<|Iv _ _}
def UK(R:-Bp)(K:Nat->Prop)(S:Nat->Prop)(y:Nat):Prop:=K y\/∃r∈R,r.l=y/\∀s∈r.r,S s
section
variable{K:Nat->Prop}
def qt:ZA (UK R K):=λS T h y=>Or.imp id λa=>aE a λr a b c=>{r,a,b,λs a=>h s<|c s a}
def qu{y:Nat}:Ei R K y↔∃n,MW (UK R K) n y:=by
 have key:∀n y,MW (UK R K) n y->Ei R K y:=λn=>by
  cases n with
  |zero=>calcλy h=>h.elim|succ n a=>exactλy h=>h.elim .ba λb=>aE b λr b c d=>c▸.aO b λs b=>a s<|d s b
 calc {λh=>?_,λh=>h.elim λn=>key n y};cases h with
 |ba h=>calc {1,.inl h}|aO e _ a=>calc(qs (p:=MW<|UK R K) (λm n y h l=>acF qt h l) a).elim λn f=>{n+1,.inr {_,e,rfl,f}}
def qv(R:-Bp)(K:Nat->Prop):∃Co:Nat->Nat,∀y,Ei R K y->K y\/∃r∈R,r.l=y/\∀z∈r.r,Ei R K z/\Co z<Co y:=
 (qr<|qt).imp λe h y q=>(h y<|qu.mp q).imp id λc=>aE c λr c d a=>{r,c,d,λz b=>{qu.mpr (a z b).1,(a z b).2}}
end
section
variable{t:Az}{α:Type}{b:Au V Bd BO}
def fX{σ:Type}(f:α->t.AR)(e:σ->Ao V)(I:-α->σ->Prop){Af:Ao V}{P:FK V Bd}{s0:σ}{xs:-α}(c:∀Q,Q (xs.map f)->q.wp w Af Q)(d:Af=e s0)(h:I [] s0)
  (j:∀Al x l s (AV:Ao V->Prop),Al++x::l=xs->I Al s->(∀s',I (Al++[x]) s'->AV (e s'))->b.wp w (g.BG (f x)<|e s) (G1 D Af AV P))(BA:∀s,I xs s->P.av (e s)):(Ca D g q b).wp w Af P:=by
 clear V t Bd BO α w D σ _ b g q f e I Af P s0 xs c d h j BA;exact dD (σ:=-α×σ) (λq=>e q.2) (λl q=>∃Dl,l=Dl.map f/\q.1++Dl=xs/\I q.1 q.2) (s0:=([],s0)) c d {xs,rfl,rfl,h} (λx l q AV i m=>by
   calc aE i λDl AW A3 i=>?_;cases Dl using List.casesOn with
   |nil=>delta AW|cons a Dl=>calc(Ge AW).1▸j q.1 a Dl q.2 AV A3 i λb o=>m (q.1++[a],b) {Dl,(Ge AW).2,Dr q.1 [a] Dl^A3,o}) λq i=>by calc aE i λDl AW A3 i=>?_;rw[List.nil_eq,AjV] at AW;rw[AW,Ct] at A3;calc BA q.2<|A3▸i
def ji(f:α->t.AR)(e:-α->Ao V)(a:∀Q,Q (xs.map f)->q.wp w Af Q)(c:Af=e [])
  (d:∀Al x l (AV:Ao V->Prop),Al++x::l=xs->AV (e<|Al++[x])->b.wp w (g.BG (f x)<|e Al) (G1 D Af AV P))(BA:P.av (e xs)):(Ca D g q b).wp w Af P:=
 fX f e (λa s=>s=a) a c rfl (λa x l s b c i h=>i▸d s x l b (i▸c) (h _<|by rw[i])) λs i=>i▸BA
end
def dd:AP 1:=show 1<=1000000 by decide
def Bt(w:Bk)(g:AK):Prop:=kS
 (g.HV)
 (g.Aq=Cg (J g.Aq))
 (3<=g.Ad)
 (g.Ad+3<=J g.Aq)
 (J g.Aq<=g.Ad+5)
 (g.st=g.Ad+1)
 (w.AA 0="$end")
 (w.AA g.Ad="$accept")
 (w.AA (g.Ad+1)="S")
 (J g.aa<=8)
 (g.aa[0]?=U {g.Ad,[g.Ad+1,0],0})
 (∀i r,g.aa[i+1]?=U r->g.Ad<r.l/\∀s∈r.r,3<=s/\s≠g.Ad)
 (∀s,((g.aa.zipIdx.filter λp=>decide<|p.1.l=s).map λp=>(p.2,p.1.r)).length+(J g.Aq-g.Ad)<=9)
 (∃An,g.aa.map (·.l)=Cn g.Ad (J g.Aq-g.Ad)++An)
abbrev T4:=-(Nat×↑(Nat×↑Nat))
def EH(g:AK)(s:Nat):-(Nat×↑Nat):=(g.aa.zipIdx.filter λp=>decide<|p.1.l=s).map λp=>(p.2,p.1.r)
def Dt(g:AK):-Nat:=Cn g.Ad<|J g.Aq-g.Ad
abbrev GR(g:AK)(f:Nat->β):-(Nat×β):=(Dt g).map λs=>(s,f s)
abbrev C5(g:AK):T4:=GR g<|EH g
def Fm(g:AK):-(Nat×↑Nat):=g.aa.map λr=>(r.l,r.r)
section
variable{f:Nat->β}{g:AK}{s:Nat}
def cA(a:g.CA):s∈Dt g↔g.Ad<=s/\s<J g.Aq:=by unfold Dt;rw[XK,MV<|BY a.2]
def eg:(Dt g).Nodup:=tN
def cY(G:Bt w g):(Dt g).length<=5:=by unfold Dt;rw[H6];calc Nat.sub_le_iff_le_add'.mpr G.5
def ho{L:-Nat}:C1 (L.map λs=>(s,f s)) s=if s∈L then U (f s) else Ai:=by
 cases L with
 |nil=>rfl|cons a L b=>
  show(if s=a then U (f a) else C1 (L.map λs=>(s,f s)) s)=_;rw[b];by_cases h:s=a;·rw[ao h,ao<|h▸.head _,h]
  ·rw[ai h];by_cases q:s∈L;·rw[ao q,ao<|.tail _ q]
   ·rw[ai q,ai λz=>(aK z).elim h q]
def cu(a:g.CA)(Ag:g.Ad<=s)(b:s<J g.Aq):C1 (GR g f) s=U (f s):=ho^ao ((cA a).mpr {Ag,b})
def qw(a:g.CA)(h:¬(g.Ad<=s/\s<J g.Aq)):C1 (GR g f) s=Ai:=ho^ai λz=>h<|(cA a).mp z
def de(a:g.CA)(b:s<J g.Aq):(C1 (GR g f) s).isSome=decide (g.Ad<=s):=by
 by_cases h:g.Ad<=s;·rw[cu a h b,aJ h];rfl
 ·rw[qw a λz=>h z.1,decide_eq_false h];rfl
def df:(GR g f).map (·.1)=Dt g:=by rw[Fy];calc EW _
def acH(G:Bt w g):(GR g f).length<=5:=by rw[Bq];calc cY G
def dZ(G:Bt w g):AP (GR g f).length:=acH G\∅
def Bt.at(G:Bt w g)(h:s<J g.Aq):Es g s=s:=by show g.Aq.getD s 0=s;rw[G.2,CO,tF h];rfl
def qx:e∈EH g s↔∃r,g.aa[e.1]?=U r/\r.l=s/\r.r=e.2:=by clear g s e _;unfold EH;rw[ZS];calc {λa=>ae a λp b h=>h▸{p.1,d0<|dt b,aL (dO b).2,rfl},λa=>aE a λr a c d=>{(r,e.1),c4 {di a,aJ c},LK rfl d}}
def fK(G:Bt w g):(EH g s).length<=8:=cR\(by rw[Fb];calc G.10)
def ez(G:Bt w g)(h:e∈EH g s):∃r∈g.aa,r.l=s/\r.r=e.2:=(qx.mp h).imp λr h=>{GK h.1,h.2}
def e7(h:r∈g.aa):∃i,(i,r.r)∈EH g r.l:=(SS h).imp λi e=>qx.mpr {r,e,rfl,rfl}
def Bt.cE(G:Bt w g)(h:e∈EH g s):J e.2<=3/\∀y∈e.2,y<J g.Aq:=(ez G h).elim λr h=>h.2.2▸{G.1.3 r h.1,(G.1.1.1.1.4 r h.1).2}
end
def ET(g:AK)(path:-Nat):Prop:=Em
 (path.Nodup)
 (∀y∈path,g.Ad<=y/\y<J g.Aq)
def Adz(a:T4)(Ah:-Nat)(lt:Bool)(path:-Nat):Ao Uz:=(a,Ah,lt,path,0,())
def AdA(a:T4)(s:Nat)(lt:Bool)(path:-Nat)(i:Nat)(Ah:-Nat):Ao Zl:=(a,s,lt,path,i,Ah,())
abbrev XE(A B:Prop)(b:Bool):Prop:=(b=Y->A)/\(B->b=Y)
section
variable{w:Bk}{k:Nat}{g:AK}{path:-Nat}{lt:Bool}
def ET.bj(G:Bt w g)(h:ET g path):J path<=5:=(ey h.1 λx a=>(cA G.1.1.1.1).mpr<|h.2 x a)\cY G
def jj(h:l.Nodup)(c:s∉l):(l++[s]).Nodup:=cv {h,cw {CR,HL},λa d b f e=>c<|aF f▸e▸d}
def ET.bN(h:ET g path)(hs:g.Ad<=s/\s<J g.Aq)(a:s∉path):ET g (path++[s]):={jj h.1 a,λy b=>(aN b).elim (h.2 y) λe=>by rw[aF e];calc hs}
def acI{A B:Nat->Prop}(f:AP (J Ah))(h:∀y∈Ah,NJ.BZ (w^^k) (a,y,lt,path,())<|XE (A y)<|B y):Un.BZ (w^^k+1) (a,Ah,lt,path,()) (XE (∀y∈Ah,A y) (∀y∈Ah,B y)):=by
 calc aY aaM ?_;show Acl.wp _ (Adz a Ah lt path) _;refine b1 (t:=Ac) (xs:=Ah) (σ:=Unit) (λZ=>Adz a Ah lt path) (λa Z=>∀y∈a,A y) (s0:=()) (λZ q=>{f,q}) rfl az (λAl y l Z AV e i j=>?_) λZ i=>{λZ=>i,λZ=>rfl}
 have d:=e▸BH _ (.head _);calc(h y d).aq λb q=>bZ (λc=>{br,λz=>Bool.noConfusion<|c.symm^q.2 (z y d)}) λc=>j () λz m=>(aN m).elim (i z) λe=>aF e▸q.1 c
def acL(G:Bt w g)(hs:s<J g.Aq)(j:J path<=5)(Ag:s<g.Ad->XE A B lt)(m:s∈path->¬B)(o:g.Ad<=s->s∉path->∃f a:Nat×↑Nat->Prop,(∀e∈EH g s,Un.BZ (w^^k) (C5 g,e.2,lt,path++[s],())<|XE (f e)<|a e)/\(∀e∈EH g s,f e->A)/\(B->∃e∈EH g s,a e)):
  NJ.BZ (w^^k+1) (C5 g,s,lt,path,()) (XE A B):=by
 clear w k g path lt s A B _ G hs j Ag m o;refine aY aaN<|bH (z:=!(C1 (C5 g) s).isSome) (λc=>Ag ?_) λc=>bV (p:=s∈path) (λd=>{br,λz=>ar z<|m d}) λd=>?_
 ·rw[de G.1.1.1.1 hs] at c;exact NA<|b2<|EJ _▸c
 ·rw[de G.1.1.1.1 hs] at c;have t:g.Ad<=s:=aL<|WI _▸c;calc a8 (o t d) λf a r x C=>?_;show Acm.wp _ (AdA (C5 g) s lt path 0 []) _;refine b1 (t:=A0 O<|Ar Ac) (xs:=EH g s) (σ:=Unit) (λZ=>AdA (C5 g) s lt path 0 []) (λb Z=>∀e∈b,¬a e) (s0:=()) (λZ q=>{_,cu G.1.1.1.1 t hs,fK G\∅,q}) rfl az (λAl e l Z AV D i E=>?_) λZ i=>{br,λz=>(C z).elim λe h=>ar h.2<|i e h.1}
  have u:=D▸BH _ (.head _);calc {{j\∅,dd},(r e u).aq λb q=>bH (λc=>{λZ=>x e u<|q.1 c,λZ=>rfl}) λc=>E () λz F=>(aN F).elim (i z) λe=>aF e▸λy=>Bool.noConfusion<|c.symm^q.2 y}
def acM(G:Bt w g)(lt:Bool)(hs:s<J g.Aq):NJ.BZ (w^^k+12) (C5 g,s,lt,[],()) λb=>b=Y↔Ei g.aa (λy=>lt=Y/\y<g.Ad) s:=by
 clear w k g s lt _ G hs;calc ak (qv g.aa λy=>lt=Y/\y<g.Ad) λCo H=>?_;have key:∀(n:Nat) (path:-Nat) (s:Nat),ET g path->6<=n+J path->s<J g.Aq->NJ.BZ (w^^k+2*n) (C5 g,s,lt,path,()) (XE (Ei g.aa (λy=>lt=Y/\y<g.Ad) s) (Ei g.aa (λy=>lt=Y/\y<g.Ad) s/\∀p∈path,Ei g.aa (λy=>lt=Y/\y<g.Ad) p->Co s<Co p)):=λn=>by
  cases n with
  |zero=>calcλb s a l Z=>ar (l\(Di (EV _)\a.bj G)) ∅|succ n u=>
   intro path s a l hs;refine acL (k:=k+2*n+1) G hs (a.bj G) (λt=>{λc=>.ba {c,t},λz=>?_}) (λm z=>Hq _<|z.2 s m z.1) λt m=>{λe=>∀y∈e.2,Ei g.aa (λy=>lt=Y/\y<g.Ad) y,λe=>∀y∈e.2,Ei g.aa (λy=>lt=Y/\y<g.Ad) y/\∀p∈path++[s],Ei g.aa (λy=>lt=Y/\y<g.Ad) p->Co y<Co p,λe j=>acI ((G.cE j).1\∅) λy d=>u _ y (a.bN {t,hs} m) ?_<|(G.cE j).2 y d,λe j h=>?_,λz=>?_}
   ·exact(H s z.1).elim Z5 λx=>aE x λr f e Z=>ar t<|bz<|e▸G.1.1.1.2 r f
   ·rw[BD,Pl,<-El,Hb];exact l
   ·exact aE (ez G j) λr f a b=>a▸.aO f (b▸h)
   ·calc aE ((H s z.1).resolve_left λq=>bz t q.2) λr f e o=>ak (e7 f) λi A=>?_;exact {_,e▸A,λy d=>{(o y d).1,λp a q=>(aN a).elim (λa=>DQ (o y d).2<|z.2 p a q) λe=>aF e▸(o y d).2}}
 calc(key 6 [] s {HL,az} (CE _) hs).aq λb q=>{q.1,λz=>q.2 {z,az}}
def IY(l:-Nat)(x:Nat):-Nat:=if x∈l then l else l++[x]
def acN:∀{bG:-Nat},(bG++a).Nodup->a.foldl IY bG=bG++a:=by
 cases a with
 |nil=>calcλZ=>(Ct _).symm|cons x a b=>
  intro bG h;rw[Rp,show IY bG x=bG++[x] from ai λz=>(dI h) x z x (.head _) rfl,b (by rw[Dr];calc h),Dr];rfl
def qy:∀{a bG:-Nat},(∀x∈a,x∈bG)->a.foldl IY bG=bG
 |[],_=>λZ=>rfl|x::a,bG=>λh=>by rw[Rp,show IY bG x=bG from ao<|h x<|.head _];calc qy λy b=>h y<|.tail _ b
def qz{f:Nat->β}{v:β}(c:L.Nodup):B9 (L.map λs=>(s,f s)) s v=(IY L s).map λx=>(x,if x=s then v else f x):=by
 have key:B9 (L.map λs=>(s,f s)) s v=if s∈L then L.map (λx=>(x,if x=s then v else f x)) else L.map (λs=>(s,f s))++[(s,v)]:=by
  cases L with
  |nil=>rfl|cons a L d=>
   calc aC (du c) λAg i=>?_;show(if s=a then(a,v)::L.map (λs=>(s,f s)) else(a,f a)::B9 (L.map λs=>(s,f s)) s v)=_;by_cases h:s=a
   ·rw[ao h,ao<|h▸.head _,HI,ao h.symm];exact ah _<|FI λx b=>by rw[ai λe:x=s=>Ag<|h▸e▸b]
   ·rw[ai h,d i];by_cases q:s∈L;·rw[ao q,ao<|.tail _ q,HI,ai λe=>h e.symm]
    ·rw[ai q,ai λz=>(aK z).elim h q];rfl
 rw[key];unfold IY;by_cases h:s∈L;·rw[ao h,ao h]
 ·rw[ai h,ai h,Ee,HI,ao rfl];exact ah (·++_)<|FI λx b=>by rw[ai λe:x=s=>h<|e▸b]
def Qb(AN:-(Bp×Nat)):-Nat:=(AN.map (·.1.l)).foldl IY []
def Sn(AN:-(Bp×Nat))(s:Nat):-(Nat×↑Nat):=(AN.filter λp=>decide<|p.1.l=s).map λp=>(p.2,p.1.r)
def acP(h:l.Nodup):(IY l x).Nodup:=by
 unfold IY;split;·exact h
 ·rename_i q;calc jj h q
def fZ:∀(l m:-Nat),m.Nodup->(l.foldl IY m).Nodup
 |[]=>λZ h=>h|_::l=>λZ h=>fZ l _<|acP h
def acQ:Qb (AN++[p])=IY (Qb AN) p.1.l:=by unfold Qb;rw[Ee,SV];rfl
def acR:Sn (AN++[p]) x=if x=p.1.l then Sn AN p.1.l++[(p.2,p.1.r)] else Sn AN x:=by
 unfold Sn;rw[LZ,Ee,fW];by_cases h:x=p.1.l;·rw[ao h,h,ao<|aJ rfl];rfl
 ·rw[ai h,ai λz=>h (aL z).symm];calc Ct _
def fY:∀{l m:-Nat},x∈l.foldl IY m↔x∈m\/x∈l
 |[],m=>{.inl,λh=>h.resolve_right CR}
 |a::l,m=>by
  rw[Rp,fY,ZR,<-or_assoc];calc or_congr_left ?_;unfold IY;split;·rename_i q;exact {.inl,λh=>h.elim id λe=>e▸q}
  ·rw[Mj,Io]
def acS(h:x∉Qb AN):Sn AN x=[]:=by unfold Sn;rw[Pq.mpr λp a z=>h<|fY.mpr<|.inr<|dM {p,a,aL z}];rfl
abbrev Qc(AN:-(Bp×Nat)):T4:=(Qb AN).map λs=>(s,Sn AN s)
def acT:Qc (AN++[p])=B9 (Qc AN) p.1.l ((C1 (Qc AN) p.1.l).getD []++[(p.2,p.1.r)]):=by
 clear AN p _;have e:(C1 (Qc AN) p.1.l).getD []=Sn AN p.1.l:=by
  rw[ho];by_cases h:p.1.l∈Qb AN;·rw[ao h];rfl
  ·rw[ai h,acS h];rfl
 rw[e];calc ?_^(qz<|fZ _ _ HL).symm;unfold Qc;rw[acQ];unfold Qb;calc FI λx Z=>LK rfl acR
def acW(G:Bt w g):Qc g.aa.zipIdx=C5 g:=by
 clear w g _ G;have b:Qb g.aa.zipIdx=Dt g:=by calc ak G.14 λAn e=>?_;unfold Qb;rw[show(λp:Bp×Nat=>p.1.l)=(λr:Bp=>r.l)∘SR from rfl,<-Fy,tP,e,SV,show Cn g.Ad (J g.Aq-g.Ad)=Dt g from rfl,acN (bG:=[]) eg];calc qy λx c=>(cA G.1.1.1.1).mpr<|ae (b0<|e▸BH _ c) λr a A3=>?_;exact A3▸{G.1.1.1.2 r a,(G.1.1.1.1.4 r a).1}
 unfold Qc;rw[b];rfl
def AdB(AN:-(Nat×↑Nat))(a:T4):Ao Uy:=(AN,a,0,(0,[]),())
def hp:MH (Fm g)=g.aa.zipIdx.map λp=>(p.2,p.1.l,p.1.r):=by unfold MH Fm;rw[List.zipIdx_map,Fy];rfl
def acX(G:Bt w g):Ze.BZ (w^^k+1) (Fm g,()) (·=C5 g):=by
 calc aY aaL ?_;show Ack.wp _ (AdB (Fm g) []) _;calc ji (λp:Bp×Nat=>(p.2,p.1.l,p.1.r)) (λa=>AdB (Fm g)<|Qc a) (λZ q=>{(Di (Bq ..)\(G.10\∅)),hp▸q}) rfl (λAN p l AV e a=>?_) (acW G);have c:=((by rw[<-e,BD];calc CD _ _)\Di Fb)\G.10;have Ag:(Qc AN).length<=5:=by rw[Bq];calc(ey (fZ _ _ HL) λx d=>(cA G.1.1.1.1).mpr ?_)\cY G;calc ae (b0<|(fY.mp d).resolve_left CR) λq f i=>?_;subst i;have b:=bX<|e▸CL _ f;exact {G.1.1.1.2 _ b,(G.1.1.1.1.4 _ b).1}
 rw[acT] at a;calc {{?_,dd},Ag\∅,a};show AP ((C1 (Qc AN) p.1.l).getD []).length;rw[ho];by_cases h:p.1.l∈Qb AN;·rw[ao h];exact cR\(c\∅)
 ·rw[ai h];calc C9 _
end
open Classical in
def N4(S:Nat->Prop)(s:Nat):Bool:=decide<|S s
def cF:N4 S s=Y↔S s:=@bB (S s)<|kI _
def hq(h:b=Y↔S s):b=N4 S s:=cn<|h.trans cF.symm
abbrev E7(g:AK):-(Nat×Bool):=GR g<|N4<|CY g
def Np(w:Bk)(S:Nat->Prop)(Al:-Nat):Prop:=Em
 (Al.Pairwise λa b=>M9 (w.AA a) (w.AA b)=Y)
 (∀x,x∈Al↔S x)
def G5(w:Bk)(g:AK)(S:Nat->Prop):-Nat:=Aiv<|Np w S
section
variable{w:Bk}{k:Nat}{g:AK}{xs:-Nat}{S:Nat->Prop}
def qA(w:Bk):Ic λa b=>M9 (w.AA a) (w.AA b):=fC.NR w.AA w.inj
def Np.ab(h:Np w S xs):xs.Nodup:=h.1.imp λ{a b} q e=>by rw[e,fC.1] at q;delta q
def Np.eq(Ag:Np w S xs)(a:Np w S Al):xs=Al:=eJ (qA w) Ag.1 a.1<|(kH Ag.ab a.ab).mpr λx=>(Ag.2 x).trans (a.2 x).symm
def dY(h:∀x,S x->x<J g.Aq):Np w S (G5 w g S):=by
 clear w g S _ h
 suffices ∃Al,Np w S Al from Aiw this
 have H:=qA w;have d:=List.mergeSort_perm ((Cg<|J g.Aq).filter<|N4 S) λa b=>!M9 (w.AA b) (w.AA a);have le:∀a b,(!M9 (w.AA b) (w.AA a))=Y↔a=b\/M9 (w.AA a) (w.AA b)=Y:=λa b=>by rw[EJ];calc {λh=>X9 .inl λn=>.inr<|(H.3 a b n).resolve_right λz=>Bool.noConfusion<|h.symm^z,λh=>QA.mpr λz=>?_};have:M9 (w.AA a) (w.AA a)=Y:=h.elim (λe=>by rw[<-e] at z;calc z) λh=>H.2 a b a h z;rw[fC.1] at this;delta this
 calc {_,((List.pairwise_mergeSort (λa b c Ag f=>(le a c).mpr ?_) (λa b=>?_) _).and<|d.nodup_iff.mpr<|Z0.filter _).imp λq=>((le _ _).mp q.1).resolve_left q.2,λx=>d.mem_iff.trans<|SD.trans {λq=>cF.mp q.2,λq=>{cV<|h x q,cF.mpr q}}};·exact((le a b).mp Ag).elim (λe=>e▸(le b c).mp f) λq=>((le b c).mp f).elim (λe=>.inr<|e▸q) λi=>.inr<|H.2 a b c q i
 ·rw[kD,le,le];calc X9 (λe:a=b=>.inl<|.inl e) λn=>(H.3 a b n).imp .inr .inr
def hr{n:Nat}(h:∀x,S x->x<n)(a:n<=J g.Aq):(G5 w g S).length<=n:=have T:=dY λx q=>Cw (h x q) a;eu T.ab λx b=>h x<|(T.2 x).mp b
def acK(a:g.G3)(hs:s<J g.Aq):(C1 (E7 g) s).getD Ab=Y↔CY g s:=by
 by_cases h:g.Ad<=s;·rw[cu a.1 h hs];exact cF
 ·rw[qw a.1 λz=>h z.1];calc {br,λz=>ar (a.aj z) h}
def ht(c:g.G3)(d:∀y∈Ah,y<J g.Aq)(a:AP (J Ah)):Xm.BZ (w^^k+1) (E7 g,Ah,()) λb=>b=Y↔∀y∈Ah,CY g y:=by
 clear w k g Ah _ c d a;calc aY aaP ⟨a,a,λs=>!(C1 (E7 g) s).getD Ab,id,λs Z=>{rfl,λZ=>rfl},bB.trans (by
   rw[EW,Pq];calc forall_congr' λy=>forall_congr' λe=>?_;rw[<-acK c (d y e)];cases(C1 (E7 g) y).getD Ab<;>decide)⟩
def qB:∀(xs:-Nat) (d:-(Nat×Bool)),((xs.map λx=>(x,b)).foldl (λd p=>B9 d p.1 p.2) d).map (·.1)=xs.foldl IY (d.map (·.1))
 |[]=>λZ=>rfl|x::xs=>λd=>by rw[HI,Rp,qB xs,dr];rfl
def qC(h:∀x∈xs,x<J g.Aq):(xs.foldl IY []).length<=J g.Aq:=eu (fZ _ _ HL) λx a=>h x<|(fY.mp a).resolve_left CR
def Np.of(h:∀x,x∈xs↔S x)(c:Tv (λa b=>M9 (w.AA a)<|w.AA b) (xs.foldl IY []) Al):Np w S Al:={c.2,λx=>c.1.mem_iff.trans<|fY.trans<|(or_iff_right CR).trans<|h x}
def qD{Q:-Nat->Prop}(G:Bt w g)(c:∀x∈xs,x<J g.Aq)(e:∀x,x∈xs↔S x)(f:AP (J xs))(h:Q (G5 w g S)):AP (((xs.filter λZ=>Y).map λx=>(x,Y)).length)/\AP ((((xs.filter λZ=>Y).map λx=>(x,Y)).foldl (λd p=>B9 d p.1 p.2) []).length)/\(((((xs.filter λZ=>Y).map λx=>(x,Y)).foldl (λd p=>B9 d p.1 p.2) []).map (·.1)).Nodup/\((((xs.filter λZ=>Y).map λx=>(x,Y)).foldl (λd p=>B9 d p.1 p.2) []).map (·.1)).length<64)/\∀Al,Tv (λa b=>M9 (w.AA a)<|w.AA b) ((((xs.filter λZ=>Y).map λx=>(x,Y)).foldl (λd p=>B9 d p.1 p.2) []).map (·.1)) Al->Q Al:=by rw[b8,<-Bq (as:=((xs.map λx=>(x,Y)).foldl (λd p=>B9 d p.1 p.2) [])) (·.1),qB,Bq] at⊢;calc {f,qC c\G.1.1.1.1.aB,{fZ _ _ HL,DG (qC c\G.1.2) ∅},λa i=>(Np.of e i).eq (dY λx q=>c x<|(e x).mpr q)▸h}
def jk(G:Bt w g)(b:∀x∈xs,x<J g.Aq)(c:∀x,x∈xs↔S x)(a:AP (J xs)):Zf.BZ (w^^k+1) (xs,()) (·=G5 w g S):=by clear w k g xs S _ G b c a;calc aY aaT {a,a,λZ=>Y,λ(x:Nat)=>(x,Y),λx Z=>{rfl,λZ=>rfl},qD (w:=w) G b c a rfl}
def acZ(G:Bt w g)(b:∀x∈xs,x<J g.Aq)(c:∀x,x∈xs↔S x)(a:AP (J xs)):Ox.BZ (w^^k+1) (xs,()) (·=G5 w g S):=by clear w k g xs S _ G b c a;calc aY aaW {a,a,λZ=>Y,λ(x:Nat)=>(x,Y),λx Z=>{rfl,λZ=>rfl},qD (w:=w) G b c a rfl}
def qE(G:Bt w g)(c:m<2^(J g.Aq))(d:∀x,m.testBit x=Y↔S x):Up.BZ (w^^k+2) (g,m,()) (·=G5 w g S):=by
 clear w k g S m _ G c d;calc aY aaX ((pv c G.1.1.1.1.aB).aq λy e=>by subst e;have f:(HZ m<|J g.Aq).length<=J g.Aq:=hj;have lt:∀s∈HZ m (J g.Aq),s<J g.Aq:=λs a=>cU<|dt a;calc {f\G.1.1.1.1.aB,f\G.1.1.1.1.aB,λZ=>Y,Es g,λs a=>{rfl,λZ=>{{lt s a,G.1.1.1.1.aw<|lt s a},rfl}},?_};calc(ah (λl:-Nat=>(l.Nodup/\J l<64)/\∀Al,Tv (λa b=>M9 (w.AA a)<|w.AA b) l Al->Al=G5 w g S)<|b8 (Es g) _^(FI λs a=>G.at<|lt s a).trans (EW _)).mpr ?_;calc {{qf,DG (f\G.1.2) ∅},λa h=>Np.eq {h.2,λx=>h.1.mem_iff.trans<|(jg c).trans<|d x}<|dY λx q=>lt x<|(jg c).mpr<|(d x).mpr q})
end
section
variable{y:Nat}
theorem BV.DL:BV N F (a++b) x↔BV N F a x\/(∀z∈a,N z)/\BV N F b x:=by
 cases a with
 |nil=>calc {λh=>.inr {az,h},λh=>h.elim (λh=>ar h BV.nil) Rk}|cons z a c=>rw[AjO,BV.cons,BV.cons,c,jU,or_assoc,and_or_left,and_assoc]
def BV.eA(h:∀s,F s x->FA s x):∀{w:-Nat},BV N F w x->BV N FA w x
 |[]=>λq=>ar q BV.nil|_::_=>λq=>BV.cons.mpr<|(BV.cons.mp q).imp (h _) λq=>{q.1,BV.eA h q.2}
theorem BV.Cf:BV N F [y] x↔F y x:=BV.cons.trans {λh=>h.elim id λh=>ar h.2 BV.nil,.inl}
def BV.bN(h:∀z∈a,N z):BV N F (a++[y]) x↔BV N F a x\/F y x:=BV.DL.trans<|or_congr_right<|(and_iff_right h).trans BV.Cf
def BV.eB(h:∀z∈a,N z)(c:¬N y):BV N F (a++y::b) x↔BV N F a x\/F y x:=BV.DL.trans<|or_congr_right<|(and_iff_right h).trans<|BV.cons.trans {λh=>h.elim id λh=>ar h.1 c,.inl}
end
def AaE(R:-Bp)(Ad x:Nat)(S:Nat->Prop)(b:Nat):Prop:=(b<Ad/\b=x)\/∃r∈R,r.l=b/\BV (Ei R λZ=>False) (λb Z=>S b) r.r x
def acY:ZA (AaE R Ad x):=λS T h b=>Or.imp id λa=>aE a λr a c d=>{r,a,c,d.eA h}
def qF{b:Nat}:DF R Ad b x↔∃n,MW (AaE R Ad x) n b:=by
 clear R Ad x b _;have key:∀n b,MW (AaE R Ad x) n b->DF R Ad b x:=λn=>by
  cases n with
  |zero=>calcλb h=>h.elim|succ n a=>exactλb h=>h.elim (λh=>h.2▸.bS h.1) λc=>aE c λr b d f=>d▸BV.aO b (f.eA a)
 calc {λh=>?_,λh=>h.elim λn=>key n b};clear key;cases h with
 |bS h=>calc {1,.inl {h,rfl}}|aO g e i _ a=>calc a.elim λn j=>{n+1,.inr {_,g,rfl,e▸BV.i2 i j}}
def qG(R:-Bp)(Ad x:Nat):∃Co:Nat->Nat,∀b,DF R Ad b x->(b<Ad/\b=x)\/∃r∈R,r.l=b/\BV (Ei R λZ=>False) (λz Z=>DF R Ad z x/\Co z<Co b) r.r x:=by clear R Ad x _;calc ak (qr<|acY (R:=R) (Ad:=Ad) (x:=x)) λe H=>{e,λb h=>(H b<|qF.mp h).imp id λa=>aE a λr a c d=>{r,a,c,d.eA λs q=>{qF.mpr q.1,q.2}}}
def Q4(K:Nat):Nat->Nat
 |0=>1|m+1=>K*(3*Q4 K m)+1
def qH{K:Nat}:∀{m},1<=Q4 K m
 |0=>CE 1|_+1=>Iv 1 _
def acU{K:Nat}(h:1<=K):Q4 K m<=Q4 K (m+1):=(tQ _ (by decide:0<3)\tQ (3*Q4 K m) h)\CD _ 1
abbrev HJ:=-(Nat×↑Nat)
abbrev Ik(w:Bk)(g:AK):HJ:=GR g λs=>G5 w g<|DF g.aa g.Ad s
def So(a:T4)(em:-(Nat×Bool))(Ah path AF:-Nat)(s:Nat):Ao Sa:=(a,em,Ah,path,AF,s,0,[],())
def AdC(EP:HJ)(em:-(Nat×Bool))(Ah AF:-Nat):Ao Xr:=(EP,em,Ah,AF,0,())
section
variable{w:Bk}{k:Nat}{g:AK}{Co:Nat->Nat->Nat}
def DF.low(a:g.G3)(b:y<g.Ad)(h:DF g.aa g.Ad y x):x=y:=by
 clear g x y _ a b h;cases h with
 |bS=>rfl|aO c=>calc ar b<|bz<|a.2 _ c
def Nq(g:AK)(Co:Nat->Nat->Nat)(path:-Nat)(y x:Nat):Prop:=DF g.aa g.Ad y x/\∀p∈path,DF g.aa g.Ad p x->Co x y<Co x p
def Q5(g:AK)(L:Nat->Nat->Prop)(B:Nat)(Ah AF:-Nat):Prop:=Dy
 (∀x∈AF,HD g Ah x)
 (∀x,BV (CY g) L Ah x->x∈AF)
 (J AF<=B)
def MX(g:AK)(L:Nat->Nat->Prop)(C:Nat)(Al AF:-Nat):Prop:=Em
 (Q5 g L (J Al*C) Al AF)
 (∀y∈Al,CY g y)
def MX.nil:MX g L C [] []:={{az,λZ h=>ar h BV.nil,C9 _},az}
def MX.ct(I:MX g L C Al AF)(Ag:∀x∈zs,DF g.aa g.Ad y x)(b:∀x,L y x->x∈zs)(c:J zs<=C)(d:CY g y):MX g L C (Al++[y]) (AF++zs):=
 ⟨⟨λx a=>(BV.bN I.2).mpr<|(aN a).imp (I.1.1 x)<|Ag x,λx a=>Mj.mpr<|((BV.bN I.2).mp a).imp (I.1.2 x)<|b x,by
  rw[BD,BD,Pl,WL];calc EL I.1.3 c⟩,λz f=>(aN f).elim (I.2 z) λe=>aF e▸d⟩
def MX.eB(I:MX g L C Al AF)(Ag:∀x∈zs,DF g.aa g.Ad y x)(c:∀x,L y x->x∈zs)(d:J zs<=C)(b:¬CY g y)(e:Al++y::l=Ah):Q5 g L (J Ah*C) Ah (AF++zs):=e▸
 ⟨λx a=>(BV.eB I.2 b).mpr<|(aN a).imp (I.1.1 x)<|Ag x,λx a=>Mj.mpr<|((BV.eB I.2 b).mp a).imp (I.1.2 x)<|c x,by
  rw[BD,BD,Gb];calc EL I.1.3 d\?_;rw[<-WL];calc Lr _<|Du (GX<|C9 _) _⟩
def qI(e:Al++y::l=Ah)(h:J Ah<=3)(a:3*C<=1000000):AP (J Al*C)/\AP C:={Lr _ ((by rw[<-e,BD];calc CD _ _)\h)\a,tQ _ ∅\a}
def qL(G:Bt w g)(i:∀y∈Ah,y<J g.Aq)(b:J Ah<=3):Uo.BZ (w^^k+1) (Ik w g,E7 g,Ah,()) (Q5 g (DF g.aa g.Ad) (J Ah*5) Ah):=by
 clear w k g Ah _ G i b;calc aY aaR ?_;show Acr.wp _ (AdC (Ik w g) (E7 g) Ah []) _;calc b1 (t:=Ac) (xs:=Ah) (AdC (Ik w g) (E7 g) Ah) (MX g (DF g.aa g.Ad) 5) (λZ q=>{b\∅,q}) rfl MX.nil (λAl y l AF AV e I j=>?_) λa I=>I.1;have a:=i y<|e▸BH _ (.head _);have d:=qI (C:=5) e b ∅;refine bH (z:=!(C1 (Ik w g) y).isSome) (λc=>?_) λc=>?_
 ·rw[de G.1.1.1.1 a] at c;have t:y<g.Ad:=NA<|b2<|EJ _▸c;exact {{I.1.3\d.1,dd},I.eB (λx m=>by rw[aF m];calc .bS t) (λx h=>Io.mpr<|h.low G.1.1.1 t) (by show 1<=5;decide) (λz=>bz (G.1.1.1.aj z) t) e}
 ·rw[de G.1.1.1.1 a] at c;have t:g.Ad<=y:=aL<|WI _▸c;have lt:∀x,DF g.aa g.Ad y x->x<g.Ad:=λx h=>h.lt;have T:=dY (w:=w) (g:=g) λx h=>DQ (lt x h) G.1.1.1.1.2;have f:=hr (w:=w) lt (BY G.1.1.1.1.2)\G.1.5;calc {_,cu G.1.1.1.1 t a,{I.1.3\d.1,f\d.2},_,cu G.1.1.1.1 t a,bZ (λc=>I.eB (λx=>(T.2 x).mp) (λx=>(T.2 x).mpr) f (λz=>Bool.noConfusion<|c.symm^cF.mpr z) e) λc=>j _<|I.ct (λx=>(T.2 x).mp) (λx=>(T.2 x).mpr) f<|cF.mp c}
def acV{K:Nat}(G:Bt w g)(b:(EH g s).length<=K)(j:J path<=5)(hs:g.Ad<=s/\s<J g.Aq)(d:AP (B+K*c))(m:J AF<=B)(o:∀e∈EH g s,QK.BZ (w^^k) (C5 g,E7 g,e.2,path++[s],())<|Q5 g (Nq g Co<|path++[s]) c e.2)(h:∀zs,J zs<=K*c->(∀x∈zs,∃e∈EH g s,HD g e.2 x)->(∀x,(∃e∈EH g s,BV (CY g) (Nq g Co<|path++[s]) e.2 x)->x∈zs)->P.av (So (C5 g) (E7 g) Ah path (AF++zs) s)):Acn.wp (w^^k) (So (C5 g) (E7 g) Ah path AF s) P:=by
 calc b1 (t:=A0 O<|Ar Ac) (xs:=EH g s) (λa=>So (C5 g) (E7 g) Ah path (AF++a) s) (λa b=>J b<=J a*c/\(∀x∈b,∃e∈a,HD g e.2 x)/\∀x,(∃e∈a,BV (CY g) (Nq g Co<|path++[s]) e.2 x)->x∈b) (λZ q=>{_,cu G.1.1.1.1 hs.1 hs.2,fK G\∅,q}) (by rw[Ct]) {C9 _,az,λx h=>h.elim λZ h=>ar h.1 CR} (λAl e l zs AV f I p=>?_) λa I=>h a (I.1\Lr _ b) I.2.1 I.2.2;have i:J Al*c+c<=K*c:=by rw[<-WL];calc Lr _<|?_\b;rw[<-f,BD];exact Du (GX<|C9 _) _
 calc {{j\∅,dd},(o e<|f▸BH _ (.head _)).aq λAG Bu=>{{?_,?_},?_}};·show AP (AF++zs).length;rw[BD];exact EL m (I.1\(CD _ _\i))\d
 ·exact(Bu.3\(Iv _ _\i))\(Iv _ _\d)
 ·have:=p (zs++AG) {?_,λx a=>dq.mpr<|(aN a).imp (I.2.1 x)<|Bu.1 x,λx a=>Mj.mpr<|(dq.mp a).imp (I.2.2 x)<|Bu.2 x};·rw[<-Dr] at this;exact this
  ·rw[BD,BD,Pl,WL];calc EL I.1 Bu.3
def acJ{K:Nat}(G:Bt w g)(H:∀x b,DF g.aa g.Ad b x->(b<g.Ad/\b=x)\/∃r∈g.aa,r.l=b/\BV (CY g) (λz Z=>DF g.aa g.Ad z x/\Co x z<Co x b) r.r x)(j:ET g path)(o:y<J g.Aq)(s:J Ah<=3)(u:3*C<=1000000)(Ag:1<=C)(F:(EH g y).length<=K)
  (m:y∉path->g.Ad<=y->∃c,K*c<=C/\∀e∈EH g y,QK.BZ (w^^k) (C5 g,E7 g,e.2,path++[y],())<|Q5 g (Nq g Co<|path++[y]) c e.2)(e:Al++y::l=Ah)(I:MX g (Nq g Co path) C Al AF)(L:∀AF,MX g (Nq g Co path) C (Al++[y]) AF->P.av (So (C5 g) (E7 g) Ah path AF y))(A:∀AF,Q5 g (Nq g Co path) (J Ah*C) Ah AF->P.bW AF):Acp.wp (w^^k) (So (C5 g) (E7 g) Ah path AF y) P:=by
 refine bH (z:=!(C1 (C5 g) y).isSome) (λc=>?_) λc=>?_
 ·rw[de G.1.1.1.1 o] at c;have t:y<g.Ad:=NA<|b2<|EJ _▸c;exact {{I.1.3\(qI (C:=C) e s u).1,dd},A _<|I.eB (λx a=>by rw[aF a];calc .bS t) (λx h=>Io.mpr<|h.1.low G.1.1.1 t) Ag (λz=>bz (G.1.1.1.aj z) t) e}
 ·rw[de G.1.1.1.1 o] at c;have t:g.Ad<=y:=aL<|WI _▸c;have go:∀zs:-Nat,J zs<=C->(∀x∈zs,DF g.aa g.Ad y x)->(∀x,Nq g Co path y x->x∈zs)->Aco.wp (w^^k) (So (C5 g) (E7 g) Ah path (AF++zs) y) P:=λa B b D=>{_,cu G.1.1.1.1 t o,bZ (z:=N4 (CY g) y) (λc=>A _<|I.eB b D B (λz=>Bool.noConfusion<|c.symm^cF.mpr z) e) λc=>L _<|I.ct b D B<|cF.mp c}
  refine d9 (p:=y∈path) (λd=>?_) λd=>?_
  ·refine ae (m d t) λc E M=>acV (c:=c) G F (j.bj G) {t,o} (Du E _\?_) I.1.3 M λzs N Q R=>go zs (N\E) (λx a=>?_) λx a=>R x ?_
   ·rw[<-WL];exact Lr _ ((by rw[<-e,BD];calc Du (GX<|C9 _) _)\s)\u
   ·calc ae (Q x a) λe S q=>aE (ez G S) λr m AW A3=>?_;rw[<-A3] at q;exact AW▸BV.aO m q
   ·calc aE ((H x y a.1).resolve_left λz=>bz t z.1) λr m AW q=>ak (e7 m) λi W=>?_;exact {_,AW▸W,q.eA λz h=>{h.1,λp j f=>(aN j).elim (λj=>DQ h.2<|a.2 p j f) λe=>aF e▸h.2}}
  ·have:=go [] (C9 _) az λx a=>ar (a.2 y d a.1)<|Hq _;rw[Ct] at this;calc this
def qM{K:Nat}(G:Bt w g)(H:∀x b,DF g.aa g.Ad b x->(b<g.Ad/\b=x)\/∃r∈g.aa,r.l=b/\BV (CY g) (λz Z=>DF g.aa g.Ad z x/\Co x z<Co x b) r.r x)(f:ET g path)(h:∀y∈Ah,y<g.Aq.length)(a:Ah.length<=3)(i:3*C<=1000000)(Ag:1<=C)(j:∀y,(EH g y).length<=K)
  (m:∀y,y<g.Aq.length->y∉path->g.Ad<=y->∃c,K*c<=C/\∀e∈EH g y,QK.BZ (w^^k) (C5 g,E7 g,e.2,path++[y],())<|Q5 g (Nq g Co<|path++[y]) c e.2):QK.BZ (w^^k+1) (C5 g,E7 g,Ah,path,()) (Q5 g (Nq g Co path) (Ah.length*C) Ah):=by calc aY aaQ ?_;show Acq.wp _ (So (C5 g) (E7 g) Ah path [] 0) _;calc b1 (xs:=Ah) (λa=>So (C5 g) (E7 g) Ah path a 0) (MX g (Nq g Co path) C) (λZ q=>{a\∅,q}) rfl MX.nil (λAl y l AF AV e I o=>?_) λa I=>I.1;have d:=h y<|e▸BH _ (.head _);calc acJ G H f d a i Ag (j y) (m y d) e I o λZ=>id
def acO(G:Bt w g)(hs:s<J g.Aq):QK.BZ (w^^k+6) (C5 g,E7 g,[s],[],()) λAF=>AP (J AF)/\∀x,x∈AF↔DF g.aa g.Ad s x:=by
 clear w k g s _ G hs;calc ak (AjJ<|qG g.aa g.Ad) λCo H=>?_;have p:∀y,(EH g y).length<=9-(Dt g).length:=λy=>Aj0 (by unfold Dt;rw[H6];calc G.13 y);have key:∀(m:Nat) (k:Nat) (path Ah:-Nat),ET g path->J path+m=(Dt g).length->J Ah<=3->(∀y∈Ah,y<J g.Aq)->3*Q4 (9-(Dt g).length) m<=1000000->QK.BZ (w^^k+m+1) (C5 g,E7 g,Ah,path,()) (Q5 g (Nq g Co path) (J Ah*Q4 (9-(Dt g).length) m) Ah):=λm=>by
  cases m with
  |zero=>
   intro k path Ah c j l f a;calc qM G H c f l a qH p λy i d t=>?_;have:=ey (c.bN {t,i} d).1 λx r=>(cA G.1.1.1.1).mpr<|(c.bN {t,i} d).2 x r;rw[BD,<-j] at this;calc ar this<|Nat.not_succ_le_self _
  |succ m u=>
   intro k path Ah c j l f a;refine qM G H c f l a qH p λy i d t=>{3*Q4 (9-(Dt g).length) m,Ex _,λe o=>(u k (path++[y]) e.2 (c.bN {t,i} d) ?_ (G.cE o).1 (G.cE o).2<|Hd 3 (acU<|∅\Ajb (cY G) 9)\a).aq λa F=>{F.1,F.2,F.3\Lr _ (G.cE o).1}}
   rw[BD,Pl,El,FO 1];exact j
 have q:=cY G;have b:∀n,n<6->3*Q4 (9-n) n<=1000000:=by decide
 have a:=b _<|Iu q;have e:k+(5-(Dt g).length)+(Dt g).length+1=k+6:=by rw[El k,s8 q]
 have F:=key (Dt g).length (k+(5-(Dt g).length)) [] [s] {HL,az} (EV _) (by show 1<=3;decide) (λy f=>aF f▸hs) a;rw[e] at F;calc F.aq λb F=>{F.3\(Lr _ (by show 1<=3;decide)\a),λx=>{λh=>BV.Cf.mp<|F.1 x h,λh=>F.2 x<|BV.Cf.mpr {h,az}}}
end
class inductive G6(E:Nat->Nat->Prop)(B:Nat->Prop):Nat->Prop where
 |ba {y:Nat}:B y->G6 E B y
 |aU {y z:Nat}:G6 E B y->E y z->G6 E B z
def Sp(g:AK)(E:Nat->Nat->Prop)(B:Nat->Prop)(ln:-Nat)(a:Nat):Prop:=He
 (ET g ln)
 (∀y∈ln,G6 E B y)
 (∀y,B y->y∈ln)
 (∀y∈ln.take a,∀z,E y z->z∈ln)
section
variable{zs:-Nat}
def qN(h:a<J ln):(ln++zs).take (a+1)=ln.take a++[ln.getD a 0]:=by rw[AjM h,Vz,CO,Dv h];rfl
def Sp.af(h:Sp g E B ln a)(b:¬a<J ln)(y:Nat):y∈ln↔G6 E B y:=by
 calc⟨h.2 y,λr=>?_⟩;have c:=h.4;rw[X3<|Mn b] at c;cases r with
 |ba q=>calc h.3 _ q|aU _ q d=>calc c _ d _ q
def Sp.aX(h:Sp g E B ln a)(c:a<J ln)(p:ET g (ln++zs))(Ag:∀z∈zs,E (ln.getD a 0) z)(d:∀z,E (ln.getD a 0) z->z∈ln++zs):Sp g E B (ln++zs) (a+1):=
 ⟨p,λy b=>(aN b).elim (h.2 y) λf=>.aU (h.2 _<|bJ c)<|Ag y f,λy b=>CL _<|h.3 y b,λy b z q=>by rw[qN c] at b;calc(aN b).elim (λb=>CL _<|h.4 y b z q) λe=>d z<|aF e▸q⟩
end
def Q6(g:AK)(y z:Nat):Prop:=∃r∈g.aa,z=r.l/\∃pre post,r.r=pre++y::post/\∀v∈post,CY g v
def XF(g:AK)(y x:Nat):Prop:=∃r∈g.aa,∃pre post,r.r=pre++y::post/\HD g post x
def ac0{s x:Nat}(d:g.G3)(hs:g.Ad<=s):DV g s x↔∃y,G6 (Q6 g) (·=s) y/\XF g y x:=by
 clear g s x _ d hs;have key:∀b x,DV g b x->G6 (Q6 g) (·=s) b->∃y,G6 (Q6 g) (·=s) y/\XF g y x:=λb x h=>by
  cases h with
  |aU a e _ h=>calcλq=>{_,q,_,a,_,_,e,h}
  |up a e _ h _ c=>exactλq=>c<|.aU q {_,a,rfl,_,_,e,h}
 have f:∀y,G6 (Q6 g) (·=s) y->g.Ad<=y/\∀x,DV g y x->DV g s x:=λy h=>by
  cases h with
  |ba e=>subst e;calc {hs,λZ=>id}|aU _ q c=>
   obtain⟨r,a,i,pre,post,e,h⟩:=q;subst i;exact {d.2 r a,λx z=>c.2 x<|.up a e c.1 h z}
 calc {λh=>key s x h<|.ba rfl,λ⟨y,h,r,a,pre,post,e,q⟩=>(f y h).2 x<|.aU a e (f y h).1 q}
def hu{x:Nat}{Q:-Nat->Prop}:(∃i,i<J w/\w.getD i 0=x/\Q (w.drop<|i+1))↔∃pre post,w=pre++x::post/\Q post:=by
 clear w x Q _;constructor
 ·rintro ⟨i,a,Ag,b⟩
  calc {w.take i,w.drop<|i+1,?_,b};have:w[i]=x:=by rw[CO,Dv a] at Ag;exact Ag
  rw[<-this,<-WB a,ky]
 ·rintro ⟨pre,post,rfl,h⟩
  calc {J pre,by rw[BD,Gb];calc Pm<|F0 _,?_,?_};·rw[CO,Qz<|CE _,WH];rfl
  ·rw[tR,Vt<|Ex _,SJ];calc h
def Sq(g:AK)(y:Nat)(r:Bp)(i:Nat):Prop:=∃j,j<i/\r.r.getD j 0=y/\∀v∈r.r.drop (j+1),CY g v
def Sr(g:AK)(y:Nat)(r:Bp)(i x:Nat):Prop:=∃j,j<i/\r.r.getD j 0=y/\HD g (r.r.drop<|j+1) x
def Qd(w:Bk)(g:AK)(s a:Nat)(q:-Nat×↑Nat)(l:Nat)(Ah:-Nat)(i:Nat):Ao PY:=(Fm g,Ik w g,E7 g,s,q.1,q.2,a,l,Ah,i,())
def Mc(g:AK)(ln AF:-Nat)(y B:Nat)(E a:Nat->Prop)(q:-Nat×↑Nat):Prop:=Pr
 (ET g q.1)
 (∃zs,q.1=ln++zs/\∀z∈zs,Q6 g y z)
 (∀x∈q.2,x∈AF\/XF g y x)
 (∀x∈AF,x∈q.2)
 (∀z,E z->z∈q.1)
 (∀x,a x->x∈q.2)
 (J q.2<=B)
section
variable{w:Bk}{k:Nat}{g:AK}{ln AF:-Nat}{s a y B:Nat}{E u:Nat->Prop}
def Mc.ax(I:Mc g ln AF y B E u q)(Ag:∀z,qP z->E z)(b:∀x,qQ x->u x):Mc g ln AF y B qP qQ q:={I.1,I.2,I.3,I.4,(λz h=>I.5 z<|Ag z h),(λz h=>I.6 z<|b z h),I.7}
def Mc.jl(I:Mc g ln AF y B E u q)(h:q.2.length<=b):Mc g ln AF y b E u q:={I.1,I.2,I.3,I.4,I.5,I.6,h}
def fU{p:Nat->Prop}:(∃j,j<i+1/\p j)↔(∃j,j<i/\p j)\/p i:={λb=>ae b λj h z=>(kB.mp h).elim (λh=>.inl {j,h,z}) λe=>.inr<|e▸z,λh=>h.elim (λb=>ae b λj h z=>{j,I1 h,z}) λz=>{i,EM i,z}}
def ac1{P:FK PY ⇑Ac}{r:Bp}(G:Bt w g)(C:a<J ln)(H:ln.getD a 0=y)(m:r∈g.aa)(t:i<J r.r)(L:B<=900000)(I:Mc g ln AF y B (λz=>E z\/z=r.l/\Sq g y r i) (λx=>u x\/Sr g y r i x) q)
  (h:∀M,Mc g ln AF y (B+15) (λz=>E z\/z=r.l/\Sq g y r (i+1)) (λx=>u x\/Sr g y r (i+1) x) M->P.av (Qd w g s a M r.l r.r i)):O0.wp (w^^k+1) (Qd w g s a q r.l r.r i) P:=by
 clear w k g ln AF s a i _ y B E u q P r _ G C H m t L I h;have o:=G.1.1.1.1.4 r m;have D:=G.1.3 r m;calc ae I.2 λzs F e=>?_;have N:a<J q.1:=by rw[F,BD];exact Cw C<|CD _ _
 have R:q.1.getD a 0=y:=by rw[<-H,F,CO,Ri C];rfl
 have S:=I.1.bj G;have aw:∀{n},n<=5->Cu n:=λh=>DG h ∅;have W:AP (J r.r):=D\∅;have dl:(r.r.drop<|i+1).length<=3:=(by rw[X4];calc QC _ _)\D;have X:∀v∈r.r.drop (i+1),v<J g.Aq:=λv a=>o.2 v<|Aj1 a;have Aib:¬r.r.getD i 0=y->Mc g ln AF y (B+15) (λz=>E z\/z=r.l/\Sq g y r (i+1)) (λx=>u x\/Sr g y r (i+1) x) q:=λc=>
  ((I.ax (qP:=λz=>E z\/z=r.l/\Sq g y r (i+1)) (qQ:=λx=>u x\/Sr g y r (i+1) x) (λz=>Or.imp id<|And.imp id λh=>(fU.mp h).resolve_right λz=>c z.1) λz=>Or.imp id λh=>(fU.mp h).resolve_right λz=>c z.1).jl<|Nat.le_add_right_of_le I.7)
 calc {{t,aw<|BY t\(D\∅)},{N,aw<|BY N\S},bV (λc=>?_) λc=>h _<|Aib λz=>c<|z.trans R.symm};have c:r.r.getD i 0=y:=c^R;calc {W,(qL (k:=k) G X dl).aq λAG Bu=>{{I.7\(L\∅),Bu.3\(Lr 5 dl\∅)},?_}};have add:∀A,(∃Al,A=q.1++Al/\∀z∈Al,Q6 g y z)->ET g A->((∀v∈r.r.drop (i+1),CY g v)->r.l∈A)->Mc g ln AF y (B+15) (λz=>E z\/z=r.l/\Sq g y r (i+1)) (λx=>u x\/Sr g y r (i+1) x) (A,q.2++AG):=λA ⟨Al,AW,A3⟩ p HT=>
  ⟨p,{zs++Al,by rw[AW,F,Dr],λz h=>(aN h).elim (e z)<|A3 z},λx j=>(aN j).elim (I.3 x) λj=>.inr {r,m,hu.mp {i,t,c,Bu.1 x j}},λx j=>CL _<|I.4 x j,λz e=>e.elim (λe=>AW▸CL _ (I.5 z<|.inl e)) λe=>(fU.mp e.2).elim (λh=>AW▸CL _ (I.5 z<|.inr {e.1,h})) λh=>e.1▸HT h.2,
   λx j=>Mj.mpr<|j.elim (λj=>.inl<|I.6 x<|.inl j) λj=>(fU.mp j).imp (λh=>I.6 x<|.inr h) λh=>Bu.2 x h.2,by
   rw[BD];calc EL I.7<|Bu.3\Lr 5 dl⟩
 have same:=add q.1 {[],(Ct _).symm,az} I.1;calc bO (Q:=λb=>if b=Y then _ else _) (z:=!decide (r.l∈q.1)) (λd=>{W,(ht G.1.1.1 X<|dl\∅).aq λb a=>bH (λf=>{S\∅,h _<|add _ {[r.l],rfl,λz e=>aF e▸{r,m,rfl,hu.mp {i,t,c,a.mp f}}} (I.1.bN {G.1.1.1.2 r m,o.1}<|b2<|EJ _▸d) λZ=>BH _<|.head _}) λf=>h _<|same λz=>Bool.noConfusion<|f.symm.trans (a.mpr z)}) λd=>h _<|same λZ=>aL<|WI _▸d
def ac2(G:Bt w g)(f:a<J ln)(o:ln.getD a 0=y)(p:B<=10000)(I:Mc g ln AF y B (λZ=>False) (λZ=>False) q)
  (h:∀A,Mc g ln AF y (B+360) (Q6 g y) (XF g y) A->P.av (Qd w g s a A 0 [] 0)):Acu.wp (w^^k+1) (Qd w g s a q 0 [] 0) P:=by
 clear w k g ln AF s _ a y B q P _ G f o p I h;have c:J g.aa<=8:=G.10;calc fX (t:=A0 Ac<|Ar Ac) (λr:Bp=>(r.l,r.r)) (xs:=g.aa) (λq=>Qd w g s a q 0 [] 0) (λa q=>Mc g ln AF y (B+45*J a) (λz=>∃r∈a,z=r.l/\Sq g y r (J r.r)) (λx=>∃r∈a,Sr g y r (J r.r) x) q) (λZ q=>{Di (Bq ..)\(c\∅),q}) rfl (I.ax (λz h=>h.elim λZ h=>ar h.1 CR) λz h=>h.elim λZ h=>ar h.1 CR) (λAl r l q AV e I F=>?_) λq I=>h q<|(I.ax (λz ⟨r,b,e,h⟩=>{r,b,e,hu.mpr h}) λx ⟨r,b,h⟩=>{r,b,hu.mpr h}).jl<|I.7\Du (Hd 45 c) _;have b:r∈g.aa:=e▸BH _ (.head _);have d:=G.1.3 r b;have C:AP (J r.r):=d\∅;have H:J Al<=8:=(by rw[<-e,BD];calc CD _ _)\c;show Acs.wp _ (Qd w g s a q r.l r.r 0) _;refine fR (m:=0) (n:=J r.r) (λq=>Qd w g s a q r.l r.r 0) (λi q=>Mc g ln AF y (B+45*J Al+15*i) (λz=>(∃r∈Al,z=r.l/\Sq g y r (J r.r))\/z=r.l/\Sq g y r i) (λx=>(∃r∈Al,Sr g y r (J r.r) x)\/Sr g y r i x) q) (λZ q=>{C,C,q}) rfl (C9 _) (I.ax (λz h=>h.resolve_right λh=>h.2.elim λj h=>I2 _ h.1) λz h=>h.resolve_right λh=>h.elim λj h=>I2 _ h.1) (λi q M Z D I L=>?_) λq I=>F q<|(I.ax (λz=>dq.mp) λx=>dq.mp).jl<|?_
 ·show O0.wp _ (Qd w g s a q r.l r.r i) _;calc ac1 G f o b D ?_ I L;exact EL (EL p<|Hd 45 H) (Hd 15<|BY D\d)\∅
 ·rw[BD,Nat.mul_add,<-El];calc I.7\Du (Hd 15 d) _
def Aic(g:AK)(s:Nat)(q:(-Nat×↑Nat)×Nat):Prop:=Mo
 (Sp g (Q6 g) (·=s) q.1.1 q.2)
 (∀x∈q.1.2,∃y,G6 (Q6 g) (·=s) y/\XF g y x)
 (∀y∈q.1.1.take q.2,∀x,XF g y x->x∈q.1.2)
 (J q.1.2<=360*q.2)
 (q.2<=5)
def ac3(G:Bt w g)(hs:g.Ad<=s)(d:s<J g.Aq):Ow.BZ (w^^k+2) (Fm g,Ik w g,E7 g,s,()) λAF=>AP (J AF)/\∀x,x∈AF↔DV g s x:=by
 clear w k g s _ G hs d;calc aY aaS ?_;show Acv.wp _ (Qd w g s 0 ([s],[]) 0 [] 0) _;calc e4 (λq=>Qd w g s q.2 q.1 0 [] 0) (Aic g s) (λq=>5-q.2) (s0:=(([s],[]),0)) rfl {{{cw {CR,HL},λy h=>aF h▸{hs,d}},λy h=>.ba<|aF h,λy h=>Io.mpr h,az},az,az,C9 _,C9 _} λq AV I m=>?_;have f:=I.1.1.bj G;refine {f\∅,bV (p:=q.2<J q.1.1) (λc=>?_) λc=>{I.4\(Hd 360 I.5\∅),λx=>?_}}
 ·have i:=Cw c f;calc ac2 (B:=360*q.2) (y:=q.1.1.getD q.2 0) (ln:=q.1.1) (AF:=q.1.2) (q:=q.1) G c rfl (Hd 360 I.5\∅) {I.1.1,{[],(Ct _).symm,az},λx=>.inl,λx=>id,nofun,nofun,I.4} λj F=>m (j,q.2+1) ?_<|Rg i<|EM _;obtain⟨zs,e,o⟩:=F.2;have p:=F.1;have l:=F.5;rw[e] at p l;calc {e▸(I.1.aX c p o l),λx r=>(F.3 x r).elim (I.2 x) λh=>{_,I.1.2 _<|bJ c,h},λy b x h=>?_,F.7,i};have b:y∈j.1.take (q.2+1):=b;rw[e,qN c] at b;exact(aN b).elim (λb=>F.4 x<|I.3 y b x h) λe=>F.6 x<|aF e▸h
 ·rw[ac0 G.1.1.1 hs];calc {I.2 x,λt=>ae t λy h v=>I.3 y ?_ x v};rw[X3<|Mn c];calc(I.1.af c y).mpr h
end
def LN(g:AK)(m:-Bool×↑Nat×↑Nat)(EP c:HJ)(F3:Lh)(a b:Nat)(Ej:Bool×↑Nat×↑Nat)(i:Nat)(p:Nat×↑Nat)(IU:-Nat)(t:Nat)(d:Nat×Nat):Ao F8:=(g,Fm g,C5 g,E7 g,m.1,m.2.1,m.2.2,EP,c,F3,a,b,Ej,i,p,IU,t,d,[],())
abbrev ZC(w:Bk)(g:AK)(l:-Nat):HJ:=(l.filter λs=>decide<|g.Ad<=s).map λs=>(s,G5 w g<|DV g s)
def ZD(w:Bk)(g:AK)(s:Nat):Bool×↑Nat×↑Nat:=(N4 (CY g) s,G5 w g<|DF g.aa g.Ad s,G5 w g<|DV g s)
def dG{p A B:Prop}{i:Decidable p}(h:p)(k:B):if(!@decide p i)=Y then A else B:=by rw[@aJ p i h];calc k
def qR{α β g:Type}{a d:α}{b e:β}{c f:g}(Ag:a=d)(h:b=e)(i:c=f):(a,b,c)=(d,e,f):=by rw[Ag,h,i]
def dU{α:Type}{Al l xs:-α}{x:α}(e:Al++x::l=xs):J Al<=J xs:=by rw[<-e,BD];calc CD _ _
def jm{α:Type}{Al l xs:-α}{x:α}(e:Al++x::l=xs)(h:xs.Nodup):(Al++[x]).Nodup:=by rw[<-e,<-Aj2,<-Dr] at h;calc(dH h)
section
variable{a:Type}{f:Nat->a}{L:-Nat}{w:Bk}{k:Nat}{g:AK}{s t:Nat}{S:Nat->Prop}{m:-Bool×↑Nat×↑Nat}
def jn(b:(L++[s]).Nodup):B9 (L.map λs=>(s,f s)) s (f s)=(L++[s]).map λs=>(s,f s):=by
 have q:=cH b;rw[qz q.1,show IY L s=L++[s] from ai λh=>q.2.2 s h s (.head _) rfl];exact FI λx Z=>by
  by_cases h:x=s;·rw[ao h,h]
  ·rw[ai h]
def fV{d:-(Nat×a)}{v:a}:C1 (B9 d s v) s=U v:=hi s^ao rfl
def e8(G:Bt w g)(hs:s<J g.Aq):Nh.BZ (w^^k+1) (g,s,()) (·=(s:Int)):=
 (iY G.1.1.1.1.aB).aq λy e=>by
  have h:s∈g.Aq:=by rw[G.2];exact cV hs
  rw[ao h] at e;have:g.Aq.idxOf s=s:=by rw[G.2];have:=Z0.idxOf_getElem (xs:=Cg<|J g.Aq) s<|Gy.symm▸hs;rw[Z3] at this;exact this
  rw[e,this]
def ac4(n:Nat):MH (Cg n)=(Cg n).map λi=>(i,i):=Z2 (by rw[Bq,Bq,Fb]) λi a b=>by simp
def ac5(b:g.CA):(Cg<|J g.Aq).filter (λs=>decide<|g.Ad<=s)=Dt g:=by
 clear g _ b;have e:Cg (J g.Aq)=Cn 0 g.Ad++Cn g.Ad (J g.Aq-g.Ad):=by have:=Aj3 (s:=0) (m:=g.Ad) (n:=J g.Aq-g.Ad) (step:=1);rw[EV,kf,MV<|BY b.2] at this;rw[this,X7]
 rw[e,LZ,Pq.mpr λs h z=>bz (aL z)<|EV g.Ad▸(cJ h).2,Z8.mpr λs h=>aJ (cJ h).1];rfl
def ac6(h:∀x,S x↔x=s)(hs:s<J g.Aq):G5 w g S=[s]:=(dY λx q=>(h x).mp q▸hs).eq {ZT _ _,λx=>Io.trans (h x).symm}
def ac7(h:∀x,¬S x):G5 w g S=[]:=(dY λx q=>ar q<|h x).eq {.nil,λx=>{c3,λq=>ar q<|h x}}
def DV.ge{s x:Nat}(h:DV g s x):g.Ad<=s:=by induction h<;>assumption
def ac8(c:g.G3)(hs:s<J g.Aq)(b:s<g.Ad):ZD w g s=(Ab,[s],[]):=by unfold ZD;rw[ac6 (λx=>{λh=>h.low c b,λe=>by rw[e];calc .bS b}) hs,ac7 λx h=>bz h.ge b];calc LK (QA.mpr λz=>bz (c.aj<|cF.mp z) b) rfl
def AdD(g:AK)(m:-Bool×↑Nat×↑Nat):Prop:=Dy
 (GP g (CY g) m.1)
 (Se g (DF g.aa g.Ad) m.2.1)
 (Se g (DV g) m.2.2)
def ac9{P:FK F8 Aj}(G:Bt w g)(h:∀b,b=Ik w g->P.av (LN g m b [] [] 0 0 (Ab,[],[]) 0 (0,[]) [] 0 (0,0))):O1.wp (w^^k+7) (LN g m [] [] [] 0 0 (Ab,[],[]) 0 (0,[]) [] 0 (0,0)) P:=by clear w k g m P _ G h;calc c2 (t:=Ac) (xs:=Dt g) (λa=>LN g m (a.map λs=>(s,G5 w g<|DF g.aa g.Ad s)) [] [] 0 0 (Ab,[],[]) 0 (0,[]) [] 0 (0,0)) (λZ q=>{dZ G,(df (g:=g)).symm▸q}) rfl (λAl s l AV e c=>?_) (h _ rfl);have hs:=(cA G.1.1.1.1).mp<|e▸BH _ (.head _);rw[<-jn (jm e eg)] at c;calc(acO (k:=k+1) G hs.2).aq λAF F=>(jk (k:=k+6) G (λx d=>DQ ((F.2 x).mp d).lt G.1.1.1.1.2) F.2 F.1).aq λy A3=>?_;subst A3;calc {?_,c};rw[Bq];calc(dU e\cY G)\∅
def qS{P:FK F8 Aj}{b:HJ}(G:Bt w g)(M:AdD g m)(hs:s<J g.Aq)(h:P.av (LN g m (Ik w g) b [] s s (ZD w g s) 0 (0,[]) [] 0 (0,0))):O2.wp (w^^k+2) (LN g m (Ik w g) b [] s s (ZD w g s) 0 (0,[]) [] 0 (0,0)) P:=by clear w k g s m P b _ G M hs h;have aw:=G.1.1.1.1.aw hs;calc {{M.1.1.symm▸hs,aw},{M.2.1.symm▸hs,aw},(qE G (M.2.2 s)<|M.2.3 s).aq λy e=>{{M.3.1.symm▸hs,aw},(qE G (M.3.2 s)<|M.3.3 s).aq λz A3=>dG ?_ h}};calc(qR (hq<|M.1.2 s) e A3)
def ada{P:FK F8 Aj}{W:Bk}{b:HJ}{Ej:Bool×↑Nat×↑Nat}(G:Bt w g)(t:g.Ad<=s)(hs:s<J g.Aq)(c:C1 b s=U (G5 w g<|DV g s))(h:P.av (LN g m (Ik w g) b [] s s (ZD w g s) 0 (0,[]) [] 0 (0,0))):Acw.wp W (LN g m (Ik w g) b [] s s Ej 0 (0,[]) [] 0 (0,0)) P:=
 {_,cu G.1.1.1.1 t hs,_,cu G.1.1.1.1 t hs,_,c,h}
def adb{P:FK F8 Aj}(G:Bt w g)(M:AdD g m)(h:∀d,d=GR g (λs=>G5 w g<|DV g s)->P.av (LN g m (Ik w g) d [] 0 0 (Ab,[],[]) 0 (0,[]) [] 0 (0,0))):Acy.wp (w^^k+7) (LN g m (Ik w g) [] [] 0 0 (Ab,[],[]) 0 (0,[]) [] 0 (0,0)) P:=by
 clear w k g m P _ G M h;calc ji (t:=A0 O Ac) (λi:Nat=>(i,i)) (xs:=Cg<|J g.Aq) (λa=>LN g m (Ik w g) (ZC w g a) [] 0 0 (Ab,[],[]) 0 (0,[]) [] 0 (0,0)) (λQ q=>{G.1.1.1.1.aB,?_}) rfl (λAl s l AV e b=>?_) (h _<|ah (Hs _)<|ac5 G.1.1.1.1);·show Q (MH g.Aq);rw[G.2,ac4];exact q
 have hs:s<J g.Aq:=cU<|e▸BH _ (.head _);have b:AV (LN g m (Ik w g) (ZC w g<|Al++[s]) [] 0 0 (Ab,[],[]) 0 (0,[]) [] 0 (0,0)):=b;unfold ZC at b;rw[LZ,fW] at b;show Acx.wp _ (LN g m (Ik w g) (ZC w g Al) [] s s (Ab,[],[]) 0 (0,[]) [] 0 (0,0)) _;refine bH (z:=(C1 (C5 g) s).isSome) (λc=>?_) λc=>?_
 ·rw[de G.1.1.1.1 hs] at c;have t:=aL c;rw[ao c,<-jn ?_] at b;·calc(ac3 (k:=k+5) G t hs).aq λAF F=>(jk (k:=k+6) G (λx j=>DQ ((F.2 x).mp j).lt G.1.1.1.1.2) F.2 F.1).aq λy A3=>?_;subst A3;calc {?_,ada (Ej:=(Ab,[s],[])) G t hs fV<|qS (k:=k+5) G M hs b};show AP (Hs _<|SU _ Al).length;exact cR\(dU e\(by rw[Gy];calc G.1.1.1.1.aB))
  ·have:=(jm e Z0).filter λs=>decide<|g.Ad<=s;rw[LZ,fW,ao c] at this;exact this
 ·rw[de G.1.1.1.1 hs] at c;rw[ai<|QA.mp c,Ct] at b;show O2.wp _ (LN g m (Ik w g) (ZC w g Al) [] s s (Ab,[s],[]) 0 (0,[]) [] 0 (0,0)) _;rw[<-(ac8 (w:=w) G.1.1.1 hs<|NA<|b2 c)];calc qS (k:=k+5) G M hs b
end
section
variable{w:Bk}{k i b:Nat}{g:AK}{m:-Bool×↑Nat×↑Nat}{d:Lh}{F:Nat×Nat->↑Nat}{r:Bp}
abbrev LP(w:Bk)(g:AK)(m:-Bool×↑Nat×↑Nat)(d:Lh)(i:Nat)(p:Nat×↑Nat)(IU:-Nat)(t:Nat)(a:Nat×Nat):Ao F8:=LN g m (Ik w g) (GR g λs=>G5 w g<|DV g s) d 0 0 (Ab,[],[]) i p IU t a
def ade(T:FY F b d)(f:AP b)(c:AP (F a).length)(h:P.av (LP w g m (B9 d a<|F a++[i]) i p IU t a)):Acz.wp W (LP w g m d i p IU t a) P:=by
 have e:(C1 d a).getD []=F a:=by rw[T.2,qe]
 rw[<-e] at h c;calc {{c,dd},T.3\f,h}
def adf(G:Bt w g)(a:r.l<J g.Aq)(c:t<J g.Aq)(T:FY F b d)(f:AP b)(j:AP (F (r.l,t)).length)(h:P.av (LP w g m (B9 d (r.l,t)<|F (r.l,t)++[i]) i (r.l,r.r) IU t (r.l,t))):O3.wp (w^^k+1) (LP w g m d i (r.l,r.r) IU t o) P:=
 (e8 G a).aq λy e=>{_,e,(e8 G c).aq λz a=>{_,a,ade T f j h}}
def HE.bR(a:g.CA)(h:HE g r x):x<J g.Aq:=DQ h.lt a.2
def qT(G:Bt w g)(p:r.l<J g.Aq)(hs:∀x,x∈IU↔HE g r x)(s:AP (J IU))(T:FY F b d)(u:AP (b+5))(A:∀key,(F key).length<=999999)(h:∀o xs,(∀t,t∈xs↔HE g r t)->FY (λa=>F a++Li a (r,i) xs) (b+5) o->P.av (LP w g m o i (r.l,r.r) IU 0 (0,0))):AcA.wp (w^^k+2) (LP w g m d i (r.l,r.r) IU 0 (0,0)) P:=by
 have f:=dY (w:=w) (g:=g) (S:=HE g r) λx h=>h.bR G.1.1.1.1;have j:=hr (w:=w) (g:=g) (S:=HE g r) (λx h=>h.lt) (BY G.1.1.1.1.2)\G.1.5;refine b1 (t:=Ac) (xs:=G5 w g<|HE g r) (λd=>LP w g m d i (r.l,r.r) IU 0 (0,0)) (λa d=>FY (λb=>F b++Li b (r,i) a) (b+J a) d) (λQ q=>(jk (k:=k+1) G (λx B=>((hs x).mp B).bR G.1.1.1.1) hs s).aq λy e=>{e▸Ka j ∅,e▸q}) rfl ?_ (λzs t l d AV e c C=>?_) λd c=>h d _ f.2 {c.1,c.2,c.3\Du j _}
 ·have:(λa=>F a++Li a (r,i) [])=F:=funext λa=>(ah (F a++·)<|ai λz=>CR z.2).trans<|Ct _;rw[this];exact T
 have D:t∉zs:=λq=>by have:=f.ab;rw[<-e] at this;exact(dI this) t q t (.head _) rfl
 show O3.wp _ (LP w g m d i (r.l,r.r) IU t (0,0)) _;refine adf (k:=k+1) G p (((f.2 t).mp<|e▸BH _ (.head _)).bR G.1.1.1.1) c (Du (dU e\j) _\u) ?_<|C _ ?_
 ·show AP (F _++Li _ (r,i) zs).length;rw[BD];calc EL (A _) (?_:_<=1)\CE _;unfold Li;split;·exact CE _
  ·exact C9 _
 ·have:=c.ct (a:=(r.l,t)) (i:=i);rw[El,<-Pl,<-BD] at this;calc {this.1,λa=>(this.2 a).trans<|ah I7 (by show F a++_++_=F a++_;rw[Dr,qh D]),this.3}
def adg(G:Bt w g)(f:r∈g.aa)(T:FY F b d)(j:AP (b+5))(p:∀key,(F key).length<=999999)(h:∀a xs IU,(∀t,t∈xs↔HE g r t)->FY (λa=>F a++Li a (r,i) xs) (b+5) a->P.av (LP w g m a i (r.l,r.r) IU 0 (0,0))):O4.wp (w^^k+2) (LP w g m d i (r.l,r.r) [] 0 (0,0)) P:=by
 clear w k i b g m d F r P _ G f T j p h;have o:=G.1.1.1.1.4 r f;have e:=G.1.3 r f;have u:=hr (w:=w) (g:=g) (S:=DV g r.l) (λx h=>h.lt) (BY G.1.1.1.1.2)\G.1.5;refine(qL (k:=k+1) G o.2 e).aq λAG Bu=>(ht (k:=k+1) G.1.1.1 o.2<|e\∅).aq λz y=>bH (z:=z) (λc=>?_) λc=>?_
 ·have A:AP (J AG):=Bu.3\(Lr 5 e\∅);calc {_,cu G.1.1.1.1 (G.1.1.1.2 r f) o.1,{A,u\∅},qT (IU:=AG++G5 w g (DV g r.l)) G o.1 (λx=>?_) ?_ T j p λa b q s=>h a b _ q s};·rw[Mj,(dY (w:=w) (g:=g) (S:=DV g r.l) λx h=>DQ h.lt G.1.1.1.1.2).2];exact or_congr {Bu.1 x,Bu.2 x}<|(and_iff_right<|y.mp c).symm
  ·rw[BD];exact EL (Bu.3\Lr 5 e) u\∅
 ·calc qT (IU:=AG) G o.1 (λx=>{λh=>.inl<|Bu.1 x h,λh=>h.elim (Bu.2 x) λh=>Bool.noConfusion<|c.symm^y.mpr h.1}) (Bu.3\(Lr 5 e\∅)) T j p λa b q s=>h a b _ q s
def adh(G:Bt w g)(h:∀d,FY (Fx g g.aa.zipIdx) 40 d->P.av (LP w g m d 0 (0,[]) [] 0 (0,0))):AcB.wp (w^^k+2) (LP w g m [] 0 (0,[]) [] 0 (0,0)) P:=by
 have c:J g.aa.zipIdx<=8:=by rw[Fb];exact G.10
 calc fX (λp:Bp×Nat=>(p.2,p.1.l,p.1.r)) (λd=>LP w g m d 0 (0,[]) [] 0 (0,0)) (λa d=>FY (Fx g a) (5*J a) d) (λQ q=>{Di (Bq ..)\(G.10\∅),hp▸q}) rfl {HL,λa=>rfl,C9 _} (λAl p l d AV e T j=>?_) λd T=>h d {T.1,T.2,T.3\Hd 5 c};have f:=dU e\c;show O4.wp _ (LP w g m d p.2 (p.1.l,p.1.r) [] 0 (0,0)) _;calc adg G (bX<|e▸BH _ (.head _)) T (G8 (Hd 5 f) 5\∅) (λa=>hk\(f\∅)) λo b c s a=>j o {a.1,λb=>a.2 b^ah I7 (qi s b),by rw[BD];calc a.3}
def adi(G:Bt w g)(T:FY (Fx g g.aa.zipIdx) 40 d):AcC.wp (w^^k+7) (LP w g m d 0 (0,[]) [] 0 (0,0)) (Cp (·=Y)):=by
 clear w k g m d _ G T;have a:J d<64:=DG T.3 ∅;calc {BY a\∅,{T.1,by rw[Bq];calc a},λag S=>?_};have Ax:J ag<64:=by rw[S.1.length_eq,Bq];exact a
 have f:AP (J ag):=BY Ax\∅;have mem:∀key,key∈ag↔Fx g g.aa.zipIdx key≠[]:=λa=>S.1.mem_iff.trans<|T.jh a;refine {f,f,λ(a:Nat×Nat)=>decide<|1<(Fx g g.aa.zipIdx a).length,λa=>(a.1,a.2,Fx g g.aa.zipIdx a),λ(key:Nat×Nat) l=>?_,?_}
 ·have e:C1 d key=U (Fx g g.aa.zipIdx key):=T.2 key^ai ((mem key).mp l);exact {{_,e,(λa=>hk\G.1.1.1.1.bA) key,rfl},λZ=>{_,e,rfl}}
 have C:P8 (Fx g g.aa.zipIdx) ((ag.filter λk=>decide<|1<(Fx g g.aa.zipIdx k).length).map λk=>(k.1,k.2,Fx g g.aa.zipIdx k)):={ag,S.1.nodup_iff.mpr T.1,S.2,mem,rfl}
 calc(hl (k:=k+2) G.1).aq λo p=>bO (z:=J8 (Ds AZ AZ) (CZ D0) o d) (λZ=>?_) λc=>Bool.noConfusion<|c.symm^p.b7 T;calc(qk (k:=k+1) G.1).aq λy h=>bO (λZ=>?_) λc=>ar (h.ee C)<|b2 c;calc(ql (k:=k) G.1).aq λb h=>h.elim λz j=>aJ<|j.2^cX (by rw[j.1.ee C];calc Wg)
def adj(G:Bt w g):Uq.BZ (w^^k+8) (g,Fm g,C5 g,E7 g,()) (·=Y):=by
 clear w k g _ G;calc aY aaK ((e3 G.1.1.1.1).aq λaj a=>(i4 G.1.1.1.1).aq λDB c=>(pM G.1.1.1).aq λB0 f=>by show O1.wp _ (LN g (aj,DB,B0) [] [] [] 0 0 (Ab,[],[]) 0 (0,[]) [] 0 (0,0)) (IQ AcD _ _);calc ac9 G λh e=>?_;subst e;calc adb G {a,c,f} λj e=>?_;subst e;calc adh G λd T=>adi G T)
end
section
variable{s:Nat}
def G6.aH(h:G6 E (E a) b)(q:G6 E B a):G6 E B b:=by
 cases h with
 |ba h=>calc .aU q h|aU _ h c=>calc .aU c h
def adk(c:∀p q,E p q->q<N):F9 E N a b↔G6 E (E a) b:=by
 constructor
 ·intro h;cases h with
  |P1 h=>calc .ba h|CQ _ _ _ e f=>exact f.aH e
 ·intro h;have:b<N/\F9 E N a b:=by
   cases h with
   |ba h=>calc {c _ _ h,.P1 h}|aU _ h d=>exact {c _ _ h,.CQ d.2 d.1<|.P1 h}
  calc this.2
def adl(e:∀p q,E p q->Ad<=p/\q<N)(c:Ad<=b):F9 E N a b↔G6 (λp q=>E p q/\Ad<=q) (λq=>E a q/\Ad<=q) b:=by
 rw[adk λp q h=>(e p q h).2];constructor
 ·intro h;cases h with
  |ba h=>calc .ba {h,c}|aU _ h d=>exact .aU (d (e _ _ h).1) {h,c}
 ·intro h;clear c;cases h with
  |ba h=>calc .ba h.1|aU _ h d=>calc .aU d h.1
end
def Md(g:AK)(E:Nat->Nat->Prop)(Al:-Nat)(d:HJ):Prop:=d.map (·.1)=Al/\∀s∈Al,∃l,C1 d s=U l/\ET g l/\∀y,y∈l↔E s y
def AaF(d:HJ)(s:Nat)(q:-Nat×Nat):Ao Xs:=(d,s,q.1,q.2,())
section
variable{w:Bk}{k:Nat}{g:AK}{E:Nat->Nat->Prop}{d:HJ}{xs:-Nat}
def ET.adm(p:ET g ln)(h:ET g xs):ET g (ln++xs.filter λy=>!decide (y∈ln)):={cv {p.1,h.1.filter _,λy a z b e=>b2 (EJ _▸(kP b))<|e▸a},λy a=>(aN a).elim (p.2 y) λa=>h.2 y<|dt a}
def adn:y∈ln++xs.filter (λy=>!decide (y∈ln))↔y∈ln\/y∈xs:=by rw[Mj,SD,EJ,decide_eq_false_iff_not];calc {λh=>h.imp id Z5,λh=>X9 .inl λn=>.inr {h.resolve_left n,n}}
def ado(G:Bt w g)(f:Md g E (Dt g) d)(r:∀p q,E p q->g.Ad<=q/\q<J g.Aq)(hs:s∈Dt g):Oy.BZ (w^^k+1) (d,s,()) λb=>b=Y↔G6 E (E s) s:=by
 clear w k g E d s _ G f r hs;have a:∀{l},ET g l->AP (J l):=λp=>p.bj G\∅;obtain⟨t,u,i,j⟩:=f.2 s hs;calc aY aaZ {_,u,a i,?_};show AcE.wp _ (AaF d s (t,0)) _;refine e4 (AaF d s) (λq=>Sp g E (E s) q.1 q.2) (λq=>5-q.2) rfl {i,λy h=>.ba<|(j y).mp h,λy h=>(j y).mpr h,az} λq AV I x=>{a I.1,bV (λc=>?_) λc=>bB.trans<|I.af c s}
 have o:=Cw c<|I.1.bj G;obtain⟨l,e,p,m⟩:=f.2 (q.1.getD q.2 0)<|(cA G.1.1.1.1).mpr<|I.1.2 _<|bJ c;calc {{c,DQ o (by show 5<1000000;decide)},_,e,a p,a p,λ(y:Nat)=>!decide (y∈q.1),id,λy Z=>{rfl,λZ=>rfl},{a I.1,?_},?_};·show AP (((l.filter _).map id).length);exact cR\a p
 ·show AV (AaF d s (q.1++(l.filter λy=>!decide (y∈q.1)).map id,q.2+1));rw[EW];calc x (_,q.2+1) (I.aX c (I.1.adm p) (λz A=>(m z).mp<|dt A) λz h=>adn.mpr<|.inr<|(m z).mpr h)<|Rg o<|EM _
end
def qW{x:Nat}{Q:-Nat->↑Nat->Prop}:(∃i,i<J w/\w.getD i 0=x/\Q (w.take i) (w.drop<|i+1))↔∃pre post,w=pre++x::post/\Q pre post:=by
 clear w x Q _;constructor
 ·rintro ⟨i,a,Ag,b⟩
  calc {w.take i,w.drop<|i+1,?_,b};have:w[i]=x:=by rw[CO,Dv a] at Ag;exact Ag
  rw[<-this,<-WB a,ky]
 ·rintro ⟨pre,post,rfl,h⟩
  calc {J pre,by rw[BD,Gb];calc Pm<|F0 _,?_,?_};·rw[CO,Qz<|CE _,WH];rfl
  ·rw[Aj4,tR,Vt<|Ex _,SJ];calc h
def hv:∀{w:-Nat},BV N (λb x=>x=b) w x↔∃pre post,w=pre++x::post/\∀v∈pre,N v
 |[]=>{λh=>ar h BV.nil,λc=>bP c λZ Z e Z=>ar e.symm (Yg _<|Wy _ _)}
 |a::w=>{λh=>(BV.cons.mp h).elim (λe=>{[],w,by rw[e];rfl,az}) λh=>(hv.mp h.2).elim λpre c=>ae c λpost e q=>{a::pre,post,by rw[e];rfl,b9 {h.1,q}},λc=>bP c λpre post e q=>e▸BV.i2 q rfl}
def adp(Ah:-Nat):MH Ah=(Cn 0<|J Ah).map λj=>(j,Ah.getD j 0):=by
 clear Ah _;exact Z2 (by simp) λi c a=>by
  have b:i<J Ah:=by simpa using a
  simp [CO,Dv b]
def HO(g:AK)(Q:-Nat->↑Nat->Prop)(Ah:-Nat)(i y:Nat):Prop:=g.Ad<=y/\∃j,j<i/\Ah.getD j 0=y/\Q (Ah.take j) (Ah.drop<|j+1)
abbrev XG(g:AK)(a b:-Nat):Prop:=∀v∈a,CY g v
abbrev ZE(g:AK)(a b:-Nat):Prop:=∀v∈a++b,CY g v
def T5(g:AK)(a b:Nat):Prop:=Adw g a b/\g.Ad<=b
def T6(g:AK)(a b:Nat):Prop:=Adv g a b/\g.Ad<=b
def GS(g:AK)(al le:HJ)(s i:Nat)(Ah:-Nat)(j y:Nat)(Ej:↑↑Nat)(st:HJ):Ao IW:=(g,C5 g,E7 g,al,le,s,i,Ah,j,y,Ej,st,())
def Qe(g:AK)(A L:Nat->Prop)(q:-Nat×↑Nat):Prop:=He
 (ET g q.1)
 (ET g q.2)
 (∀y,y∈q.1↔A y)
 (∀y,y∈q.2↔L y)
section
variable{w:Bk}{k:Nat}{g:AK}{A L:Nat->Prop}{a f:HJ}{s i j:Nat}{l Ah Cs:-Nat}
def qX{A:Prop}(o:g.CA)(p:y<J g.Aq)(e:C1 d s=U l)(q:(∀b:Bool,(b=Y↔Hx)->if b=Y then A else C)->R)(r:g.Ad<=y->y∉l->Hx->A)(h:¬(g.Ad<=y/\y∉l/\Hx)->C):E2 .And (C1 (C5 g) y).isSome (∃l,C1 d s=U l/\E2 .And (!decide (y∈l)) R λb=>if b=Y then A else C) λb=>if b=Y then A else C:=by rw[de o p];calc bO (λt=>{l,e,bO (λn=>q λb m=>bH (λc=>r (aL t) (b2<|EJ _▸n)<|m.mp c) λc=>h λz=>Bool.noConfusion<|c.symm^m.mpr z.2.2) λn=>h λz=>z.2.1<|aL<|WI _▸n}) λt=>h λz=>b2 t z.1
def qK:HO g Q Ah (i+1) y↔HO g Q Ah i y\/g.Ad<=y/\Ah.getD i 0=y/\Q (Ah.take i) (Ah.drop<|i+1):=by unfold HO;rw[fU,and_or_left]
def qZ(p:ET g l)(m:∀z,z∈l↔A z\/HO g Q Ah i z)(b:Ah.getD i 0=y)(c:y<J g.Aq)(t:g.Ad<=y)(n:y∉l)(z:Q (Ah.take i) (Ah.drop<|i+1)):ET g (l++[y])/\∀z,z∈l++[y]↔A z\/HO g Q Ah (i+1) z:=⟨p.bN {t,c} n,λx=>by rw[Mj,Io,m,or_assoc,qK];calc or_congr_right<|or_congr_right {λe=>e▸{t,b,z},λh=>h.2.1.symm^b}⟩
def qY(m:∀z,z∈l↔A z\/HO g Q Ah i z)(b:Ah.getD i 0=y)(n:¬(g.Ad<=y/\y∉l/\Q (Ah.take i) (Ah.drop<|i+1)))(x:Nat):x∈l↔A x\/HO g Q Ah (i+1) x:=by rw[qK,<-or_assoc,<-m];calc {.inl,λh=>h.elim id λc=>cT c λt e q=>?_};have e:=b.symm^e;calc sv λz=>n {e▸t,e▸z,q}
def adq{P:FK IW Aj}{Ej:↑↑Nat}{st:HJ}(G:Bt w g)(e:∀v∈Ah,v<J g.Aq)(o:J Ah<=3)(B:j<J Ah)(M:AP (J a)/\AP (J f))(C:∀l,AP (B9 a s l).length)(D:∀l,AP (B9 f s l).length)(I:Qe g (λy=>A y\/HO g (ZE g) Ah j y) (λy=>L y\/HO g (XG g) Ah j y) (Cs,c))
  (h:∀Cs c,Qe g (λy=>A y\/HO g (ZE g) Ah (j+1) y) (λy=>L y\/HO g (XG g) Ah (j+1) y) (Cs,c)->P.av (GS g (B9 a s Cs) (B9 f s c) s i Ah j (Ah.getD j 0) Ej st)):O5.wp (w^^k+1) (GS g (B9 a s Cs) (B9 f s c) s i Ah j (Ah.getD j 0) Ej st) P:=by
 clear w k g A L a f s _ i j Ah Cs c P Ej st _ G e o B M C D I h;have r:=e _<|bJ (d:=0) B;have E:∀{l:-Nat},J l<=5->AP (J l):=λh=>h\∅;have u:AP (J Ah):=o\∅;have DN:(Ah.take j).length<=3:=(by rw[WA];calc Vb _ _)\o;have F:(Ah.drop<|j+1).length<=3:=(by rw[X4];calc QC _ _)\o;have H:∀v∈Ah.take j,v<J g.Aq:=λv h=>e v<|tS h;have go:∀c,ET g c->(∀x,x∈c↔L x\/HO g (XG g) Ah (j+1) x)->AcF.wp (w^^k+1) (GS g (B9 a s Cs) (B9 f s c) s i Ah j (Ah.getD j 0) Ej st) P:=λc p m=>by calc qX (Hx:=ZE g (Ah.take j)<|Ah.drop<|j+1) G.1.1.1.1 r fV (λq=>{u,u,{DN\∅,F\∅},(ht (k:=k) G.1.1.1 (Ah:=Ah.take j++Ah.drop (j+1)) (λv a=>(aN a).elim (H v)<|(λv h=>e v<|Aj1 h) v) (by rw[BD];calc EL DN F\∅)).aq q}) (λt n z=>{_,fV,{E<|I.1.bj G,dd},C _,?_}) λn=>h _ _ {I.1,p,qY I.3 rfl n,m};have N:=qZ I.1 I.3 rfl r t n z;have:=h _ _ {N.1,p,N.2,m};rw[<-jf (AE:=a) (b:=Cs)] at this;exact this
 calc qX (Hx:=XG g (Ah.take j)<|Ah.drop<|j+1) G.1.1.1.1 r fV (λq=>{u,(ht (k:=k) G.1.1.1 H<|DN\∅).aq q}) (λt n z=>{_,fV,{E<|I.2.bj G,dd},D _,?_}) λn=>go _ I.2<|qY I.4 rfl n;have N:=qZ I.2 I.4 rfl r t n z;have:=go _ N.1 N.2;rw[<-jf (AE:=f) (b:=c)] at this;calc this
end
section
variable{w:Bk}{k:Nat}{g:AK}{E:Nat->Nat->Prop}{c o:HJ}{s:Nat}{P:FK IW Aj}{Ej:↑↑Nat}{st:HJ}
def Qe.ax(I:Qe g A L q)(Ag:∀y,A y↔a y)(b:∀y,L y↔d y):Qe g a d q:={I.1,I.2,λy=>(I.3 y).trans<|Ag y,λy=>(I.4 y).trans<|b y}
def qU:¬HO g Q Ah 0 y:=λh=>h.2.elim λj h=>I2 _ h.1
def ads:HO g (ZE g) Ah (J Ah) y↔TO g Ah y/\g.Ad<=y:=by unfold HO;rw[qW,and_comm];calc and_congr_left λZ=>exists_congr λa=>exists_congr λb=>and_congr_right λZ=>List.forall_mem_append
def adt:HO g (XG g) Ah (J Ah) y↔BV (CY g) (λb x=>x=b) Ah y/\g.Ad<=y:=by unfold HO;rw[qW,and_comm,hv]
def adu(G:Bt w g)(p:∀v∈Ah,v<J g.Aq)(d:J Ah<=3)(f:∀l,AP (B9 c s l).length)(m:∀l,AP (B9 o s l).length)(I:Qe g A L q)
  (h:∀q,Qe g (λy=>A y\/TO g Ah y/\g.Ad<=y) (λy=>L y\/BV (CY g) (λb x=>x=b) Ah y/\g.Ad<=y) q->P.av (GS g (B9 c s q.1) (B9 o s q.2) s i Ah 0 0 Ej st)):O6.wp (w^^k+1) (GS g (B9 c s q.1) (B9 o s q.2) s i Ah 0 0 Ej st) P:=by
 refine fX (λj=>(j,Ah.getD j 0)) (λq=>GS g (B9 c s q.1) (B9 o s q.2) s i Ah 0 0 Ej st) (λa q=>Qe g (λy=>A y\/HO g (ZE g) Ah (J a) y) (λy=>L y\/HO g (XG g) Ah (J a) y) q) (λQ q=>{d\∅,(adp Ah).symm▸q}) rfl (I.ax (λy=>(or_iff_left qU).symm) λy=>(or_iff_left qU).symm) (λa j l q AV e I r=>?_) λq I=>?_
 ·obtain⟨rfl,lt⟩:=pG e;show O5.wp _ (GS g (B9 c s q.1) (B9 o s q.2) s i Ah (J a) (Ah.getD (J a) 0) Ej st) _;refine adq G p d lt {?_\f [],?_\m []} f m I λCs t I=>r (Cs,t) ?_
  ·rw[<-Bq (·.1),<-Bq (as:=B9 c s []) (·.1),dr]
   split
   ·exact CE _
   ·rw[BD];exact CD _ _
  ·rw[<-Bq (·.1),<-Bq (as:=B9 o s []) (·.1),dr]
   split
   ·exact CE _
   ·rw[BD];exact CD _ _
  ·rw[BD];exact I
 ·rw[H6] at I;calc h q<|I.ax (λy=>or_congr_right ads) λy=>or_congr_right adt
def adv(G:Bt w g)(hs:g.Ad<=s/\s<J g.Aq)(m:∀l,AP (B9 c s l).length)(p:∀l,AP (B9 o s l).length)(h:∀q,Qe g (T5 g s) (T6 g s) q->P.av (GS g (B9 c s q.1) (B9 o s q.2) s 0 [] 0 0 Ej st)):O7.wp (w^^k+1) (GS g (B9 c s []) (B9 o s []) s 0 [] 0 0 Ej st) P:=by
 clear w k g c o s P Ej st _ G hs m p h;have u:ET g []:={HL,az}
 refine b1 (t:=A0 O<|Ar Ac) (xs:=EH g s) (λq=>GS g (B9 c s q.1) (B9 o s q.2) s 0 [] 0 0 Ej st) (λa q=>Qe g (λy=>∃e∈a,TO g e.2 y/\g.Ad<=y) (λy=>∃e∈a,BV (CY g) (λb x=>x=b) e.2 y/\g.Ad<=y) q) (s0:=([],[])) (λZ q=>{_,cu G.1.1.1.1 hs.1 hs.2,fK G\∅,q}) rfl {u,u,λy=>{c3,λh=>h.elim λZ h=>ar h.1 CR},λy=>{c3,λh=>h.elim λZ h=>ar h.1 CR}} (λAE e l q AV z I A=>?_) λq I=>h q<|I.ax (λy=>?_) λy=>?_
 ·have a:=G.cE (z▸BH _ (.head _):e∈EH g s);show O6.wp _ (GS g (B9 c s q.1) (B9 o s q.2) s e.1 e.2 0 0 Ej st) _;exact adu G a.2 a.1 m p I λq I=>A q<|I.ax (λy=>dq.symm) λy=>dq.symm
 ·exact {λd=>aE d λe a q t=>(ez G a).elim λr h=>{{r,h.1,h.2.1.symm,h.2.2.symm▸q},t},λ⟨⟨r,f,e,q⟩,t⟩=>(e7 f).elim λi j=>{_,e.symm▸j,q,t}}
 ·calc {λd=>aE d λe a q t=>(ez G a).elim λr h=>{{r,h.1,h.2.1.symm,h.2.2.symm▸q},t},λ⟨⟨r,f,e,q⟩,t⟩=>(e7 f).elim λi j=>{_,e.symm▸j,q,t}}
def Md.bj(h:Md g E Al d):J d=J Al:=(Bq (·.1)).symm^ah J h.1
def Md.aB(G:Bt w g)(h:Md g E Al d)(a:J Al<=5)(l:-Nat):AP (B9 d s l).length:=qd\(h.bj▸Ka (GX a) ∅)
def Md.ct(h:Md g E Al d)(a:(Al++[s]).Nodup)(p:ET g l)(m:∀y,y∈l↔E s y):Md g E (Al++[s]) (B9 d s l):=by
 calc {by rw[dr,h.1,ai λq=>(dI a) s q s (.head _) rfl],λx b=>?_};rw[hi];by_cases e:x=s;·rw[ao e,e];exact {l,rfl,p,m}
 ·rw[ai e];calc h.2 x<|(aN b).resolve_right λz=>e<|aF z
def adw(G:Bt w g)(h:∀al le,Md g (T5 g) (Dt g) al->Md g (T6 g) (Dt g) le->P.av (GS g al le 0 0 [] 0 0 [] [])):O8.wp (w^^k+1) (GS g [] [] 0 0 [] 0 0 [] []) P:=by calc b1 (t:=Ac) (xs:=Dt g) (λq:HJ×HJ=>GS g q.1 q.2 0 0 [] 0 0 [] []) (λa q=>Md g (T5 g) a q.1/\Md g (T6 g) a q.2) (s0:=([],[])) (λZ q=>{dZ G,(df (g:=g)).symm▸q}) rfl {{rfl,az},rfl,az} (λAl s l q AV e I b=>?_) λq I=>h q.1 q.2 I.1 I.2;have a:=dU e\cY G;have aB:AP (J Al):=a\∅;have ab:=jm e eg;calc {I.1.bj▸aB,I.2.bj▸aB,?_};show O7.wp _ (GS g (B9 q.1 s []) (B9 q.2 s []) s 0 [] 0 0 [] []) _;calc adv G ((cA G.1.1.1.1).mp<|e▸BH _ (.head _)) (I.1.aB G a) (I.2.aB G a) λd R=>b (_,_) {I.1.ct ab R.1 R.3,I.2.ct ab R.2 R.4}
def Ss(g:AK)(E:Nat->Nat->Prop):-Nat:=(Dt g).filter<|N4 λs=>G6 E (E s) s
def adx{st:HJ}(G:Bt w g)(d:Md g E (Dt g) st)(i:∀p q,E p q->g.Ad<=q/\q<J g.Aq)(j:AP (J Ej))(h:P.av (GS g al le 0 0 [] 0 0 (Ej++[Ss g E]) st)):O9.wp (w^^k+2) (GS g al le 0 0 [] 0 0 Ej st) P:=by clear w k g E P Ej al le st _ G d i j h;have e:((Dt g).filter<|N4 λs=>G6 E (E s) s).map id=Ss g E:=EW _;calc {dZ G,?_};show AP ((GR g<|EH g).map (·.1)).length/\_;rw[df];calc⟨(cY G\∅),N4 λs=>G6 E (E s) s,id,λ(s:Nat) a=>have a:s∈Dt g:=df (g:=g) (f:=EH g)▸a;{(ado G d i a).aq λb m=>hq m,λZ=>(e8 G ((cA G.1.1.1.1).mp a).2).aq λy e=>{s,e,rfl}},?_⟩;calc(ah (λl:-Nat=>(l.Nodup/\J l<64)/\∀Al,Tv (λa b:Nat=>decide<|a<b) l Al->AP (J Ej)/\P.av (GS g al le 0 0 [] 0 0 (Ej++[Al]) st)) e).mpr<|{{eg.filter _,DG (Ro _ _\cY G) ∅},λAl S=>{j,?_}};rw[eJ iv S.2 ((List.Pairwise.filter _<|List.pairwise_lt_range' ..).imp λh=>aJ h) S.1];calc h
def ady(d:g.CA)(p q:Nat)(h:T5 g p q):g.Ad<=q/\q<J g.Aq:=⟨h.2,let⟨r,f,_,a,b,e,_⟩:=h.1;(d.4 r f).2 q (e▸BH _ (.head _))⟩
def adz(d:g.CA)(p q:Nat)(h:T6 g p q):g.Ad<=q/\q<J g.Aq:={h.2,aE h.1 λr i Z f=>bP (hv.mp f) λa b e Z=>(d.4 r i).2 q<|e▸BH _ (.head _)}
def qV(a:∀p q,F p q->g.Ad<=p/\q<J g.Aq)(h:UW g F y):y=Ss g λp q=>F p q/\g.Ad<=q:=by calc ae h λp b d=>?_;subst d;calc SO λs c=>hq<|(b s).trans<|adl a (cJ c).1
def adA(G:Bt w g):Aaa.wp (w^^k+3) (GS g al le 0 0 [] 0 0 [Ss g<|T5 g,Ss g<|T6 g] []) (Cp (·=Y)):=by clear w k g al le _ G;calc(ace (k:=k) G.1.1.1.1).aq λy i=>(aca (k:=k) G.1.1.1.1).aq λz j=>?_;have AW:y=Ss g (T5 g):=qV (λp q ⟨r,d,e,a,b,h,_⟩=>{e▸G.1.1.1.2 r d,(G.1.1.1.1.4 r d).2 q<|h▸BH _ (.head _)}) i;have A3:z=Ss g (T6 g):=qV (λp q l=>aE l λr d e f=>bP (hv.mp f) λa b h Z=>{e▸G.1.1.1.2 r d,(G.1.1.1.1.4 r d).2 q<|h▸BH _ (.head _)}) j;subst AW A3;calc aJ rfl
def adB(G:Bt w g):Ur.BZ (w^^k+4) (g,C5 g,E7 g,()) (·=Y):=by
 clear w k g _ G;calc aY aaY ?_;show O8.wp _ (GS g [] [] 0 0 [] 0 0 [] []) (IQ (sq (Bi 10<|C4 ⇑O) AcH) _ _);calc adw (k:=k+2) G λal le f i=>?_;show AcG.wp _ (GS g al le 0 0 [] 0 0 [] []) (IQ Aaa _ _);refine fX (t:=AQ A7 ⇑Ac) (λp:HJ×(Nat->Nat->Prop)=>p.1) (xs:=[(al,T5 g),(le,T6 g)]) (λa=>GS g al le 0 0 [] 0 0 a []) (λa b=>b=a.map λp=>Ss g p.2) (s0:=[]) (λZ q=>{by show AP 2;calc(by decide:2<=3)\∅,q}) rfl rfl (λAl ⟨st,E⟩ l Ej AV e I j=>?_) λEj I=>?_
 ·have d:Md g E (Dt g) st/\∀a b,E a b->g.Ad<=b/\b<J g.Aq:=by
   rcases aK (e▸BH _ (.head _)) with h|h
   ·delta h;exact {f,ady G.1.1.1.1}
   ·cases aF h;exact {i,adz G.1.1.1.1}
  show O9.wp _ (GS g al le 0 0 [] 0 0 Ej st) _;calc adx (k:=k+1) G d.1 d.2 ?_<|j _ (by rw[I,Ee];rfl);rw[I,Bq];exact dU e\(show 2<=1000000 by decide)
 ·have h:=adA (k:=k) (al:=al) (le:=le) G;rw[I];calc h
end
def N5(g:AK)(h:Nat->Bool)(Ah:-Nat):Prop:=∀s∈Ah,g.Ad<=s->h s=Y
def UZ(g:AK)(h:Nat->Bool)(y z:Nat):Prop:=g.Ad<=z/\∃r∈g.aa,r.l=y/\N5 g h r.r/\z∈r.r
def HF(g:AK)(h:Nat->Bool)(ln:-Nat):Prop:=Em
 (ET g ln)
 (∀z,z∈ln↔G6 (UZ g h) (·=g.Ad) z)
def Q7(g:AK)(h:Nat->Bool)(ln:-Nat)(a i:Nat)(Ah:-Nat):Ao Sb:=(C5 g,GR g h,ln,a,i,Ah,())
def DK(g:AK)(x:Nat):Bool:=(C1 (C5 g) x).isSome
section
variable{w:Bk}{k:Nat}{g:AK}{h:Nat->Bool}{ln zs Ah:-Nat}{a:Nat}
def fJ(b:g.CA)(c:x<J g.Aq):DK g x=decide (g.Ad<=x):=de b c
def eC(b:g.CA)(c:x<J g.Aq):DK g x=Y↔g.Ad<=x:=by rw[fJ b c];calc bB
def jo(b:g.CA)(c:∀v∈Ah,v<J g.Aq):(Ah.filter λx=>DK g x&&!h x).map id=[]↔N5 g h Ah:=by rw[EW,Pq];calc forall_congr' λx=>forall_congr' λd=>?_;rw[Rm,eC b<|c x d,EJ];calc {λq t=>by cases e:h x;calc ar {t,e} q;rfl,λq z=>Bool.noConfusion<|z.2.symm^q z.1}
def adC(d:g.CA)(p:ET g ln)(I7:zs.Nodup)(c:∀z∈zs,z<J g.Aq):ET g (ln++zs.filter λx=>DK g x&&!decide (x∈ln))/\∀x,x∈ln++zs.filter (λx=>DK g x&&!decide (x∈ln))↔x∈ln\/x∈zs/\g.Ad<=x:=by
 have m:∀x,x∈zs.filter (λx=>DK g x&&!decide (x∈ln))↔(x∈zs/\g.Ad<=x)/\x∉ln:=λx=>by rw[SD,Rm,EJ,decide_eq_false_iff_not,<-and_assoc];exact and_congr_left λZ=>and_congr_right λq=>eC d<|c x q
 calc {{cv {p.1,I7.filter _,λy b z q e=>((m z).mp q).2<|e▸b},λy b=>(aN b).elim (p.2 y) λq=>{((m y).mp q).1.2,c y ((m y).mp q).1.1}},λx=>?_};rw[Mj,m];calc {λq=>q.imp id Z5,λq=>X9 .inl λn=>.inr {q.resolve_left n,n}}
def ib(G:Bt w g)(d:∀v∈Ah,v<J g.Aq)(o:J Ah<=3)(p:ET g ln)(r:¬N5 g h Ah->P.av (Q7 g h ln a i Ah))(s:N5 g h Ah->∀Al,ET g (ln++Al)->(∀x,x∈ln++Al↔x∈ln\/x∈Ah/\g.Ad<=x)->P.av (Q7 g h (ln++Al) a i Ah)):Aab.wp (w^^k+1) (Q7 g h ln a i Ah) P:=by
 clear w k g h ln Ah a i P _ G d o p r s;have f:AP (J Ah):=o\∅;have j:=dY (w:=w) (g:=g) (S:=(·∈Ah)) d;have l:(G5 w g (·∈Ah)).length<=J g.Aq:=hr d<|CE _;calc {f,f,λx=>DK g x&&!h x,id,λ(x:Nat) m=>{bO (Q:=λb=>b=(DK g x&&!h x)) (z:=DK g x) (λc=>{h x,cu G.1.1.1.1 ((eC G.1.1.1.1<|d x m).mp c)<|d x m,dc c}) dE,λZ=>rfl},bV (p:=(Ah.filter λx=>DK g x&&!h x).map id=[]) (λc=>?_) λc=>r λz=>c<|(jo G.1.1.1.1 d).mpr z};have N:=adC (zs:=G5 w g (·∈Ah)) G.1.1.1.1 p j.ab λz q=>d z<|(j.2 z).mp q;calc(acZ (k:=k) G d (λx=>Wg) f).aq λy e=>?_;subst e;refine {l\G.1.1.1.1.aB,l\G.1.1.1.1.aB,λ(x:Nat)=>DK g x&&!decide (x∈ln),id,λ(x:Nat) m=>{bO (Q:=λb=>b=(DK g x&&!decide (x∈ln))) (z:=DK g x) (λc=>dc c) dE,λZ=>rfl},{p.bj G\∅,?_},?_}
 ·exact cR\(l\G.1.1.1.1.aB)
 ·show P.av (Q7 g h (ln++((G5 w g (·∈Ah)).filter λx=>DK g x&&!decide (x∈ln)).map id) a i Ah);rw[EW];calc s ((jo G.1.1.1.1 d).mp c) _ N.1 λx=>(N.2 x).trans<|or_congr_right<|and_congr_left λZ=>j.2 x
def qJ(G:Bt w g):Zg.BZ (w^^k+2) (C5 g,GR g h,()) (HF g h):=by
 clear w k g h _ G;calc aY aaU {g.Ad,G.8,?_};show AcL.wp _ (Q7 g h [g.Ad] 0 0 []) _;calc e4 (λq:-Nat×Nat=>Q7 g h q.1 q.2 0 []) (λq=>Sp g (UZ g h) (·=g.Ad) q.1 q.2) (λq=>5-q.2) (s0:=([g.Ad],0)) rfl {{cw {CR,HL},λy q=>by rw[aF q];calc {CE _,G.1.1.1.1.2}},λy q=>.ba<|aF q,λy q=>Io.mpr q,az} λq AV I E=>?_;have s:=I.1.bj G;calc {s\∅,bV (p:=q.2<J q.1) (λc=>?_) λc=>{I.1,λz=>I.af c z}};have x:=Cw c s;have A:=I.1.2 _<|bJ (d:=0) c;show AcI.wp _ (Q7 g h q.1 q.2 0 []) _;refine b1 (t:=A0 O<|Ar Ac) (xs:=EH g<|q.1.getD q.2 0) (λa=>Q7 g h a q.2 0 []) (λa b=>∃zs,b=q.1++zs/\ET g b/\(∀z∈zs,UZ g h (q.1.getD q.2 0) z)/\∀e∈a,N5 g h e.2->∀z∈e.2,g.Ad<=z->z∈b) (s0:=q.1) (λZ b=>{{c,DQ x (by show 5<1000000;decide)},_,cu G.1.1.1.1 A.1 A.2,fK G\∅,b}) rfl {[],(Ct _).symm,I.1,az,az} (λAE e l ln P F i B=>?_) λln i=>?_
 ·obtain⟨zs,AW,p,f,A4⟩:=i;have C:e∈EH g (q.1.getD q.2 0):=F▸BH _ (.head _);have row:=G.cE C;obtain⟨r,j,H,DZ⟩:=ez G C;show Aab.wp _ (Q7 g h ln q.2 e.1 e.2) _;refine ib G row.2 row.1 p (λn=>B ln {zs,AW,p,f,λo Ay u=>?_}) λu Al D m=>B (ln++Al) {zs++Al,by rw[AW,Dr],D,λz b=>(aN b).elim (f z) λb=>?_,λo a L z b t=>(m z).mpr<|(aN a).elim (λa=>.inl<|A4 o a L z b t) λa=>.inr {aF a▸b,t}}
  ·exact(aN Ay).elim (λa=>A4 o a u) λa=>ar (aF a▸u) n
  ·have:=((m z).mp<|BH _ b).resolve_left λn=>(dI D.1) z n z b rfl;exact {this.2,r,j,H,DZ▸u,DZ▸this.1}
 ·obtain⟨zs,M,p,f,A4⟩:=i;subst M;calc E (_,q.2+1) (I.aX c p f λz ⟨t,r,j,e,u,m⟩=>(e7 j).elim λi N=>A4 _ (e▸N) u z m t)<|Rg x<|EM _
def T7(g:AK)(Al:-Bp):-(Nat×↑Nat):=Al.map λr=>(Es g r.l,r.r.map<|Es g)
def AdE(g:AK)(AN:-(Nat×↑Nat)):Ao Zm:=(g,AN,(Bz,0),())
def qO(b:g.CA):Zh.BZ (w^^k+1) (g,()) (·=T7 g g.aa):=by
 clear w k g _ b;calc aY aaV ?_;show AcM.wp _ (AdE g []) _;calc c2 (t:=Cb) (xs:=g.aa.zipIdx) (λa=>AdE g (T7 g (a.map (·.1)))) (λZ q=>{b.bA,q}) rfl (λAl p l AV e c=>?_) (by rw[tP];rfl);have o:=b.4 _<|bX<|e▸BH _ (.head _);have bA:AP (J p.1.r):=BY o.3\∅;calc {{o.1,b.aw o.1},bA,bA,λZ=>Y,Es g,λ(s:Nat) a=>{rfl,λZ=>{{o.2 s a,b.aw<|o.2 s a},rfl}},?_,?_,?_};·exact cR\bA
 ·show AP (Hs _ (Al.map (·.1))).length;rw[Bq,Bq];exact dU e\b.bA
 ·rw[Ee] at c;unfold T7 at c;rw[Ee] at c;rw[b8];calc c
def adD(G:Bt w g):T7 g g.aa=Fm g:=FI λr b=>by have o:=G.1.1.1.1.4 r b;rw[G.at o.1];calc ah (Prod.mk _)<|(FI λs a=>G.at<|o.2 s a)^EW _
end
abbrev BA(g:AK):Nat->Bool:=N4<|Mb g
open Classical in
def XH(g:AK)(ln:-Nat)(p:Bp×Nat):Bool:=!decide (N5 g (BA g) p.1.r)||!decide (p.1.l∈ln)
def Qf(g:AK):-Nat:=(Cg<|J g.Aq).filter λx=>DK g x&&(!decide (x=g.Ad)&&!BA g x)
def Qg(g:AK)(ln:-Nat):-Nat:=(Cg<|J g.Aq).filter λx=>DK g x&&(BA g x&&!decide (x∈ln))
def Il(g:AK)(ln:-Nat)(Al:-(Bp×Nat)):-Nat:=(Al.filter<|XH g ln).map (·.2)
def N6(g:AK)(aw:↥AK):Prop:=He
 (aw=Ai↔¬Mb g (g.Ad+1))
 (∀m,aw=U m->m.CA)
 (∀m,aw=U m->∀u:HY g,T7 m m.aa=(g.aa.zipIdx.filter λp=>AD u.AG p.2&&AD u.ab p.1.l).map λp=>(p.1.l,p.1.r))
 (∀m,aw=U m->∀u:HY g,m.Aq=(Cg<|J g.Aq).filter λs=>decide (s<=g.Ad)||AD u.ab s)
section
variable{w:Bk}{g:AK}
def adE(d:g.G3)(H:∀i,i<J g.aa->(AD AG i=Y↔N5 g h (g.aa.getD i Bz).r)):Lg g.aa AG g.Ad s/\g.Ad<=s↔G6 (UZ g h) (·=g.Ad) s:=by
 clear g h AG s _ d H;constructor
 ·rintro ⟨q,t⟩
  cases q with
  |ba=>calc .ba rfl|aU a Ax _ hs b=>exact .aU (b<|d.2 _<|bJ a) {t,_,bJ a,rfl,(H _ a).mp Ax,hs}
 ·intro q;cases q with
  |ba e=>rw[e];calc {.ba,CE _}|aU _ q b=>
   obtain⟨t,r,f,e,u,m⟩:=q;obtain⟨i,a,rfl⟩:=Pn f;have c:g.aa.getD i Bz=g.aa[i]:=by rw[CO,Dv a];rfl
   calc {.aU a ((H i a).mpr<|c▸u) (c▸e▸b.1)<|c▸m,t}
def q0(Bu:QJ g AG)(i:Nat)(a:i<J g.aa):AD AG i=Y↔N5 g (BA g) (g.aa.getD i Bz).r:=by rw[Bu.2,and_iff_right a];calc forall_congr' λs=>forall_congr' λZ=>{λq Z=>cF.mpr q,λq=>X9 (λt:g.Ad<=s=>cF.mp<|q t) λt=>.ba<|NA t}
def fO(a:g.G3)(L:HF g h ln)(H:∀i,i<J g.aa->(AD AG i=Y↔N5 g h (g.aa.getD i Bz).r))(D:GP g (Lg g.aa AG g.Ad) ab)(t:g.Ad<=s):AD ab s=Y↔s∈ln:=by rw[D.2,L.2,<-adE a H,and_iff_left t]
def q1(a:g.CA)(b:∀s,s<=g.Ad->p s=Ab):(Cg<|J g.Aq).filter p=(PJ g).filter p:=by
 have e:Cg (J g.Aq)=Cn 0 (g.Ad+1)++PJ g:=by have:=Aj3 (s:=0) (m:=g.Ad+1) (n:=J g.Aq-(g.Ad+1)) (step:=1);rw[EV,kf,MV a.2] at this;rw[this,X7]
 rw[e,LZ,Pq.mpr λs q z=>Bool.noConfusion<|(b s<|Mm<|Vu (cJ q).2<|EV<|g.Ad+1).symm^z];rfl
def hx(G:Bt w g){l:-Nat}(a:∀s∈l,s<J g.Aq):l.map (Es g)=l:=(FI λs q=>G.at<|a s q)^EW _
def jq(a:g.CA)(q:s∈PJ g):g.Ad<s/\s<J g.Aq:={(cJ q).1,Vu (cJ q).2<|MV a.2}
def jr(H:GP g (Mb g) A8)(s:Nat):AD A8 s=BA g s:=hq<|H.2 s
def js(a:g.G3)(L:HF g (BA g) ln)(Bu:QJ g AG)(D:GP g (Lg g.aa AG g.Ad) ab)(t:g.Ad<=s):AD ab s=decide (s∈ln):=cn<|(fO a L (q0 Bu) D t).trans bB.symm
def q2(b:g.G3)(L:HF g (BA g) ln)(u:HY g)(a:p∈g.aa.zipIdx):XH g ln p=(!AD u.AG p.2||!AD u.ab p.1.l):=by
 have e:g.aa.getD p.2 Bz=p.1:=by rw[CO,d0 a];rfl
 have q:=cn<|(q0 u.u p.2<|Yd a).trans (by rw[e];calc(@bB _<|kI _).symm);rw[q,js b L u.u u.d<|b.2 _<|bX a];rfl
def q3(G:Bt w g)(L:HF g (BA g) ln)(u:HY g):u.LO=(Qf g,Qg g ln,Il g ln g.aa.zipIdx):=by
 clear w g ln _ G L u;have a:∀{p:Nat->Bool},∀s∈(PJ g).filter p,s<J g.Aq:=λs q=>(jq G.1.1.1.1<|dt q).2;refine qR ?_ ?_ ?_
 ·unfold TU Qf;rw[hx G a,q1 G.1.1.1.1 λs q=>?_] at⊢;·calc SO λs q=>?_;have l:=jq G.1.1.1.1 q;rw[jr u.h,(eC G.1.1.1.1 l.2).mpr<|BY l.1,decide_eq_false<|Ha l.1];rfl
  ·by_cases e:s=g.Ad;·rw[e,aJ rfl];exact Pk _
   ·rw[fJ G.1.1.1.1<|DG q G.1.1.1.1.2,decide_eq_false λz=>e<|Qy q z];rfl
 ·unfold TV Qg;rw[hx G a,q1 G.1.1.1.1 λs q=>?_] at⊢;·calc SO λs q=>?_;have l:=jq G.1.1.1.1 q;rw[jr u.h,js G.1.1.1 L u.u u.d<|BY l.1,(eC G.1.1.1.1 l.2).mpr<|BY l.1];rfl
  ·by_cases e:s=g.Ad;·rw[e,aJ<|(L.2 _).mpr<|.ba rfl,ZY,Pk];exact Pk _
   ·rw[fJ G.1.1.1.1<|DG q G.1.1.1.1.2,decide_eq_false λz=>e<|Qy q z];rfl
 ·calc ah (Hs _)<|SO λp b=>(q2 G.1.1.1 L u b).symm
def adF(G:Bt w g){GW:-Nat}(L:HF g (λZ=>Y) ln)(hs:∀y,y∈GW↔∃r∈g.aa,r.l∈ln/\y∈r.r)(D:GP g (Lg g.aa (CV (J g.aa.zipIdx) Y) g.Ad) AF):AF=(Cg<|J g.Aq).map λx=>decide (x∈ln)||decide (x∈GW):=by
 clear w g ln AF GW _ G L hs D;have H:∀i,i<J g.aa->(AD (CV (J g.aa.zipIdx) Y) i=Y↔N5 g (λZ=>Y) (g.aa.getD i Bz).r):=λi a=>⟨λZ Z Z Z=>rfl,λZ=>by unfold AD;rw[CO,ki,ao (by rw[Fb];calc a)];rfl⟩
 calc Z2 (by rw[D.1,Bq,Gy]) λi Ag m=>?_;have e:AF[i]=AD AF i:=by unfold AD;rw[CO,Dv Ag];rfl
 rw[WC,Z3,e];calc cn ?_;rw[kD,bB,bB];refine {λq=>?_,λq=>q.elim (λq=>?_) λq=>?_}
 ·have q:=(D.2 i).mp q;by_cases t:g.Ad<=i;·exact .inl<|(fO G.1.1.1 L H D t).mp<|(D.2 i).mpr q
  ·cases (q)with
   |ba=>calc ar (CE _) t|aU a Ax b c=>exact .inr<|(hs i).mpr {_,bJ a,(fO G.1.1.1 L H D<|G.1.1.1.2 _<|bJ a).mp<|(D.2 _).mpr b,c}
 ·exact(fO G.1.1.1 L H D (L.1.2 i q).1).mpr q
 ·calc aE ((hs i).mp q) λr b h c=>?_;obtain⟨j,d,rfl⟩:=Pn b;have f:g.aa.getD j Bz=g.aa[j]:=by rw[CO,Dv d];rfl
  calc(D.2 i).mpr<|.aU d ((H j d).mpr λZ Z Z=>rfl) (f▸(D.2 _).mp ((fO G.1.1.1 L H D<|G.1.1.1.2 _ b).mpr h))<|f▸c
end
def Im(g:AK)(aw:↥AK)(ln Et EU:-Nat)(Cv:-Nat)(i:Nat)(p:Nat×↑Nat)(z:Bool)(E8 GW E2:-Nat)(YH:-(Nat×↑Nat)):Ao Fv:=(g,Fm g,C5 g,GR g<|BA g,aw,ln,Et,EU,Cv,i,p,z,E8,GW,E2,YH,())
def adG(Ag:(z||y)=Y->A)(a:(z||y)=Ab->B):E2 .Or z (if y=Y then A else B) λb=>if b=Y then A else B:=by
 cases z with
 |true=>calc Ag rfl|false=>calc bH Ag a
def adH(h:p)(k:P):E2 .Or (!@decide p i) P Q:=by rw[@aJ p i h];calc k
def adI(h:Q (a&&(b&&c))):E2 .And a (E2 .And b (Q c) Q) Q:=by induction a<;>induction b<;>calc h
def adL(h:Q (a&&b)):E2 .And a (Q b) Q:=by induction a<;>calc h
def q4(h:Q (a||b)):E2 .Or a (Q b) Q:=by induction a<;>calc h
section
variable{w:Bk}{k:Nat}{g:AK}{aw:↥AK}{ln Et EU:-Nat}
def jt{f:Nat->Bool}:∀(L M:-Nat),(M++L).Nodup->(L.map λx=>(x,f x)).foldl (λd p=>B9 d p.1 p.2) (M.map λx=>(x,f x))=(M++L).map λx=>(x,f x)
 |[]=>λM Z=>by rw[Ct];rfl|a::L=>λM h=>by
  have Ay:(M++[a]++L).Nodup:=by rw[Dr];exact h
  rw[HI,Rp,jn<|dH Ay,jt L _ Ay,Dr];rfl
def ju(G:Bt w g)(a:x∈g.Aq):x<J g.Aq:=by rw[G.2] at a;calc cU a
def adM(G:Bt w g)(a:x∈g.Aq):DK g x=Y->g.Ad<=x:=(eC G.1.1.1.1<|ju G a).mp
def jv(G:Bt w g)(a:x∈g.Aq)(c:DK g x=Y):C1 (GR g f) x=U (f x):=cu G.1.1.1.1 (adM G a c)<|ju G a
def adN(G:Bt w g)(h:∀ln,HF g (BA g) ln->UA.wp (w^^k+2) (Im g aw ln (Qf g) (Qg g ln) [] 0 (0,[]) Ab [] [] [] []) (IQ Xu (w^^k+2) P)):AcW.wp (w^^k+2) (Im g aw [] [] [] [] 0 (0,[]) Ab [] [] [] []) P:=by
 clear w k g aw P _ G h;refine(qJ (k:=k) (h:=BA g) G).aq λln L=>{G.1.1.1.1.aB,G.1.1.1.1.aB,λ(x:Nat)=>DK g x&&(!decide (x=g.Ad)&&!BA g x),id,λ(x:Nat) a=>{bO (Q:=λb=>b=(DK g x&&(!decide (x=g.Ad)&&!BA g x))) (z:=DK g x) (λc=>{g.Ad,G.8,bO (Q:=λb=>b=(DK g x&&(!decide (x=g.Ad)&&!BA g x))) (λd=>{_,jv G a c,dc d^dc c}) λd=>dE d^dc c}) dE,λZ=>rfl},?_}
 rw[(EW _^ah (SU _) G.2)];calc {G.1.1.1.1.aB,G.1.1.1.1.aB,λ(x:Nat)=>DK g x&&(BA g x&&!decide (x∈ln)),id,λ(x:Nat) a=>{bO (Q:=λb=>b=(DK g x&&(BA g x&&!decide (x∈ln)))) (z:=DK g x) (λc=>{_,jv G a c,bO (Q:=λb=>b=(DK g x&&(BA g x&&!decide (x∈ln)))) (λd=>dc d^dc c) λd=>dE d^dc c}) dE,λZ=>rfl},?_};rw[(EW _^ah (SU _) G.2)];calc h ln L
def adP(G:Bt w g)(h:Xu.wp W (Im g aw ln Et EU (Il g ln g.aa.zipIdx) 0 (0,[]) Ab [] [] [] []) P):UA.wp W (Im g aw ln Et EU [] 0 (0,[]) Ab [] [] [] []) (IQ Xu W P):=by
 clear w g aw ln Et EU P W _ G h;calc ji (t:=A0 O<|A0 Ac<|Ar Ac) (λp:Bp×Nat=>(p.2,p.1.l,p.1.r)) (xs:=g.aa.zipIdx) (λa=>Im g aw ln Et EU (Il g ln a) 0 (0,[]) Ab [] [] [] []) (λQ q=>{Di (Bq ..)\(G.10\∅),hp▸q}) rfl (λAl p l AV e a=>?_) h;have d:p.1∈g.aa:=bX<|e▸BH _ (.head _);have o:=G.1.1.1.1.4 _ d;have f:AP (J p.1.r):=G.1.3 _ d\∅;have a:AV (Im g aw ln Et EU (Il g ln<|Al++[p]) 0 (0,[]) Ab [] [] [] []):=a;unfold Il at a;rw[LZ,Ee,fW] at a;calc {f,f,λx=>DK g x&&!BA g x,id,λ(x:Nat) i=>{bO (Q:=λb=>b=(DK g x&&!BA g x)) (z:=DK g x) (λc=>{BA g x,cu G.1.1.1.1 ((eC G.1.1.1.1<|o.2 x i).mp c)<|o.2 x i,dc c}) dE,λZ=>rfl},?_};have DU:decide ((p.1.r.filter λx=>DK g x&&!BA g x).map id=[])=@decide (N5 g (BA g) p.1.r) (kI _):=cn<|bB.trans<|(jo G.1.1.1.1 o.2).trans (@bB _<|kI _).symm;refine adG (z:=!decide ((p.1.r.filter λx=>DK g x&&!BA g x).map id=[])) (y:=!decide (p.1.l∈ln)) (λc=>{(cR\(dU e\G.1.1.1.1.bA)),?_}) λc=>?_
 ·rw[DU] at c;rw[ao<|show XH g ln p=Y from c] at a;exact a
 ·rw[DU] at c;rw[ai<|show¬XH g ln p=Y from QA.mp c,List.map_nil,Ct] at a;calc a
def adQ(G:Bt w g)(S:N6 g aw)(L:HF g (BA g) ln)(h:∀u:HY g,Aad.wp (w^^k+4) (Im g aw ln (Qf g) (Qg g ln) (Il g ln g.aa.zipIdx) 0 (0,[]) Ab [] [] [] []) P):Xu.wp (w^^k+4) (Im g aw ln (Qf g) (Qg g ln) (Il g ln g.aa.zipIdx) 0 (0,[]) Ab [] [] [] []) P:=by clear w k g aw ln P _ G S L h;calc(pS G.1.1).aq λy q=>?_;obtain⟨u,rfl⟩:=q;calc adH (Q:=λx=>if x=Y then _ else _) (q3 G L u) {g.Ad+1,G.9,BA g<|g.Ad+1,cu G.1.1.1.1 (Ex _)<|Cw (by decide:1<3) (CE 3)|>λq=>Cw (Lq q g.Ad) G.4,dG ?_<|h u};calc cn<|Wi.trans<|S.1.trans ?_;rw[EJ,<-km];calc not_congr cF.symm
end
section
variable{w:Bk}{k:Nat}{g:AK}{aw:↥AK}{ln Et EU Cv E8 GW Am:-Nat}{f:-(Nat×↑Nat)}
def adR(G:Bt w g)(S:N6 g aw)(e:aw=U m)(L:HF g (BA g) ln)(u:HY g)(Ax:f=T7 m m.aa):AcN.wp (w^^k+1) (Im g aw ln Et EU Cv 0 (0,[]) Ab E8 GW Am f) (Cp (·=Y)):=by
 clear w k g aw ln Et EU _ Cv E8 GW Am f m _ G S e L u Ax;have A3:(g.Aq.filter λx=>!DK g x||decide (x∈ln)).map id=m.Aq:=by
  rw[EW,S.4 m e u];calc ah (SU _) G.2^SO λs hs=>?_;rw[fJ G.1.1.1.1<|cU hs];by_cases t:g.Ad<=s
  ·rw[js G.1.1.1 L u.u u.d t,aJ t];by_cases e:s=g.Ad;·rw[e,aJ<|(L.2 _).mpr<|.ba rfl,aJ<|CE _];rfl
   ·rw[decide_eq_false λz=>e<|Qy z t];rfl
  ·rw[decide_eq_false t,aJ<|Nat.le_of_not_le t];rfl
 calc {m,e,(qO (k:=k)<|S.2 m e).aq λy h=>?_};subst h;calc bO (Q:=λb=>b=Y) (z:=@decide _ _) (λZ=>⟨m,e,G.1.1.1.1.aB,G.1.1.1.1.aB,λ(x:Nat)=>!DK g x||decide (x∈ln),id,λ(x:Nat) i=>{q4 (a:=!DK g x) (b:=decide<|x∈ln) (Q:=λb=>b=(!DK g x||decide (x∈ln))) rfl,λZ=>rfl},@aJ _ _ A3.symm⟩) λc=>ar Ax.symm (b2 c)
def q5(xs:-α):(MH xs).length=J xs:=Bq ..^Fb
def adS(d:g.G3)(L:HF g (BA g) ln)(u:HY g)(b:p∈g.aa.zipIdx):(!decide (p.2∈Il g ln g.aa.zipIdx))=(AD u.AG p.2&&AD u.ab p.1.l):=by
 have i:p.2∈Il g ln g.aa.zipIdx↔XH g ln p=Y:=by unfold Il;rw[ZS];calc {λj=>ae j λq c e=>?_,λh=>{p,c4 {b,h},rfl}};have a:=d0<|(dt c);rw[e,d0 b] at a;exact(LK (BQ a) e.symm)▸(kP c)
 rw[show decide (p.2∈Il g ln g.aa.zipIdx)=XH g ln p from cn<|bB.trans i,q2 d L u b,Bool.not_or,Bool.not_not,Bool.not_not]
def adT(G:Bt w g)(S:N6 g aw)(L:HF g (BA g) ln)(u:HY g)(b:Cv=Il g ln g.aa.zipIdx):AcP.wp (w^^k+1) (Im g aw ln Et EU Cv 0 (0,[]) Ab E8 GW Am []) (Cp (·=Y)):=by
 cases e:aw with
 |none=>calc rfl|some m=>
  subst e;have a:AP (Fm g).length:=Di (Bq ..)\(G.10\∅);have Ax:((MH<|Fm g).filter λp=>!decide (p.1∈Cv)).map (λp=>p.2)=T7 m m.aa:=by rw[S.3 m rfl u,hp,Aj5,Fy];exact ah (Hs _)<|SO λp a=>b▸adS G.1.1.1 L u a
  have q:=adR (k:=k) (Et:=Et) (EU:=EU) (Cv:=Cv) (E8:=E8) (GW:=GW) (Am:=Am) G S rfl L u Ax;calc {a,((q5<|Fm g).symm▸a),λ(p:Nat×Nat×↑Nat)=>!decide (p.1∈Cv),λp=>p.2,λp Z=>{rfl,λZ=>rfl},q}
def q6(H:GP g (Mb g) A8):MH A8=(Cg<|J g.Aq).map λi=>(i,BA g i):=by
 clear g A8 _ H;exact Z2 (by rw[Bq,Bq,Fb,Gy];calc H.1) λi c b=>by
  have a:i<J A8:=by rw[Bq,Fb] at c;exact c
  have e:BA g i=A8[i]:=(jr H i).symm^(by unfold AD;rw[CO,Dv a];rfl);rw[WC,WC,List.getElem_zipIdx,Z3,e,EV]
def adW(G:Bt w g)(H:GP g (Mb g) A8):((MH A8).filter λp=>decide (3<=p.1)&&!p.2).map (λp=>Es g p.1)=(g.Aq.filter λx=>DK g x&&!BA g x).map id:=by
 rw[q6 H,Aj5,Fy,EW];calc ?_^(ah (SU _) G.2).symm;calc ah (Hs _) (SO λs hs=>?_)^(FI λs a=>G.at<|cU<|dt a).trans (EW _);rw[fJ G.1.1.1.1<|cU hs];show(decide (3<=s)&&!BA g s)=_;by_cases t:g.Ad<=s;·rw[aJ t,aJ<|G.3\t]
 ·rw[show BA g s=Y from cF.mpr<|.ba<|NA t,ZY,Pk,Pk]
def adX(G:Bt w g)(S:N6 g aw)(L:HF g (BA g) ln)(u:HY g)(a:Cv=Il g ln g.aa.zipIdx)(hs:Am=(g.Aq.filter λx=>DK g x&&!BA g x).map id):AcQ.wp (w^^k+1) (Im g aw ln Et EU Cv 0 (0,[]) Ab E8 GW Am []) (Cp (·=Y)):=
 {G.1.1.1.1.aB,G.1.1.1.1.aB,λ(x:Nat)=>DK g x&&!BA g x,id,λ(x:Nat) d=>{bO (Q:=λb=>b=(DK g x&&!BA g x)) (z:=DK g x) (λc=>{BA g x,jv G d c,dc c}) dE,λZ=>rfl},dG hs<|adT G S L u a}
def adK(G:Bt w g)(S:N6 g aw)(L:HF g (BA g) ln)(u:HY g)(e:Cv=Il g ln g.aa.zipIdx):AcR.wp (w^^k+2) (Im g aw ln Et EU Cv 0 (0,[]) Ab E8 GW [] []) (Cp (·=Y)):=by
 clear w k g aw ln Et EU Cv E8 GW _ G S L u e;calc(iU (k:=k) G.1.1.1.1).aq λA8 H=>?_;have h:AP (J A8):=H.1.symm▸G.1.1.1.1.aB;have q:=adX (k:=k+1) (Et:=Et) (EU:=EU) (E8:=E8) (GW:=GW) G S L u e<|adW G H;refine {h,((q5 A8).symm▸h),λ(p:Nat×Bool)=>decide (3<=p.1)&&!p.2,λp=>Es g p.1,λ(p:Nat×Bool) c=>{adL (a:=decide<|3<=p.1) (b:=!p.2) (Q:=λb=>b=(decide (3<=p.1)&&!p.2)) rfl,λZ=>?_},q}
 ·have c:p∈MH A8:=c;rw[q6 H] at c;calc ae (b0 c) λi d j=>?_;subst j;have d:=cU d;calc {{d,G.1.1.1.1.aw d},rfl}
def adZ(G:Bt w g)(S:N6 g aw)(L:HF g (BA g) ln)(u:HY g)(d:Cv=Il g ln g.aa.zipIdx)(h:Et=Qf g)(i:EU=Qg g ln):AcS.wp (w^^k+5) (Im g aw ln Et EU Cv 0 (0,[]) Ab E8 GW [] []) (Cp (·=Y)):=by calc(abQ (k:=k) G.1.1).aq λb q=>ak q λv e=>?_;calc adI (a:=decide<|Et=[]) (b:=decide<|EU=[]) (c:=decide<|Cv=[]) (Q:=λx=>if(!decide (b=x))=Y then _ else _)<|dG ?_<|adK G S L u d;rw[e,q3 G L v,<-h,<-i,<-d];calc cn<|bB.trans ?_;rw[Rm,Rm,bB,bB,bB,Prod.mk.injEq,Prod.mk.injEq]
def adY(G:Bt w g)(S:N6 g aw)(L:HF g (BA g) ln)(u:HY g)(c:Cv=Il g ln g.aa.zipIdx)(d:Et=Qf g)(e:EU=Qg g ln)(h:HF g (λZ=>Y) E8)(hs:∀y,y∈GW↔∃r∈g.aa,r.l∈E8/\y∈r.r):AcT.wp (w^^k+5) (Im g aw ln Et EU Cv 0 (0,[]) Ab E8 GW [] []) (Cp (·=Y)):=by
 clear w k g aw ln Et EU Cv E8 GW _ G S L u c d e h hs;refine(abI (k:=k+2) G.1.1).aq λAF D=>⟨G.1.1.1.1.aB,G.1.1.1.1.aB,λZ=>Y,λ(x:Nat)=>decide (x∈E8)||decide (x∈GW),λ(x:Nat) i=>{rfl,λZ=>q4 (a:=decide<|x∈E8) (b:=decide<|x∈GW) (Q:=λb=>b=(decide (x∈E8)||decide (x∈GW))) rfl},dG ?_<|adZ G S L u c d e⟩
 calc((adF G h hs D).trans<|ah (Hs _) G.2.symm).trans (b8 _ _).symm
def adU(G:Bt w g)(S:N6 g aw)(L:HF g (BA g) ln)(u:HY g)(a:Cv=Il g ln g.aa.zipIdx)(e:Et=Qf g)(i:EU=Qg g ln)(j:HF g (λZ=>Y) E8):Aac.wp (w^^k+5) (Im g aw ln Et EU Cv 0 (0,[]) Ab E8 [] [] []) (Cp (·=Y)):=by
 clear w k g aw ln Et EU Cv E8 _ G S L u a e i j;have c:AP (Fm g).length:=Di (Bq ..)\(G.10\∅);have m:∀p∈Fm g,J p.2<=3:=λp h=>by calc ae (b0 h) λr a d=>?_;subst d;exact G.1.3 r a
 have hs:∀y,y∈((Fm g).filter λp=>decide<|p.1∈E8).flatMap (λp=>p.2.map λy=>y)↔∃r∈g.aa,r.l∈E8/\y∈r.r:=λy=>by
  rw[Yc];constructor
  ·rintro ⟨p,c,b⟩
   calc aC (dO c) λAg o=>?_;calc ae (b0 Ag) λr a d=>?_;subst d;rw[tT] at b;exact {r,a,aL o,b}
  ·rintro ⟨r,a,h,b⟩
   exact {(r.l,r.r),c4 {dM {r,a,rfl},aJ h},by rw[tT];calc b}
 have len:∀l:-(Nat×↑Nat),(∀p∈l,J p.2<=3)->(l.flatMap λp=>p.2.map λy=>y).length<=3*J l:=λl=>by
  cases l with
  |nil=>calcλZ=>C9 _|cons p l s=>
   intro h;rw[VD,BD,Bq,Gb,Wv,FO];exact EL (s λq t=>h q<|.tail _ t)<|h p<|.head _
 have x:AP (((Fm g).filter λp=>decide<|p.1∈E8).flatMap λp=>p.2.map λy=>y).length:=(len _ λp h=>m p<|dt h)\(Hd 3 (Ro _ _\(Di (Bq ..)\G.10))\∅);have q:=adY (k:=k) G S L u a e i j hs;calc {c,λ(p:Nat×↑Nat)=>decide<|p.1∈E8,λp=>p.2,λZ y=>y,x,λ(p:Nat×↑Nat) h=>{rfl,λZ=>{m p h\∅,rfl,λZ Z=>rfl}},q}
def adV(G:Bt w g)(S:N6 g aw)(L:HF g (BA g) ln)(u:HY g)(a:Cv=Il g ln g.aa.zipIdx)(b:Et=Qf g)(c:EU=Qg g ln):Aad.wp (w^^k+5) (Im g aw ln Et EU Cv 0 (0,[]) Ab [] [] [] []) (Cp (·=Y)):=by
 clear w k g aw ln Et EU Cv _ G S L u a b c;have Co:AP ((C5 g).map λx=>x.1).length:=by rw[df];exact(cY G\∅)
 have e:((((C5 g).map λx=>x.1).filter λZ=>Y).map λx=>(x,Y)).foldl (λd p=>B9 d p.1 p.2) []=GR g λZ=>Y:=by rw[b8,df];exact jt (Dt g) [] eg
 have q:Zg.BZ (w^^k+5) (C5 g,GR g λZ=>Y,()) λd=>Aac.wp (w^^k+5) (Im g aw ln Et EU Cv 0 (0,[]) Ab d [] [] []) (Cp (·=Y)):=(qJ G).aq λd h=>adU G S L u a b c h;rw[<-e] at q;exact {dZ G,Co,λZ=>Y,λ(x:Nat)=>(x,Y),λx Z=>{rfl,λZ=>rfl},(cR\Co),q}
set_option maxRecDepth 4000 in
def adJ(G:Bt w g)(S:N6 g aw):Us.BZ (w^^k+6) (g,Fm g,C5 g,GR g<|BA g,aw,()) (·=Y):=by have a:∀ln,HF g (BA g) ln->UA.wp (w^^k+3+2) (Im g aw ln (Qf g) (Qg g ln) [] 0 (0,[]) Ab [] [] [] []) (IQ Xu (w^^k+3+2) (Cp (·=Y))):=λa L=>adP G<|(λa L=>adQ (k:=k+1) G S L λu=>adV (k:=k) G S L u rfl rfl rfl) a L;calc aY aaJ (adN (w:=w) (k:=k+3) (aw:=aw) (P:=Cp (·=Y)) G a)
end
abbrev FU:=-((Nat×Nat×Nat)×Bool)
abbrev CB(AD:FU):-(Nat×Nat×Nat):=AD.map (·.1)
def N7(g:AK)(AD:FU)(Ah:-Nat)(s i j:Nat):Prop:=(i<=j/\j<=J Ah)/\if g.Ad<=s then(s,i,j)∈CB AD else j=i+1/\Ah.getD i 0=s
def Me(g:AK)(AD:FU)(Ah:-Nat):-Nat->Nat->Nat->Prop
 |[],i,j=>i=j|s::Bm,i,j=>∃m,N7 g AD Ah s i m/\Me g AD Ah Bm m j
def MK(g:AK)(AD:FU)(Ah:-Nat)(o:Nat)(AN a:-Nat)(s:Nat)(Cs:-Nat)(e j:Nat)(z:Bool):Ao QY:=(C5 g,AD,Ah,o,AN,a,s,Cs,e,j,z,())
section
variable{w:Bk}{k:Nat}{g:AK}{AD:FU}{Ah f:-Nat}
def Me.bN:∀{Bm:-Nat} {i:Nat},Me g AD Ah (Bm++[s]) i j↔∃m,Me g AD Ah Bm i m/\N7 g AD Ah s m j
 |[],i=>{λb=>ae b λm h e=>{i,rfl,e▸h},λb=>ae b λm e h=>{j,e▸h,rfl}}
 |a::Bm,i=>{λb=>ae b λm h q=>(Me.bN.mp q).elim λn q=>{n,{m,h,q.1},q.2},λ⟨n,⟨m,h,q⟩,e⟩=>{m,h,Me.bN.mpr {n,q,e}}}
def Lj(Ah:-Nat)(S:Nat->Prop)(l:-Nat):Prop:=Dy
 (l.Nodup)
 (∀j∈l,j<=J Ah)
 (∀j,j∈l↔S j)
def Lj.bj(h:Lj Ah S Cs)(a:J Ah<=2):J Cs<=3:=(eu h.1 λj b=>Iu<|h.2 j b)\GX a
def Lj.ax{T:Nat->Prop}(h:Lj Ah S Cs)(q:∀j,S j↔T j):Lj Ah T Cs:={h.1,h.2,λj=>(h.3 j).trans<|q j}
def Lj.ct(h:Lj Ah S Cs)(a:j<=J Ah)(n:j∉Cs):Lj Ah (λx=>S x\/x=j) (Cs++[j]):={jj h.1 n,λx b=>(aN b).elim (h.2 x) λe=>by rw[aF e];exact a,λx=>by rw[Mj,Io,h.3]}
def f3:(C1 AD x).isSome=decide (x∈CB AD):=cn<|Vc.trans<|e6.trans bB.symm
def adO(a:J Ah<=2)(d:j<=J Ah)(T:Lj Ah S Cs)(h:∀Cs,Lj Ah (λx=>S x\/x=j/\z=Y) Cs->P.av (MK g AD Ah o f e s Cs i j z)):UB.wp W (MK g AD Ah o f e s Cs i j z) P:=by calc bO (Q:=λb=>if b=Y then _ else _) (z:=z) (λc=>d9 (p:=j∈Cs) (λn=>{T.bj a\∅,h _<|(T.ct d n).ax λx=>or_congr_right (and_iff_left c).symm}) λm=>h Cs<|T.ax λx=>{.inl,λq=>q.elim id λq=>q.1▸(T.3 j).mp m}) λc=>h Cs<|T.ax λx=>{.inl,λq=>q.elim id λq=>Bool.noConfusion<|c.symm^q.2}
def ad0(m:g.CA)(hs:s<J g.Aq)(p:J Ah<=2)(r:i<=j)(a:j<=J Ah)(T:Lj Ah S Cs)(h:∀z Cs,Lj Ah (λx=>S x\/x=j/\N7 g AD Ah s i j) Cs->P.av (MK g AD Ah o f l s Cs i j z)):Aae.wp W (MK g AD Ah o f l s Cs i j z) P:=by
 have go:∀z,(z=Y↔N7 g AD Ah s i j)->UB.wp W (MK g AD Ah o f l s Cs i j z) P:=λz q=>adO p a T λa T=>h z a<|T.ax λx=>or_congr_right<|and_congr_right λZ=>q;refine bH (z:=(C1 (C5 g) s).isSome) (λc=>go (C1 AD (s,i,j)).isSome ?_) λc=>?_
 ·rw[de m hs] at c;unfold N7;rw[ao<|aL c,f3,bB];exact {λq=>{{r,a},q},Rk}
 ·rw[de m hs] at c;have e:N7 g AD Ah s i j↔j=i+1/\Ah.getD i 0=s:=by unfold N7;rw[ai<|b2 c];exact {Rk,λq=>{{r,a},q}}
  calc bO (Q:=λb=>UB.wp W (MK g AD Ah o f l s Cs i j b) P) (z:=decide<|j=i+1) (λd=>?_) λd=>go Ab<|iff_of_false br λq=>b2 d (e.mp q).1;have d:=aL d;have t:=Cw (Vu (EM i) d.symm) a;calc {{t,Cw t<|p\∅},go _<|bB.trans<|(and_iff_right d).symm.trans e.symm}
def ad1(p:g.CA)(hs:∀s∈f,s<J g.Aq)(r:J f<=3)(b:J Ah<=2)(u:o<=J Ah):Oz.BZ (w^^k+1) (C5 g,AD,Ah,o,f,()) (Lj Ah<|Me g AD Ah f o):=by
 clear w k g AD Ah f o _ p hs r b u;have y:AP (J Ah):=b\∅;calc aY aaO ?_;show AcZ.wp _ (MK g AD Ah o f [o] 0 [] 0 0 Ab) _;calc b1 (t:=Ac) (xs:=f) (λa=>MK g AD Ah o f a 0 [] 0 0 Ab) (λb a=>Lj Ah (Me g AD Ah b o) a) (s0:=[o]) (λZ q=>{r\∅,q}) rfl {cw {CR,HL},λj q=>by rw[aF q];calc u,λj=>Io.trans eq_comm} (λAl s l a AV e T B=>?_) λa T=>T;have hs:=hs s<|e▸BH _ (.head _);show AcK.wp _ (MK g AD Ah o f a s [] 0 0 Ab) _;refine b1 (t:=O) (xs:=a) (λb=>MK g AD Ah o f a s b 0 0 Ab) (λa b=>Lj Ah (λj=>∃i∈a,N7 g AD Ah s i j) b) (s0:=[]) (λZ q=>{T.bj b\∅,q}) rfl {HL,az,λj=>{c3,λh=>h.elim λZ h=>ar h.1 CR}} (λis i Dl Cs H C c D=>?_) λCs c=>B Cs<|c.ax λj=>?_
 ·have A:i<=J Ah:=T.2 i<|C▸BH _ (.head _);show AcX.wp _ (MK g AD Ah o f a s Cs i 0 Ab) _;refine fR (m:=i) (n:=J Ah+1) (λq:-Nat=>MK g AD Ah o f a s q i 0 Ab) (λj a=>Lj Ah (λx=>(∃i∈is,N7 g AD Ah s i x)\/x<j/\N7 g AD Ah s i x) a) (λQ q=>{y,{A\y,GX b\∅},q}) rfl (Ml A) (c.ax λx=>{.inl,λh=>h.resolve_right λh=>bz h.2.1.1 h.1}) (λj Cs I BP E d F=>?_) λCs d=>D Cs<|d.ax λx=>?_
  ·show Aae.wp _ (MK g AD Ah o f a s Cs i j Ab) _;calc ad0 p hs b BP (Mm E) d λz Cs G=>F Cs<|G.ax λx=>?_;rw[or_assoc];exact or_congr_right {λh=>h.elim (λh=>{I1 h.1,h.2}) λh=>{h.1▸EM _,h.1▸h.2},λh=>(kB.mp h.1).imp (λq=>{q,h.2}) λq=>{q,q▸h.2}}
  ·rw[dq];exact or_congr_right {Rk,λh=>{Iu h.1.2,h}}
 ·rw[Me.bN];calc exists_congr λm=>and_congr_left λZ=>T.3 m
end
section
variable{t:Az}{σ:Type}{b:Au V Bd BO}
def q7(e:σ->Bool->Ao V)(Inv:σ->Prop)(a:σ->Nat)(C:σ->t.AR->Prop)(i:Inv s)
  (d:∀s' c x (AV:Ao V->Prop),x∈xs->Inv s'->(C s' x->AV (e s' c))->(∀s2,Inv s2->a s2<a s'->AV (e s2 Y))->b.wp w (g.BG x<|e s' c) (G1 D (e s z) AV P))(Ag:(∀x∈xs,C s x)->P.av (e s z))(f:∀s',Inv s'->a s'<a s->P.av (e s' Y)):iJ w D g b (e s z) (e s z) P xs:=
 i1 e Inv a C rfl d i λa c j h=>h.elim (λq=>by rw[q.1.1,q.1.2];calc Ag q.2) λq=>by rw[q.1];calc f a j q.2
def q8(e:σ->Bool->Ao V)(Inv:σ->Prop)(a:σ->Nat)(C:σ->t.AR->Prop)(d:∀Q,Q xs->q.wp w (e s z) Q)(i:Inv s)
  (f:∀s' c x (AV:Ao V->Prop),x∈xs->Inv s'->(C s' x->AV (e s' c))->(∀s2,Inv s2->a s2<a s'->AV (e s2 Y))->b.wp w (g.BG x<|e s' c) (G1 D (e s z) AV P))(Ag:(∀x∈xs,C s x)->P.av (e s z))(h:∀s',Inv s'->a s'<a s->P.av (e s' Y)):(Ca D g q b).wp w (e s z) P:=
 d _ (q7 e Inv a C i f Ag h)
end
def Lk(Ah:-Nat)(i j:Nat):-Nat:=(Ah.drop i).take<|j-i
def Hn(g:AK)(Ah:-Nat)(AD:FU):Prop:=Em
 ((CB AD).Nodup)
 (∀x∈CB AD,(g.Ad<=x.1/\x.1<J g.Aq)/\(x.2.1<=x.2.2/\x.2.2<=J Ah)/\Ce g.aa g.Ad [x.1] (Lk Ah x.2.1 x.2.2))
def AdF(s:Nat):-(Nat×Nat×Nat):=(Cg 3).flatMap λi=>(Cg 3).map λj=>(s,i,j)
def Mf(g:AK)(AD:FU):Nat:=9*(Dt g).length-(J AD)
def Ho(g:AK)(Ah:-Nat)(s i:Nat)(AN:-Nat)(o j:Nat)(AD:FU)(z:Bool):Ao Nk:=(C5 g,Ah,AD,z,s,i,AN,o,j,())
section
variable{w:Bk}{k:Nat}{g:AK}{AD:FU}{Bm u:-Nat}{s:Nat}
def jw(Ag:i<=m)(a:m<=j):Lk Ah i m++Lk Ah m j=Lk Ah i j:=by
 unfold Lk;have e:j-i=(m-i)+(j-m):=by rw[FO,Nat.sub_add_sub_cancel a Ag]
 rw[e,List.take_add,List.drop_drop,MV Ag]
def q9(h:i<J Ah):Lk Ah i (i+1)=[Ah.getD i 0]:=by unfold Lk;rw[SJ,WB h,CO,Dv h];rfl
def ad2(F:Hn g Ah AD)(Ag:s≠1)(h:N7 g AD Ah s i j):Ce g.aa g.Ad [s] (Lk Ah i j):=by
 by_cases t:g.Ad<=s;·have q:=h.2;rw[ao t] at q;exact(F.2 _ q).2.2
 ·have q:=h.2;rw[ai t] at q;obtain⟨rfl,e⟩:=q;rw[q9 h.1.2,e];calc .FG (NA t) Ag .nil
def ra(F:Hn g Ah AD):∀{Bm:-Nat} {i:Nat},(∀s∈Bm,s≠1)->Me g AD Ah Bm i j->i<=J Ah->(i<=j/\j<=J Ah)/\Ce g.aa g.Ad Bm (Lk Ah i j)
 |[],i,_,h=>λa=>by have h:i=j:=h;subst h;calc {{CE _,a},?_};unfold Lk;rw[WH];calc .nil|s::Bm,i,Ag,⟨m,h,q⟩=>λa=>by obtain⟨⟨b,c⟩,d⟩:=ra F (λs a=>Ag s<|.tail _ a) q h.1.2;calc {{h.1.1\b,c},?_};rw[<-jw h.1.1 b];calc(ad2 F (Ag s<|.head _) h).cx d
def ZF(g:AK)(Ah:-Nat)(AD:FU)(r:Bp):Prop:=∀o,o<=J Ah->∀j,Me g AD Ah r.r o j->(r.l,o,j)∈CB AD
def ad3(j:g.G3)(F:Hn g Ah AD)(A4:∀r∈g.aa,ZF g Ah AD r)(h:Ce g.aa g.Ad Bm u):∀i,i+J u<=J Ah->Lk Ah i (i+J u)=u->Me g AD Ah Bm i (i+J u):=by
 cases h with
 |nil=>calcλi Z Z=>rfl|@FG s Bm v l q _ m=>
  intro i a e;have d:=Cw (Pm<|F0 _) a;have c:i+(s::v).length=i+1+J v:=by rw[Gb,El,FO 1]
  rw[c] at a e⊢;rw[<-jw (Ex i) (CD _ _),q9 d] at e;have e:=Ge e;calc {i+1,{{Ex i,d},by rw[ai<|X5.mpr l];calc {rfl,e.1}},m _ a e.2}
 |@aO r Bm u v f _ _ o p=>
  intro i a e;have c:i+(u++v).length=i+J u+J v:=by rw[BD,El]
  rw[c] at a e⊢;have b:=CD _ _\a;rw[<-jw (CD i<|J u) (CD _<|J v)] at e;have bG:(Lk Ah i<|i+J u).length=J u:=by rw[WA,X4,SJ];exact Wz<|Aj0<|FO i _▸b
  have e:=List.append_inj e bG;calc {i+J u,{{CD _ _,b},by rw[ao<|j.2 r f];calc A4 r f i (CD _ _\b) _<|o i b e.1},p _ a e.2}
def ad4(Ag:x.2.1<=2)(a:x.2.2<=2):x∈AdF x.1:=Yc.mpr {x.2.1,cV<|Iu Ag,dM {x.2.2,cV<|Iu a,rfl}}
def rb:∀l:-Nat,(l.flatMap AdF).length=9*(J l)
 |[]=>rfl|a::l=>by rw[VD,BD,rb l,Gb,Wv,FO];rfl
def Hn.ef(b:g.CA)(a:J Ah<=2)(F:Hn g Ah AD):J AD<=9*(Dt g).length:=by rw[<-rb,<-Bq (·.1)];calc ey F.1 λx c=>?_;have q:=F.2 x c;calc Yc.mpr {x.1,(cA b).mpr q.1,ad4 (q.2.1.1\(q.2.1.2\a))<|q.2.1.2\a}
def ad5(G:Bt w g)(d:J Ah<=2)(F:Hn g Ah AD)(h:(g.Ad<=x.1/\x.1<J g.Aq)/\(x.2.1<=x.2.2/\x.2.2<=J Ah)/\Ce g.aa g.Ad [x.1] (Lk Ah x.2.1 x.2.2))(n:x∉CB AD):Hn g Ah (B9 AD x Y)/\Mf g (B9 AD x Y)<Mf g AD:=by
 have FA:Hn g Ah (B9 AD x Y):=⟨je F.1,λy c=>by unfold CB at c;rw[dr,ai n] at c;exact(aN c).elim (F.2 y) λe=>by rw[aF e];calc h⟩
 have e:=ah J<|dr (AE:=AD) (a:=x) (b:=Y);rw[ai n,Bq,BD,Bq] at e;have f:=FA.ef G.1.1.1.1 d;rw[e] at f;calc {FA,?_};unfold Mf;rw[e];calc Rg f<|EM _
def Hn.aB(G:Bt w g)(a:J Ah<=2)(F:Hn g Ah AD):AP (J AD):=F.ef G.1.1.1.1 a\(Hd 9 (cY G)\∅)
def ad6(G:Bt w g)(b:J Ah<=2)(F:Hn g Ah AD)(d:(g.Ad<=s/\s<J g.Aq)/\(o<=j/\j<=J Ah)/\Ce g.aa g.Ad [s] (Lk Ah o j))(e:(s,o,j)∈CB AD->P.av (Ho g Ah s i AN o j AD z))(f:∀a,Hn g Ah a->Mf g a<Mf g AD->P.av (Ho g Ah s i AN o j a Y)):Aaf.wp W (Ho g Ah s i AN o j AD z) P:=by
 refine bZ (z:=(C1 AD (s,o,j)).isSome) (λc=>?_) λc=>?_
 ·rw[f3] at c;have Bu:=ad5 (x:=(s,o,j)) G b F d<|b2 c;exact {F.aB G b,f _ Bu.1 Bu.2}
 ·rw[f3] at c;calc e<|aL c
def ad7(G:Bt w g)(e:J Ah<=2)(F:Hn g Ah AD)(b:r∈g.aa)(Ag:∀s∈r.r,s≠1)(h:o<=J Ah)(p:(∀j,Me g AD Ah r.r o j->(r.l,o,j)∈CB AD)->P.av (Ho g Ah r.l i r.r o 0 AD z))(x:∀a,Hn g Ah a->Mf g a<Mf g AD->P.av (Ho g Ah r.l i r.r o 0 a Y)):Aag.wp (w^^k+1) (Ho g Ah r.l i r.r o 0 AD z) P:=by
 have m:=G.1.1.1.1.4 r b;refine(ad1 (k:=k) (AD:=AD) G.1.1.1.1 m.2 (G.1.3 r b) e h).aq λAl f=>{f.bj e\∅,q7 (t:=O) (Ho g Ah r.l i r.r o 0) (Hn g Ah) (Mf g) (λa j=>(r.l,o,j)∈CB a) F (λa y j AV A FA B C=>?_) (λc=>p λj q=>c j<|(f.3 j).mpr q) x}
 show Aaf.wp _ (Ho g Ah r.l i r.r o j a y) _;have S:=ra F Ag ((f.3 j).mp A) h;have d:=Ce.aO b S.2 .nil;rw[Ct] at d;calc ad6 G e FA {{G.1.1.1.2 r b,m.1},S.1,d} B C
def ad8(G:Bt w g)(d:J Ah<=2)(F:Hn g Ah AD)(e:r∈g.aa)(AW:r.l=s)(A3:r.r=AN)(Ag:∀s∈r.r,s≠1)(f:ZF g Ah AD {s,AN,0}->P.av (Ho g Ah s i AN 0 0 AD z))(h:∀b,Hn g Ah b->Mf g b<Mf g AD->P.av (Ho g Ah s i AN 0 0 b Y)):Aah.wp (w^^k+1) (Ho g Ah s i AN 0 0 AD z) P:=by subst AW A3;show AcY.wp _ (Ho g Ah r.l i r.r 0 0 AD z) _;calc q8 (t:=O) (Ho g Ah r.l i r.r 0 0) (Hn g Ah) (Mf g) (λa o=>∀j,Me g a Ah r.r o j->(r.l,o,j)∈CB a) (xs:=Cn 0<|J Ah+1) (λQ q=>{(d\∅),GX d\∅,q}) F (λb m o AV a FA p x=>?_) (λc=>f λo a=>c o<|XK.mpr {C9 _,by rw[EV];calc Iu a}) h;have a:=(cJ a).2;rw[EV] at a;show Aag.wp _ (Ho g Ah r.l i r.r o 0 b m) _;calc ad7 G d FA e Ag (Mm a) p x
def Bt.rd(G:Bt w g)(b:r∈g.aa)(hs:s∈r.r):s≠1:=by
 clear w g s r _ G b hs;calc ak (SS b) λi a=>?_;cases i using Nat.casesOn with
 |zero=>
  rw[G.11] at a;delta a;rcases aK hs with rfl|h
  ·exactλe=>ar (Qx e)<|Ha<|Cw ∅ G.3
  ·rw[aF h];decide
 |succ i=>calc Ha<|Cw ∅ ((G.12 i r a).2 s hs).1
def ZG(g:AK)(Ah:-Nat)(AD:FU):Prop:=Em
 (AP<|J AD)
 (∀s,g.Ad<=s->s<J g.Aq->((s,0,J Ah)∈CB AD↔Ce g.aa g.Ad [s] Ah))
def ad9(G:Bt w g)(b:J Ah<=2):Ut.BZ (w^^k+2) (C5 g,Ah,()) (ZG g Ah):=by
 clear w k g Ah _ G b;calc aY aa0 ?_;show AcJ.wp _ (Ho g Ah 0 0 [] 0 0 [] Y) _;refine fQ (Ho g Ah 0 0 [] 0 0) (Hn g Ah) (λa=>∀s∈Dt g,∀e∈EH g s,ZF g Ah a {s,e.2,0}) (Mf g) rfl (λZ Z Z q=>q) (λAD AV F d=>?_) {HL,az} λAD F h=>{F.aB G b,λs t hs=>{λq=>?_,λq=>?_}}
 ·show AcV.wp _ (Ho g Ah 0 0 [] 0 0 AD Ab) _;calc g7 (t:=Ac) (Ho g Ah 0 0 [] 0 0) (Hn g Ah) (Mf g) (λa s=>∀e∈EH g s,ZF g Ah a {s,e.2,0}) (xs:=Dt g) rfl (λZ q=>{dZ G,(df (g:=g)).symm▸q}) (λAD z s E hs F f j=>?_) F λa z F p b=>d a z F p λe=>(b e).1▸(b e).2;have hs:=(cA G.1.1.1.1).mp hs;show AcU.wp _ (Ho g Ah s 0 [] 0 0 AD z) _;calc q8 (t:=A0 O<|Ar Ac) (Ho g Ah s 0 [] 0 0) (Hn g Ah) (Mf g) (λa e=>ZF g Ah a {s,e.2,0}) (xs:=EH g s) (λZ q=>{_,cu G.1.1.1.1 hs.1 hs.2,fK G\∅,q}) F (λx y e H A FA B C=>?_) f j;obtain⟨r,a,AW,A3⟩:=ez G A;show Aah.wp _ (Ho g Ah s e.1 e.2 0 0 x y) _;exact ad8 G b FA a AW A3 (λs=>G.rd a) B C
 ·have:=(F.2 _ q).2.2;unfold Lk at this;rw[kr,tW,VA] at this;exact this
 ·have S:=ad3 G.1.1.1 F (λr a=>(e7 a).elim λi D=>h r.l ((cA G.1.1.1.1).mpr {G.1.1.1.2 r a,(G.1.1.1.1.4 r a).1}) _ D) q 0 (Di<|EV _) (by rw[EV];unfold Lk;rw[kr,tW,VA]);obtain⟨m,o,e⟩:=S;have c:=o.2;rw[ao t,e,EV] at c;calc c
end
section
variable{w:Bk}{k:Nat}{g:AK}{W:GQ}{s:Nat}{Bm u Ah:-Nat}
def rf{R:-Bp}{Ad:Nat}(h:Ce R Ad Bm u):∀s∈Bm,Ei R (λs=>s<Ad) s:=by
 cases h with
 |nil=>calc az|FG a _ _ b=>calc b9 {.ba a,b}|aO c _ _ e f=>calc b9 {.aO c e,f}
def aea(G:Bt w g)(h:Mb g s):s≠1->∃u,Ce g.aa g.Ad [s] u:=by
 clear w g s _ G h;cases h with
 |ba q=>calcλn=>{_,.FG q n .nil}
 |@aO r c _ e=>
  intro _;have key:∀w:-Nat,(∀s∈w,∃u,Ce g.aa g.Ad [s] u)->∃u,Ce g.aa g.Ad w u:=λw=>by
   cases w with
   |nil=>calcλZ=>{[],.nil}
   |cons a w f=>exactλh=>(h a<|.head _).elim λu b=>(f λs a=>h s<|.tail _ a).elim λv a=>{u++v,b.cx a}
  calc(key r.r λs a=>e s a<|G.rd c a).elim λu b=>{_,.aO c b .nil}
def aeb{R:-Bp}{Ad:Nat}(h:Ce R Ad Bm u):∀x∈u,x<Ad:=by
 cases h with
 |nil=>calc az|FG a _ _ b=>calc b9 {a,b}|aO _ _ _ c e=>calcλx f=>(aN f).elim (c x)<|e x
def MT.eb(F:MT g W)(h:Ce g.aa g.Ad [s] u):∃a,W.getD s Ai=U a/\J a<=J u:=by clear g W s u _ F h;calc ae (F.3 [s] u h) λx e l=>?_;obtain⟨a,AW,b,A3,DU⟩:=fT.mp e;cases A3;calc {a,AW,by rw[<-DU,Ct] at l;calc l}
def aec(G:Bt w g)(F:MT g W)(t:g.Ad<=s):(W.getD s Ai).isNone=!BA g s:=by
 calc cn<|Wi.trans ?_;rw[EJ,<-km,cF];calc {λe p=>?_,λn=>?_};·calc ak (aea G p<|Ha<|Cw (Cw ∅ G.3) t) λu b=>ae (F.eb b) λa A3 Z=>?_;cases D8 e.symm A3
 ·cases e:W.getD s Ai with
  |none=>rfl|some a=>calc ar (rf (F.1.3 s a e) s<|.head _) n
def UY(g:AK)(aP:↑↑Nat)(sp:-(-Nat×FU)):Prop:=Dy
 (∀x,x∈aP↔N3 g x)
 (AP<|J aP)
 (∀Ah AD,C1 sp Ah=U AD->ZG g Ah AD)
def LQ(g:AK)(aP:↑↑Nat)(sp:-(-Nat×FU))(W:GQ)(s:Nat)(Et:↥↑Nat)(AD:↥FU)(d:-Nat)(Ej:↥↑Nat):Ao Lf:=(g,C5 g,GR g<|BA g,aP,sp,W,s,Et,AD,d,Ej,())
variable{aP:↑↑Nat}{sp:-(-Nat×FU)}{Et:↥↑Nat}{AD:↥FU}{d:-Nat}{P:FK Lf Aj}
def aed{z:Bool}{R:Prop}{A B:Prop}(h:z=Y->R)(k:B):E2 .And z R λb=>if b=Y then A else B:=bO h λZ=>k
def f5{p A B:Prop}{i:Decidable p}(h:p)(k:B):if(!@decide p i)=Y then A else B:=by rw[@aJ p i h];calc k
def fS{f:Bk}(G:Bt w g)(j:f.AA=w.AA)(I:UY g aP sp)(F:MT g W)(hs:g.Ad<=s/\s<J g.Aq)(h:P.av (LQ g aP sp W s (W.getD s Ai) AD [] Ai)):Aaj.wp f (LQ g aP sp W s (W.getD s Ai) AD [] Ai) P:=by
 clear w g W s aP sp AD P f _ G j I F hs h;calc {g.Ad+1,congrFun j _^G.9,aed (λc=>?_) h};have c:s=g.Ad+1:=aL c;cases e:W.getD s Ai with
 |none=>
  rw[e] at h;calc h
 |some a=>
  have m:AP (J a):=F.1.ed G.1 s a e\∅;rw[e] at h;calc {I.2,I.2,λ(x:-Nat)=>decide<|J x<J a,id,λ(x:-Nat) i=>{{((I.1 x).mp i).2\∅,a,rfl,m,rfl},λZ=>rfl},f5 ?_ h};rw[EW];calc Pq.mpr λx i z=>ae (F.eb<|G.6▸((I.1 x).mp i).1) λb A3 l=>?_;rw[<-c,e] at A3;delta A3;calc bz l<|aL z
def aee{b:Bk}{a:-Nat}(I:UY g aP sp)(F:MT g W)(hs:g.Ad<=s/\s<J g.Aq)(e:W.getD s Ai=U a)(f:AP (J a))(Ax:AD=C1 sp a)(h:P.av (LQ g aP sp W s (U a) AD [] Ai)):Aai.wp b (LQ g aP sp W s (U a) AD [] Ai) P:=by
 cases AD with
 |none=>calc h|some AD=>
  calc {a,rfl,f,AD,rfl,bZ (z:=(C1 AD (s,0,J a)).isSome) (λc=>?_) λZ=>h};rw[f3] at c;calc ar (((I.3 a AD Ax.symm).2 s hs.1 hs.2).mpr<|F.1.3 s a e)<|b2 c
def eb(G:Bt w g)(I:UY g aP sp)(F:MT g W)(hs:g.Ad<=s/\s<J g.Aq)(h:∀AD,P.av<|LQ g aP sp W s (W.getD s Ai) AD [] Ai):Aak.wp (w^^k+1) (LQ g aP sp W s Ai Ai [] Ai) P:=by
 clear w k g W s aP sp P _ G I F hs h;refine(e8 G hs.2).aq λy i=>{s,i,{F.1.1.symm▸hs.2,G.1.1.1.1.aw hs.2},?_}
 show Ac0.wp _ (LQ g aP sp W s (W.getD s Ai) Ai [] Ai) _;calc {BA g s,cu G.1.1.1.1 hs.1 hs.2,dG (aec G F hs.1) ?_};show AcO.wp _ (LQ g aP sp W s (W.getD s Ai) Ai [] Ai) _;cases e:W.getD s Ai with
 |none=>
  have:=fS G rfl I F hs (h Ai);rw[e] at this;calc this
 |some a=>
  have b:AP (J a):=F.1.ed G.1 s a e\∅;have f:=aeb<|F.1.3 s a e;have q:∀AD,AD=C1 sp ((a.filter λZ=>Y).map<|Es g)->Aai.wp (w^^k+1) (LQ g aP sp W s (U a) AD [] Ai) (IQ Aaj (w^^k+1) P):=λa d=>aee I F hs e b ((b8 _ _^hx G λx c=>DQ (f x c) G.1.1.1.1.2)▸d) (by
   have:=fS G rfl I F hs (h a);rw[e] at this;calc this)
  calc {a,rfl,b,b,λZ=>Y,Es g,λ(x:Nat) c=>{rfl,λZ=>{{DQ (f x c) G.1.1.1.1.2,G.1.1.1.1.aw<|DQ (f x c) G.1.1.1.1.2},rfl}},(cR\b),q _ rfl}
end
section
variable{w:Bk}{k:Nat}{g:AK}{W:GQ}{aP:↑↑Nat}
def aef(G:Bt w g):Fh (Dt g) (U 1) (U 3)=[g.Ad+1,g.Ad+2]:=by calc ak (Nat.exists_eq_add_of_le G.4) λm a=>?_;unfold Dt;rw[a,El,SJ,FO 3];rfl
def rg(G:Bt w g)(F:MT g W)(a:Ej=Ga W [g.Ad+1,g.Ad+2,0]):Aal.wp (w^^k+3) (LQ g aP sp W 0 Ai Ai [g.Ad+1,g.Ad+2,0] Ej) (Cp (·=Y)):=by
 have N:=G.4;have lt:∀s∈[g.Ad+1,g.Ad+2,0],s<J g.Aq:=by
  intro s hs;rcases aK hs with rfl|hs
  ·exact Cw (Lq ∅ _) N
  rcases aK hs with rfl|hs
  ·exact Cw (Lq ∅ _) N
  rw[aF hs];exact Cw (F0 _) N
 calc(acn G.1 lt (by show 3<=5;decide)).aq λy b=>?_;calc ae b λd c e=>?_;rw[c.ee F] at e;calc aJ<|e^a.symm
def rh(c:o.isNone=Ab):∃a,o=U a:=by
 cases o with
 |none=>delta c|some a=>calc {a,rfl}
def aeg(G:Bt w g)(F:MT g W):Ac2.wp (w^^k+3) (LQ g aP sp W 0 Ai Ai [g.Ad+1,g.Ad+2,0] Ai) (Cp (·=Y)):=by
 clear w k g W aP sp _ G F;have N:=G.4;have Ag:g.Ad+1<J g.Aq:=Cw (Lq ∅ _) N;have i:g.Ad+2<J g.Aq:=Cw (Lq ∅ _) N;have z:W.getD 0 Ai=U [0]:=F.1.2 0 (Cw ∅ G.3) ∅;have f:(0<[g.Ad+1,g.Ad+2,0].length/\Cu 0)/\g.Ad+1<J W/\Cu (g.Ad+1):={{by show 0<3;decide,by show 0<1000000;decide},F.1.1.symm▸Ag,G.1.1.1.1.aw Ag}
 have h:(1<[g.Ad+1,g.Ad+2,0].length/\Cu 1)/\g.Ad+2<J W/\Cu (g.Ad+2):={{by show 1<3;decide,by show 1<1000000;decide},F.1.1.symm▸i,G.1.1.1.1.aw i}
 have no:Ga W [g.Ad+1,g.Ad+2,0]=Ai->Aal.wp (w^^k+3) (LQ g aP sp W 0 Ai Ai [g.Ad+1,g.Ad+2,0] Ai) (Cp (·=Y)):=λe=>rg G F e.symm;refine {f.1,f.2,bH (z:=(W.getD (g.Ad+1) Ai).isNone) (λc=>?_) λc=>{h.1,h.2,?_}}
 ·calc no ?_;rw[ec,Wi.mp c];rfl
 obtain⟨a,AW⟩:=rh c;refine bH (z:=(W.getD (g.Ad+2) Ai).isNone) (λd=>?_) λd=>?_
 ·calc no ?_;rw[ec,AW,WG,ec,Wi.mp d];rfl
 ·obtain⟨b,A3⟩:=rh d;have q:=rg (k:=k) (aP:=aP) (sp:=sp) (Ej:=U<|a++b++[0]) G F (by
   rw[ec,AW,WG,ec,A3,WG,ec,z,WG];show U (a++b++[0])=U (a++(b++([0]++[])));rw[Ct,Dr])
  have j:=F.1.ed G.1 _ _ AW;have a3:=F.1.ed G.1 _ _ A3;calc {f.1,f.2,a,AW,h.1,h.2,b,A3,{j\∅,a3\∅},{?_,dd},q};show AP (a++b).length;rw[BD];calc EL j a3\∅
def aeh(G:Bt w g)(I:UY g aP sp):Uu.BZ (w^^k+4) (g,C5 g,GR g<|BA g,aP,sp,()) (·=Y):=by
 clear w k g aP sp _ G I;calc aY aa1<|(qc (k:=k+1) G.1).aq λW F=>?_;show Ac1.wp _ (LQ g aP sp W 0 Ai Ai [] Ai) (IQ Ac3 _ _);refine c2 (t:=Ac) (xs:=Dt g) (λZ=>LQ g aP sp W 0 Ai Ai [] Ai) (λZ q=>{dZ G,(df (g:=g)).symm▸q}) rfl (λAl s l AV e b=>?_) ?_
 ·have hs:=(cA G.1.1.1.1).mp<|e▸BH _ (.head _);show Aak.wp _ (LQ g aP sp W s Ai Ai [] Ai) _;exact eb (k:=k+2) G I F hs λa=>b
 ·have c:AP (Dt g).length:=cY G\∅;have Co:AP ((C5 g).map λx=>x.1).length:=by rw[df];exact c
  have N:=G.4;have e:Fh ((C5 g).map λx=>x.1) (U 1) (U 3)=[g.Ad+1,g.Ad+2]:=by rw[df];exact aef G
  have DZ:AP (Fh ((C5 g).map λx=>x.1) (U 1)<|U 3).length:=by rw[e];show 2<=1000000;decide
  have d:∀x∈Fh ((C5 g).map λx=>x.1) (U 1) (U 3),x<J g.Aq:=λx a=>by
   rw[e] at a;rcases aK a with rfl|a
   ·exact Cw (Lq ∅ _) N
   ·rw[aF a];exact Cw (Lq ∅ _) N
  have q:=aeg (k:=k) (aP:=aP) (sp:=sp) G F;have A3:((Fh ((C5 g).map λx=>x.1) (U 1)<|U 3).filter λZ=>Y).map id++[0]=[g.Ad+1,g.Ad+2,0]:=by rw[b8,EW,e];rfl
  rw[<-A3] at q;calc {dZ G,Co,DZ,DZ,λZ=>Y,id,λ(x:Nat) a=>{rfl,λZ=>(e8 G<|d x a).aq λy f=>{x,f,rfl}},{cR\DZ,dd},q}
end
def HW(F3:Lh)(s t:Nat):-Nat:=(C1 F3 (s,t)).getD []
def N8(g:AK)(F3:Lh):Prop:=Em
 (∀s t,(HW F3 s t).length<=1)
 (∀s t j,j∈HW F3 s t↔j<J g.aa/\(g.aa.getD j Bz).l=s/\HE g (g.aa.getD j Bz) t)
def P7.iE(T:P7 g F3)(h:∀key,(Fx g g.aa.zipIdx key).length<=1):N8 g F3:=by
 have e:∀s t,HW F3 s t=Fx g g.aa.zipIdx (s,t):=λs t=>by unfold HW;rw[T.2,qe]
 calc {λs t=>(e s t)▸h (s,t),λs t j=>by rw[e];calc qj}
def Gr(g:AK)(F3:Lh)(row:-Nat):Nat->↑Nat->Nat->Prop
 |_,[],_=>True|0,_::_,_=>False|n+1,s::p,a=>(s<g.Ad->row[a]?=U s->Gr g F3 row n p (a+1))/\∀x j,¬s<g.Ad->row[a]?=U x->j∈HW F3 s x->Gr g F3 row n ((g.aa.getD j Bz).r++p) a
def ZH(ns:-Nat)(Co:Nat->Nat)(s:Nat):Nat:=(ns.filter λy=>decide<|Co y<Co s).length
def ri{Co:Nat->Nat}(ab:ns.Nodup)(b:z∈ns)(h:Co z<Co s):ZH ns Co z<ZH ns Co s:=by
 calc ey (l:=z::ns.filter λy=>decide<|Co y<Co z) (cw {λq=>Hq _<|aL (dO q).2,ab.filter _}) λx a=>?_;rcases aK a with rfl|a
 ·exact c4 {b,aJ h}
 ·calc c4 {(dt a),aJ<|DQ (aL (dO a).2) h}
def Na:Nat->Nat
 |0=>0|k+1=>3*Na k+1
def Qh(c:Nat):Nat->Nat
 |0=>0|k+1=>Qh c k+3*c+1
def LR(c f:Nat):Nat->Nat->Nat
 |0,_=>1|d+1,l=>l*c+(LR c f d (l+18)+1+f)
section
variable{w:Bk}{g:AK}{o:Lh}{row:-Nat}{n c:Nat}
def Gr.nil:Gr g o row n [] a:=by induction n<;>trivial
def Gr.up:∀{n m:Nat} {p:-Nat} {a:Nat},Gr g o row n p a->n<=m->Gr g o row m p a
 |n,m,[],a,_=>λZ=>by induction m<;>trivial|0,_,_::_,_,h=>λZ=>h.elim|n+1,0,_::_,_,_=>λq=>ar q<|Aj6 n|n+1,m+1,s::p,a,h=>λq=>{λa b=>(h.1 a b).up<|Z7 q,λx j a b d=>(h.2 x j a b d).up<|Z7 q}
def N8.only(H:N8 g o)(f:r∈g.aa)(m:HE g r t)(h:j∈HW o r.l t):g.aa.getD j Bz=r:=by
 obtain⟨i,e,rfl⟩:=Pn f;have d:g.aa.getD i Bz=g.aa[i]:=by rw[CO,Dv e];rfl
 have a:=(H.2 g.aa[i].l t i).mpr {e,by rw[d],d▸m};have Ag:=H.1 g.aa[i].l t;cases q:HW o g.aa[i].l t with
 |nil=>rw[q] at a;cases a|cons b l=>
  rw[q] at a h Ag;cases l using List.casesOn with
  |nil=>rw[aF h,<-aF a];calc d|cons c l=>calc ar Ag<|X5.mpr<|Wx<|F0 _
def Gr.eh(d:g.G3)(H:N8 g o)(b:r∈g.aa)(e:HE g r t)(f:row[a]?=U t)(h:Gr g o row n (r.r++p) a):Gr g o row (n+1) (r.l::p) a:=
 ⟨λq=>ar q<|bz<|d.2 r b,λx j Z i m=>by cases D8 f.symm i;rw[H.only b e m];calc h⟩
def aei(G:Bt w g)(H:N8 g o){Co:Nat->Nat}(j:∀y,CY g y->False\/∃r∈g.aa,r.l=y/\∀z∈r.r,CY g z/\Co z<Co y)(m:row[a]?=U t):∀(k y:Nat),ZH (Dt g) Co y<k->CY g y->DV g y t->∀n rest,Gr g o row n rest a->Gr g o row (n+Na k) (y::rest) a:=λk=>by
 cases k with
 |zero=>calcλy h=>ar h<|I2 _|succ k p=>
  intro y Ax s f n rest h;calc aE ((j y s).resolve_left id) λr b u d=>?_;subst u;calc Gr.eh (n:=n+3*Na k) G.1.1.1 H b (.inr {λz q=>(d z q).1,f}) m ?_;have key:∀w pre,r.r=pre++w->Gr g o row (n+J w*Na k) (w++rest) a:=λw=>by
   cases w with
   |nil=>exactλZ Z=>by rw[AjA,Nat.zero_mul];calc h|cons z w x=>
    intro pre e;have q:=d z<|e▸BH _ (.head _);have i:=G.1.1.1.aj q.1;rw[Gb,WL,<-El];refine p z (Cw (ri eg ((cA G.1.1.1.1).mpr {i,(G.1.1.1.1.4 r b).2 z<|e▸BH _ (.head _)}) q.2)<|Mm Ax) q.1 (.up b e i (λv a=>(d v<|e▸BH _ (.tail _ a)).1) f) _ _<|x (pre++[z]) (by rw[e,Dr];rfl)
  calc(key r.r [] rfl).up<|Du (Lr _<|G.1.3 r b) _
def rj(G:Bt w g){Co:Nat->Nat}:ZH (Dt g) Co y<6:=Iu<|Ro _ _\cY G
def aej(G:Bt w g)(H:N8 g o){Co:Nat->Nat}(j:∀b,DF g.aa g.Ad b t->(b<g.Ad/\b=t)\/∃r∈g.aa,r.l=b/\BV (CY g) (λz Z=>DF g.aa g.Ad z t/\Co z<Co b) r.r t)(p:row[a]?=U t)(u:∀y,CY g y->DV g y t->∀n rest,Gr g o row n rest a->Gr g o row (n+c) (y::rest) a)(Ax:∀rest,J rest<=m->Gr g o row n (t::rest) a):
  ∀(k y:Nat),ZH (Dt g) Co y<k->DF g.aa g.Ad y t->g.Ad<=y->∀rest,J rest+3*k<=m->Gr g o row (n+Qh c k) (y::rest) a:=λk=>by
 cases k with
 |zero=>calcλy h=>ar h<|I2 _|succ k x=>
  intro y A B C rest f;calc aE ((j y B).resolve_left λz=>bz C z.1) λr d D i=>?_;subst D;rw[show n+Qh c (k+1)=n+Qh c k+3*c+1 by show n+(Qh c k+3*c+1)=_;rw[<-El,<-El]];calc Gr.eh G.1.1.1 H d (.inl<|i.eA λs q=>q.1) p ?_;have key:∀w pre,r.r=pre++w->BV (CY g) (λz Z=>DF g.aa g.Ad z t/\Co z<Co r.l) w t->Gr g o row (n+Qh c k+J w*c) (w++rest) a:=λw=>by
   cases w with
   |nil=>calcλZ Z h=>ar h BV.nil|cons b w E=>
    intro pre e h;rcases BV.cons.mp h with q|q
    ·have le:(w++rest).length+1<=J rest+3:=by have:=G.1.3 r d;rw[e,BD,Gb] at this;rw[BD,Hb,FO _<|J rest];exact Du (Iv _ _\this) _
     by_cases o:g.Ad<=b;·calc(x b (Cw (ri eg ((cA G.1.1.1.1).mpr {o,(G.1.1.1.1.4 r d).2 b<|e▸BH _ (.head _)}) q.2)<|Mm A) q.1 o (w++rest) ?_).up<|CD _ _;calc G8 (SK le) _\?_;rw[El,FO 3];exact f
     ·have:=q.1.low G.1.1.1<|NA o;subst this;exact(Ax (w++rest)<|SK le\(Du (Ai9 3<|F0 k) (J rest)\f)).up<|CD _ _\CD _ _
    ·rw[Gb,WL,<-El];exact u b q.1 (.aU d e (G.1.1.1.aj q.1)<|q.2.eA λs z=>z.1) _ _<|E (pre++[b]) (by rw[e,Dr];rfl) q.2
  calc(key r.r [] rfl i).up<|Du (Lr _<|G.1.3 r d) _
def hy:∀{d l m:Nat},l<=m->LR c f d l<=LR c f d m
 |0,_,_=>λZ=>CE _|d+1,l,m=>λh=>EL (Lr _ h)<|G8 (G8 (hy<|G8 h 18) 1) _
def aek:LR c f (d+1) l+c<=LR c f (d+1) (l+1):=by show l*c+(LR c f d (l+18)+1+f)+c<=(l+1)*c+(LR c f d (l+1+18)+1+f);rw[WL,Hb];calc Du (G8 (G8 (hy<|G8 (Ex l) 18) 1) f) _
def ael(G:Bt w g)(H:N8 g o)(A4:Na 6=c)(z:Qh c 6=f):∀(d a:Nat),J row<=a+d->∀p,Gr g o row (LR c f d<|J p) p a:=by
 clear w g o row c f _ G H A4 z;exactλd=>by
  cases d with
  |zero=>
   intro a h p;have no:row[a]?=Ai:=Ws h;cases p using List.casesOn with
   |nil=>calc Gr.nil|cons s p=>
    calc {λZ q=>(nomatch D8 no.symm q),λx j Z q=>(nomatch D8 no.symm q)}
  |succ d i=>
   intro a C p;have i:=i (a+1) (by rw[El,FO 1];calc C);calc ak (qv g.aa λZ=>False) λE9 D=>?_;cases p with
   |nil=>calc Gr.nil|cons s p E=>
    by_cases q:∃t j,¬s<g.Ad/\row[a]?=U t/\j∈HW o s t
    ·calc a8 q λt j hs h F=>?_;calc cT ((H.2 s t j).mp F) λI L b=>?_;subst L;have A:=bJ (d:=Bz) I;have B:=λy a r n b u=>A4▸aei G H D h 6 y (rj G) a r n b u;rcases b with b|b
     ·calc ak (qG g.aa g.Ad t) λCo M=>?_;have main:=aej (n:=LR c f d (((g.aa.getD j Bz).l::p).length+18)+1) (m:=J p+18) G H M h B (λa N=>{λZ Z=>(i a).up<|hy<|N\G8 (Ex _) 18,λx j a Q Z=>ar (HD.lt b) a}) 6 _ (rj G) (BV.aO A b) (Mn hs) p<|CE _;rw[z] at main;exact main.up<|Iv _ _
     ·exact(B _ (.aO A b.1) b.2 _ _ E).up aek
    ·have pos:∃m,LR c f (d+1) (s::p).length=m+1/\LR c f d (J p)<=m:=⟨(s::p).length*c+(LR c f d ((s::p).length+18)+f),by
      show(s::p).length*c+(LR c f d ((s::p).length+18)+1+f)=_;rw[Hb _ 1];rfl,hy (Ex _\CD _ _)\(CD _ _\Iv _ _)⟩
     calc ae pos λm e P=>?_;rw[e];calc {λZ Z=>(i p).up P,λx j a r u=>ar {x,j,a,r,u} q}
end
def Nr(Ad L:Nat)(p:-Nat)(a:Nat):Prop:=(p=[]/\a=L)\/a<L/\∃q e,p=q++[e]/\(e=0\/e=Ad)/\∀y∈q,y≠0/\y≠Ad
def Su(g:AK)(p:-Nat):Prop:=∀pre s post,p=pre++s::post->g.Ad<=s->∀t,HD g post t->DV g s t
def T8(Ad:Nat)(row:-Nat):Prop:=Em
 (∀x∈row,x<Ad/\x≠1)
 (∀i x,row[i]?=U x->(x=0↔i+1=J row))
def AdG(g:AK)(x:-Nat×Nat)(j:Nat)(y:-Nat×Nat):Prop:=∃u s v,x.1=u++s::v/\x.2<=J u/\(∀z∈u,z<g.Ad)/\(j<J g.aa/\(g.aa.getD j Bz).l=s)/\y=(u++((g.aa.getD j Bz).r++v),J u)
def Q8(g:AK):-Nat->↑Nat×Nat->↑Nat×Nat->Prop
 |[],x,y=>x=y|j::a,x,y=>∃z,AdG g x j z/\Q8 g a z y
section
variable{w:Bk}{g:AK}{f:Lh}{row p AG v Bm:-Nat}{a s x L:Nat}
def Q8.bN:∀{AG:-Nat} {x y:-Nat×Nat},Q8 g AG x z->AdG g z j y->Q8 g (AG++[j]) x y
 |[],_,_,e=>λh=>{_,e▸h,rfl}
 |_::_,_,_,⟨q,Ag,b⟩=>λh=>{q,Ag,Q8.bN b h}
def Bt.ay(G:Bt w g)(c:r∈g.aa)(h:r.l=g.Ad):r.r=[g.Ad+1,0]:=by
 clear w g r _ G c h;calc ak (SS c) λi b=>?_;cases i using Nat.casesOn with
 |zero=>rw[G.11] at b;delta b;rfl|succ i=>calc ar h<|Ha (G.12 i r b).1
def Bt.aS(G:Bt w g)(c:r∈g.aa)(h:r.l≠g.Ad):∀y∈r.r,y≠0/\y≠g.Ad:=by
 clear w g r _ G c h;calc ak (SS c) λi b=>?_;cases i using Nat.casesOn with
 |zero=>rw[G.11] at b;delta b;calc ar rfl h|succ i=>calcλy d=>{Ha<|Cw ∅ ((G.12 i r b).2 y d).1,((G.12 i r b).2 y d).2}
def Nr.lt(h:Nr g.Ad L (s::p) a):a<L:=h.elim (λh=>nomatch h.1) Z5
def Nr.jx(h:Nr g.Ad L (s::p) a)(hs:s≠0/\s≠g.Ad):Nr g.Ad L p a/\p≠[]:=by
 clear g p a s L _ h hs;rcases h with h|⟨Ag,q,e,b,c,d⟩
 ·(injection h.1<;>subst_vars)
 ·cases q using List.casesOn with
  |nil=>delta b;calc(c.elim hs.1 hs.2).elim|cons y q=>delta b;calc {.inr {Ag,q,e,rfl,c,λy i=>d y<|.tail _ i},Yg _<|Wy _ _}
def Nr.eh(G:Bt w g)(h:Nr g.Ad L (r.l::p) a)(c:r∈g.aa):Nr g.Ad L (r.r++p) a:=by
 clear w g p a L r _ G h c;by_cases e:r.l=g.Ad
 ·rw[G.ay c e];rcases h with h|⟨Ag,q,j,b,m,d⟩
  ·(injection h.1<;>subst_vars)
  ·cases q using List.casesOn with
   |nil=>
    injection b with b o
    subst o;calc .inr {Ag,[g.Ad+1],0,rfl,.inl rfl,λy i=>by rw[aF i];calc {kl _,Wu _}}
   |cons y q=>
    injection b with b o
    exact ar (b▸e) (d y<|.head _).2
 ·have t:=h.jx {Ha<|Cw (Cw ∅ G.3)<|G.1.1.1.2 r c,e};rcases t.1 with h|⟨Ag,q,j,b,m,d⟩
  ·exact ar h.1 t.2
  ·calc .inr {Ag,r.r++q,j,by rw[b,Dr],m,λy i=>(aN i).elim (G.aS c e y)<|d y}
def Nr.jy(b:T8 g.Ad row)(h:Nr g.Ad (J row) (t::p) a)(c:row[a]?=U t)(d:t<g.Ad):Nr g.Ad (J row) p (a+1):=by
 clear g row p a t _ b h c d;have i:=b.2 a t c;rcases h with h|⟨Ag,q,e,j,l,m⟩
 ·(injection h.1<;>subst_vars)
 ·cases q using List.casesOn with
  |nil=>delta j;calc .inl {rfl,i.mp<|l.resolve_right<|EX d}|cons y q=>cases j;calc .inr {SX Ag λz=>(m t<|.head _).1<|i.mpr z,q,e,rfl,l,λy o=>m y<|.tail _ o}
def Ce.aj(h:Ce g.aa g.Ad Bm v)(b:v=[]):∀y∈Bm,CY g y:=by
 cases h with
 |nil=>calc az|FG _ _ _=>delta b|aO Ag _ _ c d=>
  calc aC (AiR.mp b) λa b=>b9 {.aO Ag<|c a,d b}
def Ce.f6(h:Ce g.aa g.Ad Bm v):∀{x:Nat} {u:-Nat},v=x::u->HD g Bm x:=by
 cases h with
 |nil=>calc nofun
 |FG Ag _ _=>intro x u e;delta e;calc .Sd<|.bS Ag|@aO r Bm u v Ag b _ c d=>
  intro x i e;cases u using List.casesOn with
  |nil=>calc .aX (.aO Ag<|b.aj rfl)<|d e|cons y u=>delta e;calc .Sd<|BV.aO Ag<|c rfl
def rk(b:g.G3)(h:Ce g.aa g.Ad (s::p) (x::v))(hs:s<g.Ad):s=x/\Ce g.aa g.Ad p v:=by
 clear g p v s x _ b h hs;generalize AW:s::p=Bm at h;generalize A3:x::v=w at h;cases (h)with
 |nil=>delta AW|FG _ _ q=>delta AW;delta A3;calc {rfl,q}|aO c _ _=>delta AW;calc ar hs<|bz<|b.2 _ c
def rl(hs:g.Ad<=s)(A8:Su g (s::p))(h:Ce g.aa g.Ad (s::p) (x::v)):∃r∈g.aa,r.l=s/\HE g r x/\Ce g.aa g.Ad (r.r++p) (x::v):=by
 clear g p v s x _ hs A8 h;generalize AW:s::p=Bm at h;generalize A3:x::v=w at h;cases (h)with
 |nil=>delta AW|FG h=>delta AW;calc ar h<|bz hs|@aO r d u e Ag b c=>
  delta AW;calc {r,Ag,rfl,?_,b.cx c};cases u using List.casesOn with
  |nil=>calc .inr {b.aj rfl,A8 [] r.l _ rfl hs x (c.f6 A3.symm)}|cons y u=>delta A3;calc .inl<|b.f6 rfl
def Su.jx(h:Su g (s::p)):Su g p:=λpre x post e=>h (s::pre) x post (by rw[e];rfl)
def Su.eh(i:g.G3)(h:Su g (r.l::p))(b:r∈g.aa):Su g (r.r++p):=λpre s post e a t d=>by
 rcases List.append_eq_append_iff.mp e with⟨c,AW,A3⟩|⟨c,AW,A3⟩
 ·exact h (r.l::c) s post (by rw[A3];rfl) a t d
 ·cases c using List.casesOn with
  |nil=>
   rw[kL] at A3;calc h [r.l] s post (by rw[<-A3];rfl) a t d
  |cons x c=>
   injection A3 with A3 DU
   subst A3 DU;calc(BV.DL.mp d).elim (.aU b AW a) λq=>.up b AW a q.1<|h [] r.l p rfl (i.2 r b) t q.2
def Mg(g:AK)(row p AG:-Nat)(a:Nat):Prop:=MO
 (Nr g.Ad (J row) p a)
 (∀v,Ce g.aa g.Ad p v->Ce g.aa g.Ad [g.Ad] (row.take a++v))
 (∃b,b<=a/\Q8 g AG ([g.Ad],0) (row.take a++p,b))
 (∀v:-Nat,(∀i,i<=a->v[i]?=row[i]?)->Ce g.aa g.Ad [g.Ad] v->Ce g.aa g.Ad p (v.drop a))
 (Su g p)
 (J p<=1+2*J AG)
def hz(h:v[a]?=U x):v.drop a=x::v.drop (a+1):=by calc ak (hN h) λb c=>?_;rw[WB b,c]
def rm(h:row[a]?=U x):row.take (a+1)=row.take a++[x]:=by rw[Vz,h];rfl
theorem Mg.Gg(b:0<J row):Mg g row [g.Ad] [] 0:=by
 clear g row _ b;calc⟨.inr {b,[],g.Ad,rfl,.inr rfl,az},λv h=>h,{0,CE 0,rfl},λv Z h=>h,λpre s post e Z t c=>by
   cases pre using List.casesOn with
   |nil=>delta e;calc ar c BV.nil|cons x pre=>injection e with _ e;calc ar e.symm (Yg _<|Wy _ _),CE _⟩
def Mg.jy(e:g.G3)(d:T8 g.Ad row)(K:Mg g row (s::p) AG a)(hs:s<g.Ad)(c:row[a]?=U s):Mg g row p AG (a+1):=⟨
 (K.1.jy d c hs),
 (λv h=>by rw[rm c,Dr];calc K.2 _<|.FG hs (d.1 s<|GK c).2 h),
 (K.3.elim λb h=>{b,Ml h.1,by rw[rm c,Dr];calc h.2}),
 (λv b h=>by have q:=K.4 v (λi j=>b i<|Ml j) h;rw[hz<|b a (Ex a)^c] at q;calc(rk e q hs).2),
 (K.5.jx),
 (SK K.6)⟩
def Mg.aem(b:g.G3)(K:Mg g row (s::p) AG a)(hs:s<g.Ad)(c:row[a]?=U x)(n:s≠x)(v:-Nat)(A8:∀i,i<=a->v[i]?=row[i]?):¬Ce g.aa g.Ad [g.Ad] v:=λh=>by have q:=K.4 v A8 h;rw[hz<|A8 a (CE a)^c] at q;calc n (rk b q hs).1
def Mg.none(H:N8 g f)(K:Mg g row (s::p) AG a)(hs:g.Ad<=s)(d:row[a]?=U x)(n:HW f s x=[])(v:-Nat)(A8:∀i,i<=a->v[i]?=row[i]?):¬Ce g.aa g.Ad [g.Ad] v:=λh=>by
 have q:=K.4 v A8 h;rw[hz<|A8 a (CE a)^d] at q;calc a6 (rl hs K.5 q) λr j e l Z=>?_;obtain⟨i,b,rfl⟩:=Pn j;have c:g.aa.getD i Bz=g.aa[i]:=by rw[CO,Dv b];rfl
 have:=(H.2 s x i).mpr {b,by rw[c];calc e,c▸l};rw[n] at this;cases this
def Mg.eh(G:Bt w g)(H:N8 g f)(l:T8 g.Ad row)(K:Mg g row (s::p) AG a)(m:row[a]?=U x)(i:j∈HW f s x):Mg g row ((g.aa.getD j Bz).r++p) (AG++[j]) a:=by
 clear w g f row p AG a s x j _ G H l K m i;obtain⟨o,t,D⟩:=(H.2 s x j).mp i;subst t;have c:=bJ (d:=Bz) o;calc {K.1.eh G c,λv h=>?_,K.3.elim λb h=>{a,CE a,h.2.bN {row.take a,_,p,rfl,?_,λz y=>(l.1 z<|tS y).1,{o,rfl},?_}},λv A8 h=>?_,K.5.eh G.1.1.1 c,?_};·obtain⟨u,E,e,Ag,A⟩:=h.hh;exact e▸K.2 _ (.aO c Ag A)
 ·rw[WA,Wz<|BY K.1.lt];exact h.1
 ·rw[WA,Wz<|BY K.1.lt]
 ·have q:=K.4 v A8 h;rw[hz<|A8 a (CE a)^m] at q⊢;obtain⟨r,B,e,C,q⟩:=rl (G.1.1.1.2 _ c) K.5 q;rw[H.only B C<|e▸i];exact q
 ·rw[BD,BD];calc EL (G.1.3 _ c) (Z7<|K.6\Di (FO 1 _))\Di (FO 3 _^(FO 1<|2*J AG+2).symm)
end
def N9(g:AK)(F3:Lh)(Ah row pl AG:-Nat)(a s:Nat)(rs:-Nat):Ao MP:=(g,F3,Ah,row,pl,AG,a,s,rs,0,())
def UU(g:AK)(row:-Nat)(y:Bool×(Nat⊕↑Nat)):Prop:=(y.1=Y/\∃AG,y.2=.inr AG/\J AG<=300000/\Ce g.aa g.Ad [g.Ad] row/\∃b,Q8 g AG ([g.Ad],0) (row,b))\/y.1=Ab/\∃b,y.2=.inl b/\∀v:-Nat,(∀i,i<=b->v[i]?=row[i]?)->¬Ce g.aa g.Ad [g.Ad] v
structure rn where
 n:Nat
 p:↑Nat
 AG:↑Nat
 a:Nat
def UJ(g:AK)(F3:Lh)(row:-Nat)(q:rn):Prop:=Dy
 (Mg g row q.p q.AG q.a)
 (Gr g F3 row q.n q.p q.a)
 (J q.AG+q.n<=300000)
section
variable{w:Bk}{k:Nat}{g:AK}{i:Lh}{Ah row AG m:-Nat}{a s n:Nat}
def aen(b:j<J g.aa)(f:J g.aa<=1000)(o:(g.aa.getD j Bz).r=r)(c:J r<=3)(u:J p<=600001)(y:AP (J AG))(h:P.av (N9 g i Ah row (r++p).reverse (AG++[j]) a s [j])):Ab9.wp W (N9 g i Ah row p.reverse AG a s [j]) P:=by
 calc {{by show 0<1;decide,by show 0<1000000;decide},y,?_};show Ab8.wp W (N9 g i Ah row p.reverse (AG++[j]) a s [j]) (IQ af W P);calc c2 (t:=O) (xs:=r.reverse) (λb=>N9 g i Ah row (p.reverse++b) (AG++[j]) a s [j]) (λQ q=>{{by show 0<1;decide,by show 0<1000000;decide},{Fb.symm▸b,(Cu.lt b<|f\∅)},?_}) (by rw[Ct]) (λAl x l AV e d=>{?_,by rw[<-Dr] at d;calc d}) (by rw[<-List.reverse_append];calc h);·show AP (J (kG g.aa.zipIdx j (Bz,0)).1.r)/\Q (kG g.aa.zipIdx j (Bz,0)).1.r.reverse;rw[fP b,o];exact {c\∅,q}
 ·show AP (p.reverse++Al).length;rw[BD,X1];calc EL u (dU e\(by rw[X1];calc c))\∅
def aeo(G:Bt w g)(H:N8 g i)(h:T8 g.Ad row)(x:J row<=3)(I:UJ g i row {n+1,s::p,AG,a})(z:∀q,UJ g i row q->q.n=n->P.av (N9 g i Ah row q.p.reverse q.AG q.a s<|HW i s<|row.getD q.a 0))
  (A4:∀q,UJ g i row q->q.n=n->P.Ft (N9 g i Ah row q.p.reverse q.AG q.a s m))(o:∀y,UU g row y->P.bW y):OV.wp (w^^k+1) (N9 g i Ah row p.reverse AG a s m) P:=by
 clear w k g i Ah row p _ AG m a s n P _ G H h x I z A4 o;have Cs:=I.1.1.lt;have f:row[a]?=U (row.getD a 0):=by rw[CO,Dv Cs];rfl
 have Pa:a<J row/\Cu a:={Cs,Cw Cs<|x\∅}
 have t:J AG+(n+1)<=300000:=I.3;have A:J AG<=300000:=CD _ _\t;calc e2.aq λy e=>?_;subst e;refine bV (p:=s<g.Ad) (λc=>{Pa,d9 (p:=s=row.getD a 0) (λd=>o _<|.inr {rfl,a,rfl,I.1.aem G.1.1.1 c f d}) λd=>?_}) λc=>{Pa,?_}
 ·have B:row[a]?=U s:=d▸f;exact A4 {n,p,AG,a+1} {I.1.jy G.1.1.1 h c B,I.2.1 c B,SK t} rfl
 ·show Aca.wp _ (N9 g i Ah row p.reverse AG a s<|HW i s<|row.getD a 0) P;calc bV (p:=HW i s (row.getD a 0)=[]) (λd=>o _<|.inr {rfl,a,rfl,I.1.none H (Mn c) f d}) λd=>?_;have Ag:=H.1 s<|row.getD a 0;obtain⟨j,C⟩:∃j,HW i s (row.getD a 0)=[j]:=by
   cases q:HW i s (row.getD a 0) with
   |nil=>calc ar q d|cons j l=>
    rw[q] at Ag;cases l using List.casesOn with
    |nil=>calc {j,rfl}|cons b l=>exact ar Ag<|X5.mpr<|Wx<|F0 _
  have u:j∈HW i s (row.getD a 0):=C▸.head _;have D:=((H.2 _ _ _).mp u).1;have E:J p<=600001:=SK I.1.6\(Du (Hd 2 A) 1\∅);have av:=z {n,(g.aa.getD j Bz).r++p,AG++[j],a} {I.1.eh G H h f u,I.2.2 _ j c f u,by rw[BD,Pl,El,FO 1];calc t} rfl;rw[C] at av⊢;calc aen D (G.10\∅) rfl (G.1.3 _<|bJ D) E (A\∅) av
def aep(G:Bt w g)(H:N8 g i)(j:J Ah<=2)(r:T8 g.Ad (Ah++[0])):Um.BZ (w^^k+2) (g,i,Ah,()) (UU g<|Ah++[0]):=by
 clear w k g i Ah _ G H j r;have t:AP (J Ah):=j\∅;have u:(Ah++[0]).length<=3:=by rw[BD];exact GX j
 have A:0<(Ah++[0]).length:=by rw[BD];exact F0 _
 have F:=ael (c:=Na 6) (f:=Qh (Na 6) 6) (row:=Ah++[0]) G H rfl rfl 3 0 (by rw[EV];calc u) [g.Ad];calc aY aaF {t,{t,dd},?_};show Acb.wp _ (N9 g i Ah (Ah++[0]) [g.Ad].reverse [] 0 0 []) (IQ Acd _ _);calc e4 (λq:rn=>N9 g i Ah (Ah++[0]) q.p.reverse q.AG q.a 0 []) (UJ g i<|Ah++[0]) (·.n) (s0:={LR (Na 6) (Qh (Na 6) 6) 3 1,[g.Ad],[],0}) rfl {Mg.Gg A,F,show 0+LR (Na 6) (Qh (Na 6) 6) 3 1<=300000 by decide} λq AV I x=>?_;obtain⟨n,p,AG,a⟩:=q;have z:J AG<=300000:=CD _ _\I.3;refine d9 (p:=p.reverse=[]) (λc=>?_) λc=>?_
 ·cases p using List.casesOn with
  |nil=>calc ar rfl c|cons s p=>
   cases n using Nat.casesOn with
   |zero=>calc I.2.elim|succ n=>
    calc {p.reverse,s,kn,?_,?_};·show AP (s::p).reverse.length;rw[X1];exact I.1.6\(Du (Hd 2 z) 1\∅)
    ·show OV.wp _ (N9 g i Ah (Ah++[0]) p.reverse AG a s []) _;exact aeo (k:=k) G H r u I (λl o e=>x l o (by rw[e];calc EM n)) (λl o e=>x l o (by rw[e];calc EM n)) λy h=>h
 ·have e:p=[]:=List.reverse_eq_nil_iff.mp c;subst e;have d:=I.1.2 [] .nil;obtain⟨b,_,f⟩:=I.1.3;rw[(I.1.1.elim Rk λh=>ar h.2 λB=>bP B λq e h Z=>Yg _ (Wy _ _) h.symm),VA,Ct] at d f;calc .inl {rfl,AG,rfl,z,d,b,f}
def aeq(G:Bt w g)(Ag:∀key,(Fx g g.aa.zipIdx key).length<=1)(b:J Ah<=2)(c:T8 g.Ad (Ah++[0])):Uv.BZ (w^^k+6) (g,Ah,()) (UU g<|Ah++[0]):=
 aY aa3 ((hl G.1).aq λi T=>(P7.ew G.1 T).aq λy h=>dG ((hn h).mpr Ag)<|(aep G (T.iE Ag) b c).aq λy h=>h)
end
def IV(w:Bk)(g:AK)(a b:Nat):Prop:=Dy
 (w.AA a="a")
 (w.AA b="b")
 (∀i,i<J g.Aq->((3<=i/\i<g.Ad)↔(i=a\/i=b)))
def Ll(g:AK)(aP:↑↑Nat)(Ah:-Nat)(z:Bool)(x:Nat⊕↑Nat)(a5:-Nat)(a j:Nat)(r:Bp×Nat):Ao IX:=(g,aP,Ah,z,x,a5,a,j,r,())
def AaG(g:AK)(a5:-Nat):Prop:=Kb
 (∀s∈a5,s<J g.Aq/\(s=0\/3<=s))
section
variable{w:Bk}{g:AK}{aP:↑↑Nat}{Ah u v:-Nat}{z:Bool}{x:Nat⊕↑Nat}{B7 j:Nat}{P:FK IX Aj}
def Bt.aer(G:Bt w g)(a:r∈g.aa):AaG g r.r:=by
 clear w g r _ G a;calc⟨λs hs=>{(G.1.1.1.1.4 r a).2 s hs,?_}⟩;calc ak (SS a) λi b=>?_;cases i using Nat.casesOn with
 |zero=>
  rw[G.11] at b;delta b;rcases aK hs with rfl|h
  ·exact .inr<|Ml G.3
  ·calc .inl<|aF h
 |succ i=>calc .inr ((G.12 i r b).2 s hs).1
def ro(A:IV w g a B7)(h:s<J g.Aq/\(s=0\/3<=s))(DN:3<=g.Ad):s∈[a,B7,0]↔s<g.Ad:=by rw[ZR,ZR,Io,<-or_assoc,<-A.3 s h.1];calc {λq=>q.elim Rk λe=>e▸Cw ∅ DN,λq=>h.2.elim .inr λb=>.inl {b,q}}
def aes(i:o.AA=w.AA)(G:Bt w g)(A:IV w g l B7)(F:AaG g (u++s::v))(q:∀y∈u,y<g.Ad)(hs:g.Ad<=s)(f:a<=J u)(m:(u++s::v).length<=900000)(h:P.av (Ll g aP Ah z x (u++s::v) (J u) j r)):Ac4.wp o (Ll g aP Ah z x (u++s::v) a j r) P:=by
 refine e4 (λa=>Ll g aP Ah z x (u++s::v) a j r) (·<=J u) (λa=>J u-a) (s0:=a) rfl f λa AV f t=>{m\∅,?_}
 have lt:a<(u++s::v).length:=DG f (by rw[BD];calc Pm<|F0 _);have DB:=F.1 _<|bJ (d:=0) lt;refine bO (Q:=λb=>if b=Y then _ else _) (z:=decide<|a<(u++s::v).length) (λZ=>{{lt,Cw lt<|m\∅},l,congrFun i _^A.1,B7,congrFun i _^A.2,0,congrFun i _^G.7,bV (p:=(u++s::v).getD a 0∈[l,B7,0]) (λc=>?_) λc=>?_}) λc=>ar lt<|b2 c
 ·rw[ro A DB G.3] at c;have Cs:a<J u:=SX f λe=>by subst e;rw[CO,Qz<|CE _,WH] at c;exact bz hs c
  exact t (a+1) Cs<|Rg Cs<|EM a
 ·rw[ro A DB G.3] at c;have e:a=J u:=Qy f (Mn λa=>c (by
   rw[CO,Ri a,Dv a];calc q _<|SW a))
  rw[e];calc h
def aet{r:Bp}(G:Bt w g)(a:j<J g.aa)(c:g.aa.getD j Bz=r)(b:(u++r.l::v).length<=900000)(h:P.av (Ll g aP Ah z x (u++(r.r++v)) (J u) j (r,j))):Ac7.wp e (Ll g aP Ah z x (u++r.l::v) (J u) j (Bz,0)) P:=by
 clear w g aP Ah u v _ z x j P e r _ G a c b h;have f:r∈g.aa:=c▸bJ (d:=Bz) a;have o:=G.1.1.1.1.4 r f;have i:AP (u++r.l::v).length:=b\∅;have MA:Fh (u++r.l::v) (U<|J u) (U<|J u+1)=[r.l]:=by show((u++r.l::v).drop<|J u).take (J u+1-J u)=_;rw[List.drop_left,SJ];rfl
 have L1:Fh (u++r.l::v) Ai (U<|J u)=u:=by show((u++r.l::v).drop 0).take (J u-0)=_;rw[kr,tW,Aj4]
 have RR:Fh (u++r.l::v) (U<|J u+1) Ai=v:=by show(u++r.l::v).drop (J u+1)=_;rw[tR,Vt<|Ex _,SJ];rfl
 have p:J u<=900000:=(by rw[BD];calc CD _ _)\b;have y:J v<=900000:=(by rw[BD,Gb];calc Ex _\Iv _ _)\b;have DU:(r.r.filter λZ=>Y).map (Es g)=r.r:=(b8 _ _).trans<|hx G o.2;have m:AP (J r.r):=G.1.3 r f\∅;have A:g.aa.zipIdx.getD j (Bz,0)=(r,j):=(fP a).trans<|by rw[c]
 have q:P.av (Ll g aP Ah z x (Fh (u++r.l::v) Ai (U<|J u)++(r.r.filter λZ=>Y).map (Es g)++Fh (u++r.l::v) (U<|J u+1) Ai) (J u) j (r,j)):=by rw[L1,RR,DU,Dr];exact h
 have B:AP (Fh (u++r.l::v) Ai<|U<|J u).length:=by rw[L1];exact p\∅
 have C:AP ((r.r.filter λZ=>Y).map<|Es g).length:=by rw[DU];exact m
 have D:AP (Fh (u++r.l::v) Ai (U<|J u)++(r.r.filter λZ=>Y).map (Es g)).length:=by rw[L1,DU,BD];exact EL p (G.1.3 r f)\∅
 have E:AP (Fh (u++r.l::v) (U<|J u+1) Ai).length:=by rw[RR];exact y\∅
 have F:Ac5.wp e (Ll g aP Ah z x (u++r.l::v) (J u) j (r,j)) P:={i,m,m,λZ=>Y,Es g,λ(s:Nat) a=>{rfl,λZ=>{{o.2 s a,G.1.1.1.1.aw<|o.2 s a},rfl}},{B,C},i,{D,E},q}
 have t:Ac6.wp e (Ll g aP Ah z x (u++r.l::v) (J u) j (r,j)) P:={i,{o.1,G.1.1.1.1.aw o.1},dG (MA.trans<|ah (λx=>[x]) (G.at o.1).symm) F}
 rw[<-A] at t;calc {{Fb.symm▸a,Cu.lt a<|G.10\∅},t}
end
section
variable{w:Bk}{k:Nat}{g:AK}{aP:↑↑Nat}{Ah v AG:-Nat}{B7:Nat}
def rp(h:Ce g.aa g.Ad [] v):v=[]:=by
 clear g v _ h;generalize e:([]:-Nat)=z at h;cases (h)with
 |nil=>rfl|FG=>delta e|aO=>delta e
def aeu(a:g.G3)(hs:s<g.Ad){v:-Nat}(h:Ce g.aa g.Ad [s] v):v=[s]:=by
 clear g s v _ a hs h;generalize e:[s]=z at h;cases (h)with
 |nil=>delta e|FG _ _ q=>delta e;rw[rp q]|aO b _ _=>injection e with e _;calc ar hs<|bz<|e▸a.2 _ b
def rq(G:Bt w g):Ce g.aa g.Ad [g.Ad] c↔∃v,c=v++[0]/\Ce g.aa g.Ad [g.Ad+1] v:=by
 clear w g c _ G;have d:0<g.Ad:=Cw ∅ G.3;constructor
 ·intro h;generalize e:[g.Ad]=Bm at h;cases (h)with
  |nil=>delta e|FG h=>delta e;calc ar h<|Hq _|@aO r Bm u v Ag f i=>
   injection e with AW A3
   subst A3;rw[rp i,Ct];rw[G.ay Ag AW.symm] at f;exact a8 (Ce.hh (a:=[g.Ad+1]) (b:=[0]) f) λa b j l m=>{a,by rw[j,aeu G.1.1.1 d m],l}
 ·rintro ⟨v,rfl,h⟩
  have:=Ce.aO (GK G.11) (Ce.cx h<|.FG d ∅ .nil) .nil;rw[Ct] at this;calc this
def aev(DN:3<=g.Ad)(b:∀x∈Ah,3<=x/\x<g.Ad):T8 g.Ad (Ah++[0]):=by
 calc {λx a=>(aN a).elim (λh=>{(b x h).2,Ha<|Cw ∅ (b x h).1}) λh=>by rw[aF h];calc {Cw ∅ DN,∅},λi x a=>?_};rw[BD,Pl];by_cases q:i<(J Ah);·rw[Ri q] at a;exact {λz=>ar (z▸(b x<|GK a).1) ∅,λz=>ar (Qx z)<|EX q}
 ·rw[Qz<|bM q] at a;have e:=kx.mp<|bK a;rw[e] at a;delta a;calc {λZ=>by rw[Qy (AjP e)<|bM q],λZ=>rfl}
def aew(b:c.AA=w.AA)(G:Bt w g)(d:J Ah<=2):Aam.wp c (Ll g aP Ah z x (Ah++[0]) a 0 (Bz,0)) (Cp (·=Y)):=
 have DZ:AP (J Ah):=d\∅
 {DZ,0,congrFun b _^G.7,{DZ,dd},aJ rfl}
def aex(m:c.AA=w.AA)(G:Bt w g)(A:IV w g C B7)(x:J Ah<=2)(o:J AG<=300000)(f:∃b,Q8 g AG ([g.Ad],0) (Ah++[0],b)):Ada.wp c (Ll g aP Ah Y (.inr AG) [] 0 0 (Bz,0)) (Cp (·=Y)):=by
 clear w g aP Ah AG C B7 c _ m G A x o f;calc {g.Ad,congrFun m _^G.8,?_};show Ac9.wp c (Ll g aP Ah Y (.inr AG) [g.Ad] 0 0 (Bz,0)) (IQ Aam c _);refine dD (t:=O) (xs:=AG) (λq:-Nat×Nat=>Ll g aP Ah Y (.inr AG) q.1 q.2 0 (Bz,0)) (λl q=>(∃b,Q8 g l q (Ah++[0],b))/\AaG g q.1/\J q.1+2*J l<=700000) (s0:=([g.Ad],0)) (λZ q=>{AG,rfl,o\∅,q}) rfl {f,⟨λs a=>by rw[aF a];calc {G.1.1.1.1.2,.inr G.3}⟩,Du (Hd 2 o) 1\∅} (λj l q AV i D=>?_) λq i=>?_
 ·obtain⟨⟨b,z,⟨u,s,v,e,Ag,E,H,I⟩,L⟩,F,y⟩:=i;obtain⟨M,a⟩:=q;have e:M=u++s::v:=e;subst e;obtain⟨B,rfl⟩:=H;have p:=bJ (d:=Bz) B;have Bf:=CD _ _\y;show Ac8.wp c (Ll g aP Ah Y (.inr AG) (u++(g.aa.getD j Bz).l::v) a j (Bz,0)) _;calc aes m G A F E (G.1.1.1.2 _ p) Ag (Bf\∅)<|aet G B rfl (Bf\∅) ?_;calc D (u++((g.aa.getD j Bz).r++v),J u) {{b,I▸L},⟨λs a=>(aN a).elim (λh=>F.1 s<|CL _ h) λh=>(aN h).elim ((G.aer p).1 s) λh=>F.1 s<|BH _<|.tail _ h⟩,?_\y};have N:=G.1.3 _ p;show(u++((g.aa.getD j Bz).r++v)).length+2*J l<=(u++(g.aa.getD j Bz).l::v).length+2*(J l+1);rw[BD,BD,BD,Gb];exact G8 (Du (G8 N _\Di (FO 3 _)) _) _\Di (Hb (J u+(v.length+1)) 2<|2*J l)
 ·obtain⟨⟨b,e⟩,_,_⟩:=i;have e:=e;subst e;calc aew m G x
def aey(G:Bt w g)(f:∀x,x∈aP↔N3 g x)(j:AP (J aP))(m:J Ah<=2)(h:∀v:-Nat,(∀i,i<=b->v[i]?=(Ah++[0])[i]?)->¬Ce g.aa g.Ad [g.Ad] v):Adb.wp o (Ll g aP Ah Ab (.inl b) [] 0 0 (Bz,0)) (Cp (·=Y)):=by
 clear w g aP Ah b o _ G f j m h;have DZ:AP (J Ah):=m\∅;calc {j,j,λ(y:-Nat)=>decide (y.take (b+1)=Ah.take (b+1))&&decide (b<J Ah),id,λ(y:-Nat) a=>{{b,rfl,((f y).mp a).2\∅,b,rfl,DZ,bO (Q:=λq=>q=(decide (y.take (b+1)=Ah.take (b+1))&&decide (b<J Ah))) (z:=decide<|y.take (b+1)=Ah.take (b+1)) (λc=>{b,rfl,DZ,dc c}) dE},λZ=>rfl},aJ ?_};rw[EW];calc Pq.mpr λ(y:-Nat) a z=>?_;have z:=bQ z;have e:=aL z.1;have lt:=aL z.2;calc h (y++[0]) (λi d=>?_)<|(rq G).mpr {y,rfl,G.6▸((f y).mp a).1};have a:b<J y:=by have:=ah J e;rw[WA,WA,Wz lt] at this;exact Cw (EM b)<|this▸Vb _ _
 rw[Ri<|DG d a,Ri<|DG d lt];have:=ah (λl:-Nat=>l[i]?) e;rw[Aj7,Aj7,ao<|Iu d,ao<|Iu d] at this;calc this
def aez(G:Bt w g)(A:IV w g o B7)(c:∀x,x∈aP↔N3 g x)(l:AP (J aP))(a:J Ah<=2)(i:∀x∈Ah,3<=x/\x<g.Ad)(Ag:∀key,(Fx g g.aa.zipIdx key).length<=1):OA.BZ (w^^k+7) (g,aP,Ah,()) (·=Y):=by
 clear w k g aP Ah o B7 _ G A c l a i Ag;have DZ:AP (J Ah):=a\∅;have E8:Ce g.aa g.Ad [g.Ad] (Ah++[0])↔Ah∈aP:=by rw[rq G,c];exact {λp=>ae p λv e h=>{G.6.symm▸List.append_cancel_right e▸h,a},λh=>{Ah,rfl,G.6▸h.1}}
 have r:∀y:Bool×(Nat⊕↑Nat),UU g (Ah++[0]) y->Aan.wp (w^^k+6) (Ll g aP Ah y.1 y.2 [] 0 0 (Bz,0)) (Cp (·=Y)):=λy h=>by
  obtain⟨z,x⟩:=y;rcases h with⟨AW,AG,A3,s,d,f⟩|⟨AW,b,A3,h⟩
  ·have AW:z=Y:=AW;have A3:x=.inr AG:=A3;subst AW A3;exact dG (show Y=(F4 Ck).cq Ah aP from(@aJ _ (_)<|E8.mp d).symm)<|aex (w:=w) rfl G A a s f
  ·have AW:z=Ab:=AW;have A3:x=.inl b:=A3;subst AW A3;exact dG (show Ab=(F4 Ck).cq Ah aP from(@decide_eq_false _ (_) λm=>h (Ah++[0]) (λZ Z=>rfl)<|E8.mpr m).symm)<|aey (w:=w) G c l a h
 have t:(Ah.filter λZ=>Y).map id=Ah:=b8 _ _^EW _;have q:Uv.BZ (w^^k+6) (g,(Ah.filter λZ=>Y).map id,()) λy=>Aan.wp (w^^k+6) (Ll g aP Ah y.1 y.2 [] 0 0 (Bz,0)) (Cp (·=Y)):=by rw[t];exact(aeq (k:=k) G Ag a<|aev G.3 i).aq r
 calc aY aa2 {DZ,DZ,λZ=>Y,id,λ(x:Nat) j=>{rfl,λZ=>(e8 (k:=k+5) G<|(λx j=>DQ (i x j).2 G.1.1.1.1.2) x j).aq λy u=>{x,u,rfl}},q}
end
section
variable{w:Bk}{k:Nat}
def Aid(m d:Nat):Ao Zo:=((),m,d,())
def rr(h:0<m)(a:m<100)(d:Nat):Ade.wp w (Aid m d) (Cp (·<m)):=λn=>{h,λb=>{{h,a},Nat.mod_lt n h}}
def e9(h:0<m)(a:m<100):R7.BZ (w^^k+1) ((),m,()) (·<m):=aY aa5 λn=>bV (λZ=>λb c=>{rfl,rr h a 0}) λZ=>rr h a 0
def rt(h:0<J xs)(b:J xs<100):R8.BZ (w^^k+2) ((),xs,()) (·∈xs):=by clear w k xs _ h b;have c:AP (J xs):=BY b\∅;calc aY aa6 {c,(e9 h b).aq λd a=>{{a,Cu.lt a c},(CO.trans (ah (tm · 0)<|Dv a))▸SW a}}
def B4(s:Nat):Str:=(["a","b","S","T","U","V"]:-Str).getD s ""
def XI(m:Nat)(ds:-(Nat×↑Nat)):Prop:=Dy
 (∀p∈ds,2<=p.1/\p.1<2+m)
 (∀p∈ds,∀s∈p.2,s<2+m)
 (∀p∈ds,J p.2<=3)
def D3(m:Nat)(ds:-(Nat×↑Nat)):Prop:=He
 (XI m ds)
 (2<=m/\m<=4)
 (J ds<=7)
 (∃An,ds.map (·.1)=Cn 2 m++An)
def Qi(m:Nat)(ds:-(Nat×↑Nat))(B3 Eh a:Nat):Ao L9:=((),Cn 2 m,ds,B3,Eh,a,())
def XI.ct(h:XI m ds)(Ag:2<=i/\i<2+m)(b:∀s∈l,s<2+m)(d:J l<=3):XI m (ds++[(i,l)]):=
 have c:=λp a=>(aN a).imp_right aF
 {λp a=>(c p a).elim (h.1 p) λe=>e▸Ag,λp a=>(c p a).elim (h.2 p) λe=>e▸b,λp a=>(c p a).elim (h.3 p) λe=>e▸d}
def aeA(a:∀i<6,w.AA i=B4 i)(b:2<=m/\m<=4)(c:Ao.Cq (L9++[O]) 1 Af=Cn 2 m):(Bs R8 (v 0)<|Bb (BJ (F5 Ac) (Bo<|A4 (B3 "a")<|Ag<|B3 "b")<|v 1) Be).wp (w^^k+2) Af (·<2+m):=by
 calc {0,a 0 ∅,1,a 1 ∅,?_};calc(λz:-Nat=>λd:z=Cn 2 m=>?_:∀z:-Nat,z=Cn 2 m->(AP 2/\AP (J z))/\R8.BZ (w^^k+2) ((),[0,1]++z,()) (·<2+m)) _ c;rw[d];have e:([0,1]++Cn 2 m).length=2+m:=by rw[BD,H6];rfl
 calc {{show 2<=1000000 by decide,by rw[H6];calc b.2\∅},(rt (by rw[e];calc Cw ∅<|CD 2 m) (by rw[e];calc DG (Du b.2 2) ∅)).aq λy f=>?_};rcases aN f with h|h
 ·have:∀y∈[0,1],y<2:=by decide
  exact Cw (this y h)<|CD 2 m
 ·calc(cJ h).2
def ru(c:∀i<6,w.AA i=B4 i)(d:2<=m/\m<=4){n:Nat}(a:n<=3)(f:Ao.Cq L9 1 Af=Cn 2 m){Q:-Nat->Prop}(h:∀l:-Nat,(∀s∈l,s<2+m)->J l<=3->Q l):
  AP (Cn 0 n).length/\∃S:Nat->Nat->Prop,(∀x∈Cn 0 n,(Bs (V:=L9++[O]) R8 (v 0)<|Bb (BJ (F5 Ac) (Bo<|A4 (B3 "a")<|Ag<|B3 "b")<|v 1) Be).wp (w^^k+2) ((BF 6).BG x<|Ao.DL L9 Af<|Ao.C2 [O])<|S x)/\∀Al:-Nat,Nf S (Cn 0 n) Al->AP (J Al)/\Q Al:=by have e:(Cn 0 n).length=n:=H6;calc {e.symm▸Ka a ∅,λZ=>(·<2+m),λx Z=>aeA c d f,λAl g=>?_};calc aC (iQ g) λj hs=>?_;have b:=(j^e).symm▸a;calc {b\∅,h Al hs b}
def aeB(b:∀i<6,w.AA i=B4 i)(c:2<=m/\m<=4)(d:AP (J ds))(h:∀l:-Nat,(∀s∈l,s<2+m)->J l<=3->P.av (Qi m (ds++[(x,l)]) x 0 0)):Adf.wp (w^^k+2) (Qi m ds x 0 0) P:=
 (e9 ∅ ∅).aq λn a=>{BY a\∅,ru b c (Mm a) rfl λl a e=>{d,h l a e}}
def aeC(c:∀i<6,w.AA i=B4 i)(a:2<=m/\m<=4)(d:AP (J ds))(h:∀x f (l:-Nat),2<=x/\x<2+m->(∀s∈l,s<2+m)->J l<=3->P.av (Qi m (ds++[(x,l)]) x t f)):Adi.wp (w^^k+2) (Qi m ds 0 t 0) P:=by have e:(Cn 2 m).length=m:=H6;calc(rt (xs:=Cn 2 m) (by rw[e];calc Cw ∅ a.1) (by rw[e];calc DG a.2 ∅)).aq λx g=>(e9 (m:=3) ∅ ∅).aq λn j=>?_;have b:n<=3:=BY j;show Adh.wp _ (Qi m ds x t n) _;calc {b\∅,ru c a b (Af:=Qi m ds x t n) rfl λl a o=>{d,h x n l (cJ g) a o}}
def aeD(b:∀i<6,w.AA i=B4 i):Zi.BZ (w^^k+3) ((),()) (λa=>∃m,D3 m a):=by
 clear w k _ b;calc aY aa7 {2,b 2 ∅,3,b 3 ∅,4,b 4 ∅,5,b 5 ∅,(e9 (m:=3) ∅ ∅).aq λd p=>{show 4<=1000000 by decide,?_}};have a:2<=2+d/\2+d<=4:={CD 2 d,Du (Mm p) 2}
 have u:Fh [2,3,4,5] Ai (U<|2+d)=Cn 2 (2+d):=by
  match d,p with
  |0,_=>rfl|1,_=>rfl|2,_=>rfl
 rw[u];generalize 2+d=m at a;have c:(Cn 2 m).length=m:=H6;have s:AP (Cn 2 m).length:=c.symm▸Ka a.2 ∅;show Adg.wp _ (Qi m [] 0 0 0) _;refine b1 (t:=Ac) (xs:=Cn 2 m) (λa=>Qi m a 0 0 0) (λa b=>b.map (·.1)=a/\XI m b) (λZ q=>{s,q}) rfl {rfl,{az,az,az}} (λAl x l ds AV e i j=>?_) λds i=>?_
 ·have z:2<=x/\x<2+m:=cJ<|e▸BH Al (.head l);have g:J ds<=m:=by rw[<-Bq (f:=(·.1)),i.1,<-c,<-e,BD];exact CD _ _
  exact aeB b a (g\(a.2\∅)) λr a o=>j (ds++[(x,r)]) {by rw[Ee,i.1];rfl,i.2.ct z a o}
 ·show Adj.wp _ (Qi m ds 0 0 0) _;have g:J ds=m:=by rw[<-Bq (f:=(·.1)),i.1,c]
  calc {s,(c.symm▸Ka a.2 ∅),(e9 (m:=8-(Cn 2 m).length) (by rw[c];calc kC<|DG a.2 ∅)<|DG (QC _ _) ∅).aq λn h=>?_};rw[c] at h;have ln:(Cn 0 n).length=n:=H6;refine {BY h\(QC _ _\∅),iO (t:=O) (xs:=Cn 0 n) (λa=>Qi m a 0 0 0) (λa b=>J b=m+J a/\(∃An,b.map (·.1)=Cn 2 m++An)/\XI m b) rfl {g,{[],by rw[i.1,Ct]},i.2} (λAl x l ds AV e i j=>?_) λds i=>?_}
  ·have g:J ds<=m+n:=by rw[i.1,<-ln,<-e,BD];exact Du (CD _ _) m
   calc aeC b a (g\(EL a.2 (BY h\QC _ _)\∅)) λy B r A Ag o=>j (ds++[(y,r)]) {by rw[BD,BD,i.1,El];rfl,?_,i.2.2.ct A Ag o};calc ak i.2.1 λAn q=>?_;exact {An++[y],by rw[Ee,q,Dr];rfl}
  ·calc {m,i.2.2,a,(?_:J ds<=7),i.2.1};rw[i.1,ln];calc Mm<|Cw (Lq h m)<|Di<|MV<|a.2\∅
end
def Gs(AN:-(Nat×↑Nat)):-Nat:=AN.foldl (λl p=>if p.1∈l then l else l++[p.1]) []
def Mh(L ns:-Nat)(s:Nat):-Nat:=if s∉L/\s∉ns then ns++[s] else ns
def Sv(L:-Nat)(AN:-(Nat×↑Nat))(ns:-Nat):-Nat:=AN.foldl (λa p=>p.2.foldl (Mh L) a) ns
def Nt(Ad:Nat)(AN:-(Nat×↑Nat)):-Bp:={Ad,[Ad+1,0],0}::AN.map λp=>{p.1,p.2,Si Ad p.2}
def UO(Ad N:Nat)(AN:-(Nat×↑Nat)):AK:=Sh (Cg N) Ad (Nt Ad AN)<|Ad+1
def AdH(x:Str):Prop:=Dy
 (PyData.strOk (Txt.slice x Ai<|U ((1:Nat):Int))=Y)
 (x.length<=H5)
 (JD.cq (Txt.slice x Ai<|U ((1:Nat):Int)) ["","$","'"]=Ab)
def U0(Ak:EA)(Ad N:Nat)(AN:-(Nat×↑Nat)):Prop:=kT
 (Ak 0="$end")
 (Ak 1="error")
 (Ak 2="$undefined")
 (Ak Ad="$accept")
 (3<=Ad)
 (N<=10)
 (Ad+1<N)
 (∀x,Ad<x->x<N->AdH (Ak x))
 (J AN<=7)
 (∀p∈AN,Ad<p.1/\p.1<N)
 (∀p∈AN,J p.2<=3)
 (∀p∈AN,∀s∈p.2,s<N)
 (Gs AN=Cn (Ad+1) (N-(Ad+1)))
 (Sv (Gs AN) AN [0,1,2]=Cg Ad)
 (XA (Cg N) Ad (Nt Ad AN)<|Ad+1)
section
variable{w:Bk}{k Ad N:Nat}
abbrev Aie:=-(Bp×Nat)
def Eu(AN:-(Nat×↑Nat))(a:-Nat)(x:Nat)(b:-Nat)(c:Nat)(B3:-Nat)(n Ft:Nat)(rs:Aie)(bW:-Nat):Ao Hk:=(AN,Ai,a,x,b,c,B3,n,Ft,rs,bW,())
def aeE:Gs (Al++[p])=if p.1∈Gs Al then Gs Al else Gs Al++[p.1]:=by unfold Gs;rw[SV];rfl
def rv:∀(AN:-(Nat×↑Nat)) (l:-Nat),(AN.foldl (λl p=>if p.1∈l then l else l++[p.1]) l).length<=J l+(J AN)
 |[]=>λl=>CE _|p::AN=>λl=>by
  calc rv AN _\?_;rw[Gb];show(if p.1∈l then l else l++[p.1]).length+_<=_;by_cases c:p.1∈l;·rw[ao c];exact Du (Ex _) _
  ·rw[ai c,BD,Pl,El,FO 1];calc CE _
def eD:Ck.cq s ns=Y↔s∈ns:=@bB _ (_)
def aeF(h:U0 w.AA Ad N AN)(d:Ad<x/\x<N)(f:AP (Gs Al).length)(BA:P.av (Eu AN (Gs<|Al++[(x,a)]) x a 0 [] 0 0 [] [])):OB.wp w (Eu AN (Gs Al) x a 0 [] 0 0 [] []) P:=by
 have F:=h.8 x d.1 d.2;have g:x≠1:=λe=>ar (h.5\BY d.1) (by rw[e];decide);rw[aeE] at BA;calc {1,h.2,?_};show E2 .Or (@decide (x=1)<|Ck.D6 x 1) ((PyData.strOk (Txt.slice (w.AA x) Ai<|U ((1:Nat):Int))=Y/\(w.AA x).length<=H5)/\if JD.cq (Txt.slice (w.AA x) Ai<|U ((1:Nat):Int)) ["","$","'"]=Y then(sq K1 af).wp w (Eu AN (Gs Al) x a 0 [] 0 0 [] []) (IQ Zj w P) else Zj.wp w (Eu AN (Gs Al) x a 0 [] 0 0 [] []) P) (λb:Bool=>if b=Y then(sq K1 af).wp w (Eu AN (Gs Al) x a 0 [] 0 0 [] []) (IQ Zj w P) else Zj.wp w (Eu AN (Gs Al) x a 0 [] 0 0 [] []) P);refine hg (λc=>ar (@aL _ (Ck.D6 x 1) c) g) λZ=>{{F.1,F.2},bH (λc=>nomatch D8 F.3.symm c) λZ=>?_}
 refine bZ (z:=Ck.cq x<|Gs Al) (λc=>?_) λc=>?_
 ·rw[ai λz=>nomatch D8 (eD.mpr z).symm c] at BA;exact {f,BA}
 ·rw[ao<|eD.mp c] at BA;calc BA
def aeG:(Mh L ns s).length<=J ns+1:=by
 unfold Mh
 split
 ·rw[BD];exact CE _
 ·calc Ex _
def jz:∀(l ns:-Nat),(l.foldl (Mh L) ns).length<=J ns+(J l)
 |[]=>λa=>CE _|s::l=>λa=>jz l _\(by rw[Gb,<-El,Hb];calc G8 aeG _)
def rx:∀(AN:-(Nat×↑Nat)) (ns:-Nat),(∀p∈AN,J p.2<=B)->(Sv L AN ns).length<=J ns+B*(J AN)
 |[]=>λa Z=>CE _|p::AN=>λb h=>Ka (rx AN _ λq a=>h q<|.tail _ a) (by
  rw[Gb,Wv,<-El,Hb];calc G8 (jz _ _\Du (h p<|.head _) _) _)
def aeH{a e ns:-Nat}{x s:Nat}(f:AP (J ns))(BA:P.av (Eu AN a x e (Ad+1) (Mh a ns s) s 0 [] [])):OC.wp w (Eu AN a x e (Ad+1) ns s 0 [] []) P:=by
 clear w Ad AN P a e ns x s _ f BA;unfold Mh at BA;show E2 .And (!Ck.cq s a) (if(!Ck.cq s ns)=Y then AP (J ns)/\P.av (Eu AN a x e (Ad+1) (ns++[s]) s 0 [] []) else P.av (Eu AN a x e (Ad+1) ns s 0 [] [])) (λb:Bool=>if b=Y then AP (J ns)/\P.av (Eu AN a x e (Ad+1) (ns++[s]) s 0 [] []) else P.av (Eu AN a x e (Ad+1) ns s 0 [] []));refine bO (λc=>bH (λd=>?_) λd=>?_) λc=>?_
 ·rw[ao {λz=>(by rw[eD.mpr z] at c;delta c),λz=>(by rw[eD.mpr z] at d;delta d)}] at BA;exact {f,BA}
 ·rw[ai λz=>z.2<|eD.mp<|WI ..▸d] at BA;exact BA
 ·rw[ai λz=>z.1<|eD.mp<|WI ..▸c] at BA;calc BA
def aeI(c:AP (J ns+J a))(BA:P.av (Eu AN b x a (Ad+1) (a.foldl (Mh b) ns) 0 0 [] [])):OD.wp w (Eu AN b x a (Ad+1) ns 0 0 [] []) P:=by show AbC.wp _ (Eu AN b x a (Ad+1) ns 0 0 [] []) _;calc c2 (t:=Ac) (xs:=a) (λc=>Eu AN b x a (Ad+1) (c.foldl (Mh b) ns) 0 0 [] []) (λZ q=>{(Iv _ _\c),q}) rfl (λAl s l AV e d=>?_) BA;rw[SV] at d;show OC.wp _ (Eu AN b x a (Ad+1) (Al.foldl (Mh b) ns) s 0 [] []) _;calc aeH (jz _ _\(Du (by rw[<-e,BD];calc CD _ _) _\c)) d
def hA{n:Nat}(h:s<n):(Cg n).idxOf s=s:=by
 have:=List.Nodup.idxOf_getElem (Z0 (n:=n)) s (by rw[Gy];calc h)
 rwa [(Z3 _)] at this
def aeL{P:FK Hk A1}(g:AP N)(c:x<N)(d:∀s∈a,s<N)(h:a.length<=3)(i:AP R.length)(BA:∀f,P.av<|Eu AN j x a (Ad+1) (Cg N) 0 Ad (R++[({x,a,Si Ad a}:Bp)]).zipIdx f):OE.wp (w^^k+1) (Eu AN j x a (Ad+1) (Cg N) 0 Ad R.zipIdx f) P:=by
 clear w k Ad N AN P _ x a j R f _ g c d h i BA;have b:AP a.length:=h\∅;have E9:AP (Cg N).length:=by rw[Gy];exact g
 have l:AP R.zipIdx.length:=by rw[Fb];exact i
 have m:(SU (λZ:Nat=>Y) a).map (λs=>s)=a:=by rw[b8,tT]
 calc {b,b,λZ=>Y,(λs=>s:Nat->Nat),λs hs=>{rfl,λZ=>?_},?_};·exact {{cV<|d s hs,E9},hA<|d s hs}
 rw[m];calc {b,?_};calc {l,{cV c,E9},(abU b).aq λv o=>pV.aq λy e=>{l,?_}};subst e o;have:=BA a;rw[p4] at this;rw[hA c];calc this
def aeM:Nt Ad (Al++[p])=Nt Ad Al++[({p.1,p.2,Si Ad p.2}:Bp)]:=by unfold Nt;rw[Ee];rfl
def aeN(h:Ad+1<N):Cg Ad++[Ad]++Cn (Ad+1) (N-(Ad+1))=Cg N:=by rw[<-VB,X7 (n:=Ad+1),X7 (n:=N)];have:=Aj8 (s:=0) (m:=Ad+1) (n:=N-(Ad+1));rw[EV,MV<|BY h] at this;calc this
def aeP(h:U0 w.AA Ad N AN):OF.wp (w^^k+2) (Eu AN (Cn (Ad+1)<|N-(Ad+1)) 0 [] (Ad+1) (Cg N) 0 Ad [] []) (Cp (·=UO Ad N AN)):=by
 clear w k Ad N AN _ h;have b:AP N:=h.6\∅;have E9:AP (Cg N).length:=by rw[Gy];exact b
 have c:(Ad+1∈Cg N/\AP (Cg N).length):={cV h.7,E9}
 calc {c,pV.aq λy e=>?_};subst e;show AbE.wp _ (Eu AN (Cn (Ad+1)<|N-(Ad+1)) 0 [] (Ad+1) (Cg N) 0 Ad [({Ad,[(Cg N).idxOf<|Ad+1,0],0},0)] []) _;rw[hA h.7];refine c2 (xs:=AN) (λa=>Eu AN (Cn (Ad+1)<|N-(Ad+1)) 0 [] (Ad+1) (Cg N) 0 Ad (Nt Ad a).zipIdx []) (λZ q=>{h.9\∅,q}) rfl (λAl p l AV e d=>?_) ?_
 ·have a:p∈AN:=e▸BH Al (.head l);rw[aeM] at d;show OE.wp _ (Eu AN (Cn (Ad+1)<|N-(Ad+1)) p.1 p.2 (Ad+1) (Cg N) 0 Ad (Nt Ad Al).zipIdx []) _;calc aeL b (h.10 p a).2 (h.12 p a) (h.11 p a) ?_ λf=>d;have:J Al<=J AN:=by rw[<-e,BD];exact CD _ _
  show J (_::Hs _ Al)<=1000000;rw[Gb,Bq];exact GX (this\h.9)\∅
 ·calc {c,?_};show Uc.BZ (w^^k+2) (Cg N,Ad,(Nt Ad AN).zipIdx,[],(),(Cg N).idxOf<|Ad+1,()) (·=UO Ad N AN);rw[hA h.7];calc p2 h.15
def aeQ(h:U0 w.AA Ad N AN):K6.BZ (w^^k+3) (AN,()) (·=UO Ad N AN):=by
 clear w k Ad N AN _ h;have d:AP (J AN):=h.9\∅;have f:AP N:=h.6\∅;calc o4 (EG:=[⇑(A0 Ac ⇑Ac),BU Ac]) (IE:=(AN,Ai,())) aag rfl ?_;show AbB.wp _ (Eu AN [] 0 [] 0 [] 0 0 [] []) _;refine c2 (t:=A0 Ac ⇑Ac) (xs:=AN) (λa=>Eu AN (Gs a) 0 [] 0 [] 0 0 [] []) (λZ q=>{d,q}) rfl (λAl p l AV e a=>?_) ?_
 ·have g:p∈AN:=e▸BH Al (.head l);have i:J Al<=J AN:=by rw[<-e,BD];exact CD _ _
  show OB.wp _ (Eu AN (Gs Al) p.1 p.2 0 [] 0 0 [] []) _;exact aeF (w:=w.at<|AS<|k+2) (Ad:=Ad) (N:=N) h (h.10 p g) (rv Al []\(Di (EV _)\(i\d))) a
 have o:=h.13;have j:=h.14;rw[o] at j;show AbI.wp _ (Eu AN (Gs AN) 0 [] 0 [] 0 0 [] []) _;rw[o];have m:(Cn (Ad+1)<|N-(Ad+1)).length=N-(Ad+1):=H6;have b:0<(Cn (Ad+1)<|N-(Ad+1)).length:=m.symm▸kC h.7;have r:AP (Cn (Ad+1)<|N-(Ad+1)).length:=m.symm▸Ka (QC _ _) f;have s:(Cn (Ad+1)<|N-(Ad+1)).getD 0 0=Ad+1:=by rw[CO,Dv b,List.getElem_range'];show Ad+1+1*0=_;rfl
 have u:Ad+1∈Cn (Ad+1) (N-(Ad+1)):=XK.mpr {CE _,(MV<|BY h.7).symm▸h.7};have x:=aeN h.7;generalize A:Cn (Ad+1) (N-(Ad+1))=L at m b r s u x j⊢;refine bH (z:=@decide (L=[])<|(CZ Ck).D6 L []) (λc=>ar (@aL _ ((CZ Ck).D6 L []) c)<|List.ne_nil_of_length_pos b) λZ=>{{b,show 0<1000000 by decide},?_}
 show AbH.wp _ (Eu AN L 0 [] (L.getD 0 0) [] 0 0 [] []) _;rw[s];refine bZ (z:=Ck.cq (Ad+1) L) (λc=>nomatch D8 (eD.mpr u).symm c) λZ=>{0,1,2,h.1,h.2,h.3,show 3<=1000000 by decide,?_}
 show AbD.wp _ (Eu AN L 0 [] (Ad+1) [0,1,2] 0 0 [] []) _;refine c2 (t:=A0 Ac ⇑Ac) (xs:=AN) (λa=>Eu AN L 0 [] (Ad+1) (Sv L a [0,1,2]) 0 0 [] []) (λZ q=>{d,q}) rfl (λAl p l AV e a=>?_) ?_
 ·have g:p∈AN:=e▸BH Al (.head l);have i:J Al<=7:=by calc ?_\h.9;rw[<-e,BD];exact CD _ _
  show OD.wp _ (Eu AN L p.1 p.2 (Ad+1) (Sv L Al [0,1,2]) 0 0 [] []) _;calc aeI (EL ((rx (L:=L) (B:=3) Al [0,1,2] λq C=>h.11 q<|e▸CL _ C)\Du (Hd 3 i) 3) (h.11 p g)\∅) ?_;unfold Sv at a;rw[SV] at a;exact a
 show AbG.wp _ (Eu AN L 0 [] (Ad+1) (Sv L AN [0,1,2]) 0 0 [] []) _;rw[j];have y:AP (Cg Ad).length:=by rw[Gy];exact BY (ta h.7)\f
 calc {y,?_};show AbF.wp _ (Eu AN L 0 [] (Ad+1) (Cg Ad) 0 (Cg Ad).length [] []) _;rw[Gy];calc {Ad,h.4,{y,show 1<=1000000 by decide},{?_,r},?_};·show(Cg Ad++[Ad]).length<=_;rw[BD,Gy];exact BY h.7\f
 ·show OF.wp _ (Eu AN L 0 [] (Ad+1) (Cg Ad++[Ad]++L) 0 Ad [] []) _;rw[x,<-A];calc aeP h
end
def U1(i:Nat):Str:=⟨(CV (i+20) 120).toArray⟩
def Hp(L:-Str):EA:=λi=>L.getD i<|U1 i
def hB:(U1 i).cps.size=i+20:=LX^MJ
def jA(L:-Str)(i:Nat):(∃h:i<J L,Hp L i=L[i])\/Hp L i=U1 i:=by
 unfold Hp;rw[CO];by_cases h:i<(J L);·rw[Dv h];exact .inl {h,rfl}
 ·rw[Ws<|bM h];calc .inr rfl
def ry(a:L.Nodup)(hs:∀x∈L,x.cps.size<20):∀i j,Hp L i=Hp L j->i=j:=by
 clear L _ a hs;exactλi j e=>by
  rcases jA L i with⟨Ag,AW⟩|AW<;>rcases jA L j with⟨b,A3⟩|A3<;>rw[AW,A3] at e
  ·exact(tl a).mp e
  ·exact ar (hs _<|SW Ag)<|bz (by rw[e,hB];calc Iv _ _)
  ·exact ar (hs _<|SW b)<|bz (by rw[<-e,hB];calc Iv _ _)
  ·have:=ah (λs:Str=>s.cps.size) e;calc VG<|(hB).symm^this.trans hB
def rz(h:∀x∈L,PyData.strOk x=Y)(i:Nat):PyData.strOk (Hp L i)=Y:=by
 rcases jA L i with⟨Ag,AW⟩|AW<;>rw[AW]
 ·exact h _<|SW Ag
 ·unfold PyData.strOk U1;rw[List.all_toArray,Rl];exactλx a=>by rw[(Vo.mp a).2];rfl
def Lm(Av:-Nat)(s:Nat):-Nat:=if s<2/\s∉Av then Av++[s] else Av
def XM(Av:-Nat)(ds:-(Nat×↑Nat)):-Nat:=ds.foldl (λa p=>p.2.foldl Lm a) Av
def Qj:↑↑Nat:=[[],[0],[1],[0,1],[1,0]]
def aeR:∀Av∈Qj,∀s,Lm Av s∈Qj:=λa h s=>by
 unfold Lm
 split
 ·rename_i q;have:∀a∈Qj,∀s,s<2->s∉a->a++[s]∈Qj:=by decide
  exact this a h s q.1 q.2
 ·calc h
def rA:∀(l Av:-Nat),Av∈Qj->l.foldl Lm Av∈Qj
 |[]=>λZ h=>h|s::l=>λa h=>rA l _<|aeR a h s
def rB:∀(ds:-(Nat×↑Nat)) (Av:-Nat),Av∈Qj->XM Av ds∈Qj
 |[]=>λZ h=>h|p::ds=>λa h=>rB ds _<|rA p.2 a h
def aeS:Av<+:Lm Av s:=by
 unfold Lm
 split
 ·exact List.prefix_append _ _
 ·calc kM _
def hC:∀(l Av:-Nat),Av<+:l.foldl Lm Av
 |[]=>λZ=>kM _|s::l=>λa=>aeS.trans<|hC l _
def jB:∀(ds:-(Nat×↑Nat)) (Av:-Nat),Av<+:XM Av ds
 |[]=>λZ=>kM _|p::ds=>λa=>(hC p.2 a).trans<|jB ds _
def aeT(h:s<2):s∈Lm Av s:=by
 unfold Lm;by_cases c:s∈Av;·rw[ai λz=>z.2 c];exact c
 ·rw[ao {h,c}];calc BH _<|.head _
def rC:∀{l Av:-Nat} {s:Nat},s<2->s∈l->s∈l.foldl Lm Av
 |_::l,Av,s,h,hs=>by
  rcases aK hs with rfl|hs
  ·exact(hC l _).subset<|aeT h
  ·calc rC (l:=l) h hs
def jC:∀{ds:-(Nat×↑Nat)} {Av:-Nat} {p:Nat×↑Nat} {s:Nat},p∈ds->s<2->s∈p.2->s∈XM Av ds
 |_::ds,Av,p,s,a,h=>λb=>by
  rcases aK a with rfl|a
  ·exact(jB ds _).subset<|rC h b
  ·calc jC (ds:=ds) a h b
def E9(T:-Nat)(s:Nat):Nat:=if s<2 then 3+T.idxOf s else 2+J T+s
def U2(T:-Nat)(p:Nat×↑Nat):Nat×↑Nat:=(E9 T p.1,p.2.map<|E9 T)
section
variable{T Av:-Nat}{m:Nat}
def rD(h:2<=s):E9 T s=2+J T+s:=ai<|bz h
def rE{t i:Nat}:2+t+(2+i)=4+t+i:=AjX 2 t 2 i^(El 4 t i).symm
def aeW{t m:Nat}:4+t+m-(3+t)=m+1:=ah (·-(3+t)) ((ah (·+m) (Hb 3 t 1).symm).trans ((El _ 1 m).trans (ah (3+t+·)<|FO 1 m)))^SJ ..
def eE{t i:Nat}:3+t<4+t+i:=Cw (Z1 (EM 3) t)<|CD _ _
def f7(h:2<=s):E9 T s=4+T.length+(s-2):=rD h^(ah (2+T.length+·) (tX h).symm).trans rE
def hD(h:2<=s)(hs:s<2+m):4+T.length+(s-2)<4+T.length+m:=Lq (kj h hs) _
def aeX(h:Lm Av s<+:T)(hs:s<2+m):Mh (Cn (4+J T) m) (Cg<|3+J Av) (E9 T s)=Cg (3+(Lm Av s).length):=by
 clear T Av m s _ h hs;by_cases c:s<2
 ·have b:E9 T s=3+T.idxOf s:=ao c;have f:E9 T s∉Cn (4+J T) m:=λz=>by have Ag:=(cJ z).1;rw[b] at Ag;exact Hq _<|DG (Ag\Du (List.idxOf_le_length (a:=s) (l:=T)) 3)<|Z1 (EM 3) _
  unfold Lm at h⊢;by_cases d:s∈Av;·rw[ai λz=>z.2 d] at h⊢;obtain⟨r,rfl⟩:=h;unfold Mh;calc ai λz=>z.2 ?_;rw[b,Aj9,ao d];exact cV<|Lq (Aka d) 3
  ·rw[ao {c,d}] at h⊢;obtain⟨r,rfl⟩:=h;have e:(Av++[s]++r).idxOf s=J Av:=by rw[Dr,Aj9,ai d,Aj2,List.idxOf_cons_self,EV]
   have g:E9 (Av++[s]++r) s∉Cg (3+J Av):=λz=>by rw[b,e] at z;exact Hq _<|cU z
   unfold Mh;rw[ao {f,g},b,e,BD,Pl,<-El,VB]
 ·unfold Lm;rw[ai λz=>c z.1];unfold Mh;calc ai λz=>z.1<|XK.mpr ?_;rw[f7<|bM c];calc {CD _ _,hD (bM c) hs}
def rF:∀(l Av:-Nat),l.foldl Lm Av<+:T->(∀s∈l,s<2+m)->(l.map<|E9 T).foldl (Mh<|Cn (4+J T) m) (Cg<|3+J Av)=Cg (3+(l.foldl Lm Av).length)
 |[]=>λZ Z Z=>rfl|s::l=>λb h c=>by rw[HI,Rp,aeX ((hC l _).trans h)<|c s<|.head _];calc rF l _ h λx a=>c x<|.tail _ a
def rG:∀(ds:-(Nat×↑Nat)) (Av:-Nat),XM Av ds<+:T->(∀p∈ds,∀s∈p.2,s<2+m)->Sv (Cn (4+J T) m) (ds.map<|U2 T) (Cg<|3+J Av)=Cg (3+(XM Av ds).length)
 |[]=>λZ Z Z=>rfl|p::ds=>λb h c=>by show Sv _ (ds.map<|U2 T) ((p.2.map<|E9 T).foldl _ _)=_;rw[rF p.2 b ((jB ds _).trans h)<|c p<|.head _];calc rG ds _ h λq a=>c q<|.tail _ a
end
def AdI(T:-Nat):-Nat:=[0,1].filter λs=>decide<|s∉T
def Qk(T:-Nat)(m:Nat):-Str:=(["$end","error","$undefined"]:-Str)++T.map B4++(["$accept"]:-Str)++(Cg m).map (λi=>B4<|2+i)++(AdI T).map B4
def Q9(T:-Nat)(m s:Nat):Nat:=if s∈T then 3+T.idxOf s else 4+J T+m+(AdI T).idxOf s
def Ln(T:-Nat)(m:Nat):Bool:=
 let L:=Qk T m
 decide L.Nodup&&L.all (λx=>decide (x.cps.size<20)&&PyData.strOk x)&&L.getD (3+J T) ""=="$accept"&&(Cg m).all (λj=>L.getD (4+J T+j) ""==B4 (2+j))&&T.all (λs=>decide (s<2)&&L.getD (3+T.idxOf s) ""==B4 s)&&[0,1].all (λs=>L.getD (Q9 T m s) ""==B4 s)&&(Cg<|4+J T+m).all (λi=>decide (3<=i/\i<3+J T)==decide (i=Q9 T m 0\/i=Q9 T m 1))&&decide T.Nodup&&decide (J T<=2)
def aeK:∀T∈Qj,∀m,m<5->2<=m->Ln T m=Y:=by decide+kernel
def AdL(T:-Nat)(m:Nat):Prop:=kQ
 ((Qk T m).Nodup)
 (∀x∈Qk T m,x.cps.size<20)
 (∀x∈Qk T m,PyData.strOk x=Y)
 (Hp (Qk T m) (3+J T)="$accept")
 (∀j,j<m->Hp (Qk T m) (4+J T+j)=B4 (2+j))
 (∀s∈T,Hp (Qk T m) (3+T.idxOf s)=B4 s)
 (∀s∈T,s<2)
 (Hp (Qk T m) (Q9 T m 0)=B4 0)
 (Hp (Qk T m) (Q9 T m 1)=B4 1)
 (∀i,i<4+J T+m->((3<=i/\i<3+J T)↔(i=Q9 T m 0\/i=Q9 T m 1)))
 (T.Nodup)
 (J T<=2)
def f9{x:Str}(h:L.getD i ""=x)(a:x≠""):Hp L i=x:=by
 unfold Hp;rw[CO] at h⊢;cases e:L[i]?with
 |none=>rw[e] at h;calc ar h.symm a|some y=>rw[e] at h;calc h
def rH(h:s<6):B4 s≠"":=by
 have:∀s,s<6->B4 s≠"":=by decide
 calc this s h
def aeZ{T:-Nat}{m:Nat}(c:T∈Qj)(a:2<=m/\m<=4):AdL T m:=by clear T m _ c a;have h:=aeK T c m (Iu a.2) a.1;unfold Ln at h;simp only [Rm,Rl,beq_iff_eq,decide_eq_true_eq,jV] at h;obtain⟨⟨⟨⟨⟨⟨⟨⟨Ag,d⟩,l⟩,o⟩,e⟩,f⟩,p⟩,q⟩,r⟩:=h;have lt:=λs a=>(e s a).1;calc {Ag,λx b=>(d x b).1,λx b=>(d x b).2,f9 l ∅,λj g=>f9 (o j g)<|rH<|Lq (Cw g a.2) 2,λs a=>f9 (e s a).2<|rH<|DQ (lt s a) ∅,lt,f9 (f 0<|.head _) ∅,f9 (f 1<|.tail _<|.head _) ∅,λi t=>decide_eq_decide.mp<|p i t,q,r}
section
variable{m:Nat}
abbrev DA(ds:-(Nat×↑Nat)):-Nat:=XM [] ds
abbrev Ql(m:Nat)(ds:-(Nat×↑Nat)):EA:=Hp<|Qk (DA ds) m
abbrev FV(ds:-(Nat×↑Nat)):-(Nat×↑Nat):=ds.map<|U2<|DA ds
theorem D3.Ln(H:D3 m ds):AdL (DA ds) m:=aeZ (rB ds []<|.head _) H.2
def D3.b7(H:D3 m ds)(hs:s<2+m)(a:s<2->s∈DA ds):Ql m ds (E9 (DA ds) s)=B4 s:=by
 by_cases c:s<2;·rw[show E9 (DA ds) s=3+(DA ds).idxOf s from ao c];exact H.Ln.6 s<|a c
 ·have:=bM c;rw[f7 this];calc H.Ln.5 (s-2) (kj this hs)^ah B4 (tX this)
def rI:∀(A l:-Nat),(l++A).Nodup->A.foldl (λl x=>if x∈l then l else l++[x]) l=l++A
 |[]=>λl Z=>(Ct l).symm|x::A=>λl h=>by rw[Rp,ai λz=>(dI h) x z x (.head _) rfl,rI A (l++[x]) (by rw[Dr];calc h),Dr];rfl
def rL:∀(An l:-Nat),(∀x∈An,x∈l)->An.foldl (λl x=>if x∈l then l else l++[x]) l=l
 |[]=>λZ Z=>rfl|x::An=>λl h=>by rw[Rp,ao<|h x<|.head _];calc rL An l λy a=>h y<|.tail _ a
def aeY(AN:-(Nat×↑Nat)):Gs AN=(AN.map (·.1)).foldl (λl x=>if x∈l then l else l++[x]) []:=by unfold Gs;rw[List.foldl_map]
def D3.f6(H:D3 m ds):∃An,(FV ds).map (·.1)=Cn (4+(DA ds).length) m++An/\∀x∈An,x∈Cn (4+(DA ds).length) m:=by
 clear m ds _ H;calc ak H.4 λAn e=>?_;have A3:(FV ds).map (·.1)=(ds.map (·.1)).map (E9<|DA ds):=by rw[Fy,Fy];rfl
 have DU:(Cn 2 m).map (E9<|DA ds)=Cn (4+(DA ds).length) m:=by rw[Akb,Akb,Fy];calc FI λi Z=>?_;exact rD (CD 2 i)^rE
 calc {An.map<|E9<|DA ds,by rw[A3,e,Ee,DU],λx b=>?_};calc ae (b0 b) λy c a=>?_;subst a;calc ae (b0 (e▸BH _ c:y∈ds.map (·.1))) λp d a=>?_;subst a;have q:=H.1.1 p d;rw[XK,f7 q.1];calc {CD _ _,hD q.1 q.2}
theorem D3.Gs(H:D3 m ds):Mine.Internal.Gs (FV ds)=Cn (4+(DA ds).length) m:=by calc ae H.f6 λAn e h=>?_;rw[aeY,e,SV,rI _ [] tN,kL];calc rL An _ h
def aeU:∀j,j<4->AdH (B4<|2+j)
 |0,_=>{by decide+kernel,by decide+kernel,by decide+kernel}
 |1,_=>{by decide+kernel,by decide+kernel,by decide+kernel}
 |2,_=>{by decide+kernel,by decide+kernel,by decide+kernel}
 |3,_=>{by decide+kernel,by decide+kernel,by decide+kernel}
def D3.cE(H:D3 m ds)(d:p∈FV ds):(3+(DA ds).length<p.1/\p.1<4+(DA ds).length+m)/\J p.2<=3/\∀s∈p.2,s<4+(DA ds).length+m/\3<=s/\s≠3+(DA ds).length:=by
 clear m ds p _ H d;calc ae (b0 d) λq a b=>?_;subst b;have Ag:=H.1.1 q a;refine {?_,Di (Bq _)\H.1.3 q a,λs hs=>?_}
 ·show _<E9 (DA ds) q.1/\E9 (DA ds) q.1<_;rw[f7 Ag.1];exact {eE,hD Ag.1 Ag.2}
 ·calc ae (b0 hs) λx f b=>?_;subst b;have h:=H.1.2 q a x f;by_cases c:x<2
  ·have g:=Aka<|jC (Av:=[]) a c f;rw[show E9 (DA ds) x=3+(DA ds).idxOf x from ao c];exact {DQ (Lq g 3) eE,CD 3 _,λe=>EX g<|Ajz e}
  ·rw[f7<|bM c];calc {hD (bM c) h,CD 3 _\BY eE,Ha eE}
end
def rM:∀{rs:-(Bp×Nat)},(∀p∈rs,J p.1.r<=B)->Ma rs<=B*(J rs)
 |[]=>λZ=>CE _|p::rs=>λh=>by show(J p.1.r)+Ma rs<=_;rw[Gb,Wv,FO];calc EL (rM λq a=>h q<|.tail _ a)<|h p<|.head _
def rN{st:Nat}(h:(Sh names Ad a st).CA)(b:∀r∈a,Ad<=r.l):(Sh names Ad a st).TY:=by
 calc aC (p3 (J names) a.zipIdx (names.map λZ=>[],[],[]) (Bq _) λq c=>(h.4 _<|kA c).1) λd f=>?_;have e:∀s,(Sh names Ad a st).L7.getD s []=Zy a.zipIdx s:=λs=>by calc f s^?_;rw[show(names.map λZ=>([]:-Nat)).getD s []=[] from by rw[CO,Gw];cases names[s]?<;>rfl];rfl
 calc {{h,b},d,λs j=>?_,λs=>?_};·rw[e];exact abY
 ·rw[e];rw[Bq];calc Ro _ _\?_;rw[Fb];calc BY h.3\∅
def rP{st:Nat}(e:J names<=10)(A4:Ad<J names)(b:J c<=8)(a:∀r∈c,r.l<J names/\J r.r<=3/\∀s∈r.r,s<J names):XA names Ad c st:=by have d:=(rM λp f=>(a _<|bX f).2.1)\Hd 3 (by rw[Fb];calc b);calc {{DG e ∅,A4,DG b ∅,λr h=>{(a r h).1,(a r h).2.2,DG (a r h).2.1 ∅},d\∅},EL d b\∅}
def aeV:(EH g s).length=(g.aa.map (·.l)).count s:=by
 rw[Bq,<-List.countP_eq_length_filter,List.count_eq_countP];have e:g.aa.map (·.l)=g.aa.zipIdx.map λp=>p.1.l:=by rw[show(λp:Bp×Nat=>p.1.l)=(λr:Bp=>r.l)∘SR from rfl,<-Fy,tP]
 rw[e,List.countP_map];calc List.countP_congr λp Z=>?_;show decide (p.1.l=s)=Y↔(p.1.l==s)=Y;rw[bB,beq_iff_eq]
section
variable{m:Nat}
abbrev Ew(ds:-(Nat×↑Nat)):Nat:=3+(DA ds).length
abbrev Pb(m:Nat)(ds:-(Nat×↑Nat)):AK:=UO (Ew ds) (4+(DA ds).length+m)<|FV ds
def D3.Ah(H:D3 m ds)(a:Bk):Bk:={a with AA:=Ql m ds,inj:=ry H.Ln.1 H.Ln.2,aZ:=rz H.Ln.3}
def D3.aa(H:D3 m ds)(a:r∈Nt (Ew ds) (FV ds)):r={Ew ds,[Ew ds+1,0],0}\/∃p∈FV ds,r={p.1,p.2,Si (Ew ds) p.2}:=by
 clear m ds r _ H a;rcases aK a with h|h
 ·exact .inl h
 ·calc ae (b0 h) λp b c=>?_;subst c;calc .inr {p,b,rfl}
def D3.jD(H:D3 m ds):(Nt (Ew ds)<|FV ds).length<=8:=by show(_::Hs _ (Hs _ ds)).length<=8;rw[Gb,Bq,Bq];calc GX H.3
theorem D3.N(H:D3 m ds):4+(DA ds).length+m<=10/\Ew ds+3<=4+(DA ds).length+m/\4+(DA ds).length+m<=Ew ds+5/\Ew ds<=5:=by have Ag:=H.Ln.12;have a:=H.2;calc {EL (Du Ag 4) a.2,Di (Hb 3 _ 3^(Hb 4 _ 2).symm)\Du a.1 _,Du a.2 _\Di (Hb 4 _ 4^(Hb 3 _ 5).symm),Du Ag 3}
def D3.bG(H:D3 m ds):Ew ds+1<4+(DA ds).length+m:=Cw (Lq ∅ _) H.N.2.1
def D3.fa(H:D3 m ds):XA (Cg<|4+(DA ds).length+m) (Ew ds) (Nt (Ew ds)<|FV ds) (Ew ds+1):=by
 clear m ds _ H;have a:=H.N;calc rP (by rw[Gy];calc a.1) (by rw[Gy];calc eE) H.jD λr b=>?_;rw[Gy];rcases H.aa b with rfl|⟨p,c,rfl⟩
 ·calc {eE,by show 2<=3;decide,λs hs=>?_};rcases aK hs with rfl|hs
  ·exact H.bG
  ·rw[aF hs];exact DG (C9 _)<|eE (t:=(DA ds).length)
 ·have q:=H.cE c;calc {q.1.2,q.2.1,λs a=>(q.2.2 s a).1}
def D3.aeJ(H:D3 m ds):U0 (Ql m ds) (Ew ds) (4+(DA ds).length+m) (FV ds):=by
 clear m ds _ H;have d:=H.N;have b:Ew ds+1=4+(DA ds).length:=Hb 3 _ 1;have f:4+(DA ds).length+m-(Ew ds+1)=m:=by rw[b];exact SJ ..
 calc {rfl,rfl,rfl,H.Ln.4,CD 3 _,d.1,H.bG,λx Ag g=>?_,Di (Bq _)\H.3,λp a=>(H.cE a).1,λp a=>(H.cE a).2.1,λp a s b=>((H.cE a).2.2 s b).1,?_,?_,H.fa};·have h:=H.2.2;have c:x-(Ew ds+1)<m:=kj Ag (by rw[b];calc g);have e:=H.Ln.5 (x-(Ew ds+1)) c;rw[<-b,tX Ag] at e;rw[show Ql m ds x=B4 (2+(x-(Ew ds+1))) from e];exact aeU _<|Cw c h
 ·rw[H.Gs,f,b]
 ·rw[H.Gs];calc rG ds [] (kM _) H.1.2
def D3.bE(H:D3 m ds):∃An,(Nt (Ew ds)<|FV ds).map (·.l)=Cn (Ew ds) (m+1)++An:=by
 refine ae H.f6 λAn e Z=>{An,?_}
 show Ew ds::Hs (λr:Bp=>r.l) (Hs _<|FV ds)=_;rw[ks,AjO,Fy];calc ah _<|e^?_;rw[show Ew ds+1=4+(DA ds).length from Hb 3 _ 1]
def D3.da(H:D3 m ds)(j:Bk):Bt (H.Ah j) (Pb m ds):=by
 clear m ds j _ H;have b:=H.N;have c:(Pb m ds).Aq.length=4+(DA ds).length+m:=Gy;have o:(Pb m ds).Aq.length-(Pb m ds).Ad=m+1:=by rw[c];exact aeW
 obtain⟨An,f⟩:=H.bE;have t:m+1+J An<=8:=by have:=ah J f;rw[Bq,BD,H6] at this;exact this▸H.jD
 refine {{rN H.fa.1 λr g=>?_,by rw[c];calc Ml b.1,λr g=>?_,?_,b.2.2.2},ah Cg c.symm,CD 3 _,by rw[c];exact b.2.1,by rw[c];calc b.2.2.1,rfl,rfl,H.Ln.4,?_,H.jD,rfl,λi r h=>?_,λs=>?_,{An,by rw[o];calc f}}
 ·rcases H.aa g with rfl|⟨p,d,rfl⟩
  ·exact CE _
  ·exact BY (H.cE d).1.1
 ·rcases H.aa g with rfl|⟨p,d,rfl⟩
  ·show 2<=3;decide
  ·exact(H.cE d).2.1
 ·rw[c];exact DG (ti b.1 b.2.2.2) ∅
 ·show Ql m ds (3+(DA ds).length+1)=_;rw[show 3+(DA ds).length+1=4+(DA ds).length+0 from Hb 3 _ 1];exact(H.Ln.5 0<|Cw ∅ H.2.1)
 ·have h:((FV ds).map λp=>({p.1,p.2,Si (Ew ds) p.2}:Bp))[i]?=U r:=h;obtain⟨p,d,u⟩:=b0<|GK h;subst u;have q:=H.cE d;exact {q.1.1,λs a=>{(q.2.2 s a).2.1,(q.2.2 s a).2.2}}
 ·have e:(EH (Pb m ds) s).length=(Cn (Ew ds) (m+1)++An).count s:=aeV^ah (List.count s) f;rw[Yb] at e;show(EH (Pb m ds) s).length+_<=9;rw[e,o];have Ag:(Cn (Ew ds)<|m+1).count s<=1:=List.nodup_iff_count.mp tN s;have w:=tG (a:=s) (l:=An);calc G8 (EL Ag w) _\(Di (El 1 _ _)\Du (Di (FO _ _)\t) 1)
def D3.aeO(H:D3 m ds)(a:Bk):IV (H.Ah a) (Pb m ds) (Q9 (DA ds) m 0) (Q9 (DA ds) m 1):={H.Ln.8,H.Ln.9,λi b=>H.Ln.10 i<|(Gy (n:=4+(DA ds).length+m))▸b}
end
def XN(g:AK)(AG ab:-Bool):-Bool:=g.aa.zipIdx.map λr=>AD AG r.2&&AD ab r.1.l
def Ek(w:Bk)(g:AK)(AG ab:-Bool):Prop:=He
 (Bt w g)
 (QJ g AG)
 (GP g (Lg g.aa AG g.Ad) ab)
 (AD AG 0=Y)
abbrev Pc(g:AK)(AG ab:-Bool):AK:=Adu g ab<|XN g AG ab
abbrev pl(g:AK)(ab:-Bool)(s:Nat):Nat:=(Gq g ab<|J g.Aq).getD s 0
def jE(h:s<t)(a:p s=Y):((Cg t).filter p)[((Cg s).filter p).length]?=U s:=by
 have e:Cg t=Cg s++Cn s (t-s):=by rw[X7,X7];have:=Aj8 (s:=0) (m:=s) (n:=t-s);rw[EV,MV<|BY h] at this;exact this.symm
 rw[e,LZ,Qz<|CE _,WH];calc ak (Nat.exists_eq_succ_of_ne_zero<|Ha<|kC h) λj b=>?_;rw[b,ks,Rn a];rfl
section
variable{w:Bk}{g:AK}{AG ab:-Bool}{s t i:Nat}{r:Bp}
def gb(hs:s<J g.Aq):pl g ab s=((Cg s).filter<|HU g ab).length:=et hs
def hE(h:s<=g.Ad):HU g ab s=Y:=ej<|.inl<|aJ h
def fb(hs:s<J g.Aq)(h:s<=g.Ad):pl g ab s=s:=by rw[gb hs,Z8.mpr λx a=>hE<|BY (cU a)\h,Gy]
def jF(a:t<J g.Aq)(h:s<t)(Ax:HU g ab s=Y):pl g ab s<pl g ab t:=by rw[gb<|DQ h a,gb a];calc(bK<|jE h Ax)
def ae0(hs:s<J g.Aq)(a:t<J g.Aq)(Ag:HU g ab s=Y)(b:HU g ab t=Y)(e:pl g ab s=pl g ab t):s=t:=by
 rcases Nat.lt_trichotomy s t with h|h|h
 ·exact ar e<|EX<|jF a h Ag
 ·exact h
 ·calc ar e.symm (EX<|jF hs h b)
def rQ:(Fw g ab<|J g.Aq).length=((Cg<|J g.Aq).filter<|HU g ab).length:=Bq _
def hF(hs:s<J g.Aq)(Ax:HU g ab s=Y):pl g ab s<(Fw g ab<|J g.Aq).length:=by rw[gb hs,rQ];calc(bK<|jE hs Ax)
def rR(a:g.CA)(hs:s<J g.Aq)(h:g.Ad<=s):g.Ad<=pl g ab s:=by
 rcases Nat.eq_or_lt_of_le h with e|h
 ·rw[<-e,fb (e▸hs)<|CE _];exact CE _
 ·have:=jF (ab:=ab) hs h<|hE<|CE _;rw[fb a.2<|CE _] at this;calc BY this
def rS(G:Bt w g):Fw g ab (J g.Aq)=(Cg<|J g.Aq).filter (HU g ab):=by calc(FI λs hs=>?_)^EW _;calc G.at<|cU<|dt hs
def jG(G:Bt w g)(hs:s<J g.Aq)(Ax:HU g ab s=Y):(Fw g ab<|J g.Aq).getD (pl g ab s) 0=s:=by rw[rS G,gb hs,CO,jE hs Ax];rfl
def Ek.ae1(H:Ek w g AG ab):AD ab g.Ad=Y:=(H.3.2 _).mpr .ba
def Ek.bg(H:Ek w g AG ab)(h:(r,i)∈g.aa.zipIdx):(decide (i=0)||AD (XN g AG ab) i)=(AD AG i&&AD ab r.l):=by
 have a:=d0 h;have e:AD (XN g AG ab) i=(AD AG i&&AD ab r.l):=by unfold AD XN;rw[CO,Gw,kz,a];show(_&&_)=_;rw[EV];rfl
 rw[e];by_cases c:i=0;·subst c;rw[H.4,(BQ<|a.symm^H.1.11),H.ae1];rfl
 ·rw[decide_eq_false c];rfl
def Ek.gc(H:Ek w g AG ab)(h:r∈g.aa):r.l<J g.Aq/\(∀s∈r.r,s<J g.Aq)/\J r.r<=3/\g.Ad<=r.l:={(H.1.1.1.1.1.4 r h).1,(H.1.1.1.1.1.4 r h).2,H.1.1.3 r h,H.1.1.1.1.2 r h}
def Ek.sym(H:Ek w g AG ab)(h:(r,i)∈g.aa.zipIdx)(Ax:(AD AG i&&AD ab r.l)=Y):HU g ab r.l=Y/\∀s∈r.r,HU g ab s=Y:=by
 have q:=bQ Ax;have a:=d0 h;have e:g.aa.getD i Bz=r:=by rw[CO,a];rfl
 calc {ej<|.inr q.2,λs b=>ej<|.inr<|(H.3.2 s).mpr<|.aU (bK a) q.1 (e.symm▸(H.3.2 _).mp q.2)<|e.symm▸b}
def Ek.aO(H:Ek w g AG ab){a:Bp}(h:a∈(Pc g AG ab).aa):∃r i,(r,i)∈g.aa.zipIdx/\(AD AG i&&AD ab r.l)=Y/\a=UT (Gq g ab<|J g.Aq) r:=by clear w g AG ab a _ H h;obtain⟨⟨r,i⟩,Ag,rfl⟩:=b0 h;calc aC (dO Ag) λa b=>{r,i,a,(H.bg a).symm^b,rfl}
def Ek.cq(H:Ek w g AG ab)(h:(r,i)∈g.aa.zipIdx)(Ax:(AD AG i&&AD ab r.l)=Y):UT (Gq g ab<|J g.Aq) r∈(Pc g AG ab).aa:=dM {(r,i),c4 {h,H.bg h^Ax},rfl}
def Ek.bj(H:Ek w g AG ab)(h:a∈(Pc g AG ab).aa):a.l<(Fw g ab<|J g.Aq).length/\J a.r<=3/\(∀s∈a.r,s<(Fw g ab<|J g.Aq).length)/\g.Ad<=a.l:=by clear w g AG ab a _ H h;calc a8 (H.aO h) λr i Ag e c=>?_;subst c;have b:=H.gc<|bX Ag;have Ax:=H.sym Ag e;calc {hF b.1 Ax.1,by show(r.r.map _).length<=3;rw[Bq];calc b.2.2.1,λs hs=>?_,rR H.1.1.1.1.1 b.1 b.2.2.2};calc ae (b0 hs) λx d c=>?_;subst c;calc hF (b.2.1 x d)<|Ax.2 x d
def ae2:(Pc g AG ab).aa.length<=J g.aa:=Di (Bq _)\(Ro _ _\Di Fb)
def rT:(Fw g ab<|J g.Aq).length<=J g.Aq:=by rw[rQ];calc Ro _ _\Di Gy
def Ek.rW(H:Ek w g AG ab):(Fw g ab<|J g.Aq).length<=10:=rT\(H.1.5\G8 H.1.1.5 5)
def Ek.rX(H:Ek w g AG ab):g.Ad<(Fw g ab<|J g.Aq).length:=by have:=hF (ab:=ab) H.1.1.1.1.1.2<|hE<|CE _;rw[fb H.1.1.1.1.1.2<|CE _] at this;calc this
def Ek.fa(H:Ek w g AG ab):XA (Fw g ab<|J g.Aq) g.Ad (LL (XN g AG ab) (Gq g ab<|J g.Aq) g.aa.zipIdx) ((Gq g ab<|J g.Aq).getD g.st 0):=rP H.rW H.rX (ae2\H.1.10) λr a=>{(H.bj a).1,(H.bj a).2.1,(H.bj a).2.2.1}
def Ek.ae3(H:Ek w g AG ab):(Pc g AG ab).HV:={rN H.fa.1 λr a=>(H.bj a).2.2.2,Ml H.rW,λr a=>(H.bj a).2.1,DG (Lr g.Ad rT) H.1.1.4,H.1.1.5}
def Ek.cj(H:Ek w g AG ab)(h:Ce (Pc g AG ab).aa g.Ad b x):∀Bm,b=Bm.map (pl g ab)->(∀s∈Bm,s<J g.Aq/\HU g ab s=Y)->Ce g.aa g.Ad Bm x:=by
 clear w g AG ab b x _ H h;cases h with
 |nil=>
  intro Bm e _;cases Bm using List.casesOn with
  |nil=>calc .nil|cons _ _=>delta e
 |@FG s' b v Ag j _ m=>
  intro Bm e hs;cases Bm using List.casesOn with
  |nil=>delta e|cons s Bm=>
   injection e with AW A3
   have c:=(hs s<|.head _).1;have AE:s'=s:=AW^fb c (BY<|NA λz=>ar (AW▸Ag)<|bz<|rR (ab:=ab) H.1.1.1.1.1 c z);subst AE;calc .FG Ag j<|m Bm A3 λx a=>hs x<|.tail _ a
 |@aO C b u v o _ _ p q=>
  intro Bm e hs;cases Bm using List.casesOn with
  |nil=>delta e|cons s Bm=>
   injection e with AW A3
   calc a8 (H.aO o) λr i d y A=>?_;subst A;calc aC (hs s<|.head _) λc B=>?_;have f:=H.gc<|bX d;have Ax:=H.sym d y;have AE:r.l=s:=ae0 f.1 c Ax.1 B AW;subst AE;calc .aO (bX d) (p r.r rfl λx a=>{f.2.1 x a,Ax.2 x a})<|q Bm A3 λx a=>hs x<|.tail _ a
def Ek.ae4(H:Ek w g AG ab){Bm:-Nat}(h:Ce g.aa g.Ad Bm x):(∀s∈Bm,s<J g.Aq/\(g.Ad<=s->AD ab s=Y))->Ce (Pc g AG ab).aa g.Ad (Bm.map<|pl g ab) x:=by
 clear w g AG ab Bm x _ H h;cases h with
 |nil=>calcλZ=>.nil|@FG s Bm v Ag o _ p=>
  intro hs;rw[HI,fb (hs s<|.head _).1<|BY Ag];calc .FG Ag o<|p λx a=>hs x<|.tail _ a
 |@aO r Bm u v d q _ y z=>
  intro hs;calc ak (SS d) λi b=>?_;have e:=(bK b)
  have c:g.aa.getD i Bz=r:=by rw[CO,b];rfl
  have f:=H.gc d;have j:=(H.2.2 i).mpr {e,c.symm▸rf q};have m:=(hs r.l<|.head _).2 f.2.2.2;calc Ce.aO (H.cq (di b) (by rw[j,m];rfl)) (y λs C6=>{f.2.1 s C6,λZ=>(H.3.2 s).mpr<|.aU e j ?_<|c.symm▸C6})<|z λx a=>hs x<|.tail _ a;rw[c];calc(H.3.2 _).mp m
def Ek.st(H:Ek w g AG ab):g.st<J g.Aq/\AD ab g.st=Y:=by
 have a:g.aa.getD 0 Bz={g.Ad,[g.Ad+1,0],0}:=by rw[CO,H.1.11];rfl
 calc {?_,(H.3.2 _).mpr<|.aU ((bK H.1.11)) H.4 (a.symm▸.ba) (by rw[a,H.1.6];calc .head _)};rw[H.1.6];calc Cw (EM _)<|Ex _\H.1.4
def Ek.aP(H:Ek w g AG ab)(x:-Nat):N3 (Pc g AG ab) x↔N3 g x:=by
 have a:=H.st;refine and_congr_left λZ=>{λh=>H.cj h [g.st] rfl λs hs=>?_,λh=>H.ae4 h λs hs=>?_}
 ·rw[aF hs];exact {a.1,ej<|.inr a.2}
 ·rw[aF hs];calc {a.1,λZ=>a.2}
end
def T9(g:AK)(aw:↥AK):Prop:=Em
 (N6 g aw)
 (∀m,aw=U m->(m.HV/\m.st<J m.Aq)/\(∀x,N3 m x↔N3 g x)/\m.Ad=g.Ad/\∀s,s<g.Ad->s<J m.Aq/\Es m s=s)
section
variable{w:Bk}{k:Nat}{g:AK}{AG:-Bool}
def QJ.ee(h:QJ g AG)(Ay:QJ g a)(i:Nat):AD AG i=AD a i:=cn<|(h.2 i).trans (Ay.2 i).symm
def rK(e:∀i,AD AG i=AD b i)(h:Lg g.aa AG a s):Lg g.aa b a s:=by
 cases h with
 |ba=>calc .ba|aU Ag c _ d f=>calc .aU Ag ((e _).symm^c) f d
def Ek.b7(H:Ek w g AG ab)(u:HY g):(∀i,AD AG i=AD u.AG i)/\∀s,AD ab s=AD u.ab s:=by have e:=H.2.ee u.u;calc {e,λs=>cn<|(H.3.2 s).trans<|tA {rK e,rK λi=>(e i).symm} (u.d.2 s).symm}
def Ek.ae5(H:Ek w g AG ab)(b:Mb g (g.Ad+1)):T9 g (U<|Pc g AG ab):=by
 clear w g AG ab _ H b;calc {{{nofun,λh=>ar b h},λm e=>BQ e▸H.fa.1,λm e u=>?_,λm e u=>?_},λm e=>?_};·calc aC (H.b7 u) λAW A3=>?_;rw[<-BQ e];show(LL (XN g AG ab) (Gq g ab<|J g.Aq) g.aa.zipIdx).map (λr=>(Es (Pc g AG ab) r.l,r.r.map<|Es<|Pc g AG ab))=_;rw[Fy];rw[(SO λr a=>by rw[H.bg (r:=r.1) (i:=r.2) a,AW,A3])];calc FI λr a=>aC (dO a) λAg j=>?_;have Ax:=H.sym (r:=r.1) (i:=r.2) Ag (by rw[AW,A3];calc j);have c:=H.gc<|bX Ag;calc LK (jG H.1 c.1 Ax.1) ?_;show(r.1.r.map _).map _=r.1.r;rw[Fy];exact(FI λs a=>jG H.1 (c.2.1 s a)<|Ax.2 s a)^EW _
 ·calc aC (H.b7 u) λAW A3=>?_;rw[<-BQ e];exact rS H.1^(SO λs Z=>by unfold HU;rw[A3])
 ·rw[<-BQ e];have d:=H.st;calc {{H.ae3,hF d.1<|ej<|.inr d.2},H.aP,rfl,λs hs=>?_};have f:=DQ hs H.1.1.1.1.1.2;have q:=jG H.1 f<|hE (ab:=ab)<|BY hs;rw[fb f<|BY hs] at q;calc {DQ hs H.rX,q}
def Aif(g:AK)(AG ab:-Bool):Ao QU:=(g,AG,ab,())
def ae6(H:Ek w g AG ab)(b:Mb g (g.Ad+1))(d:∀o,T9 g o->Q o):Adk.wp (w^^k+2) (Aif g AG ab) (Cp Q):=by
 clear w k g AG ab Q _ H b d;have q:Ue.BZ (w^^k+2) (g,ab,(g.aa.zipIdx.filter λZ=>Y).map λr=>AD AG r.2&&AD ab r.1.l,()) (λy=>Q<|U y):=by
  rw[b8];refine(ab1 H.1.1.1.1.1 H.st.1 H.3.1 ?_ H.fa).aq λy e=>?_
  ·exact Bq _^Fb
  ·rw[e];exact d _<|H.ae5 b
 have h:∀r∈g.aa.zipIdx,(r.2<J AG/\Cu r.2)/\E2 .And (AG.getD r.2 Ab) ((r.1.l<J ab/\Cu r.1.l)/\ab.getD r.1.l Ab=(AD AG r.2&&AD ab r.1.l)) (·=(AD AG r.2&&AD ab r.1.l)):=λr a=>by have Ag:r.2<J g.aa:=Yd a;have f:=(H.gc<|bX a).1;exact {{H.2.1.symm▸Ag,Cu.lt Ag<|BY H.1.1.1.1.1.3\∅},bO (λc=>{{H.3.1.symm▸f,H.1.1.1.1.1.aw f},dc c}) λc=>dE c}
 calc {H.1.1.1.1.1.bA,H.1.1.1.1.1.bA,λZ=>Y,(λr=>AD AG r.2&&AD ab r.1.l:Bp×Nat->Bool),λr a=>{rfl,λZ=>h r a},q}
def ae7(G:Bt w g)(a:∀o,T9 g o->Q o):UD.wp (w^^k+3) (Ao.DL [A1] (g,())<|Ao.C2 [⇑Aj,⇑Aj]) (Cp Q):=by
 clear w k g Q _ G a;calc(pR G.1.1.1.1).aq λAG Bu=>?_;have b:=(bK G.11)
 have e:g.aa.getD 0 Bz={g.Ad,[g.Ad+1,0],0}:=by rw[CO,G.11];rfl
 have d:AD AG 0=Y↔Mb g (g.Ad+1):=(Bu.2 0).trans (by
  rw[e];calc {λh=>h.2 _<|.head _,λh=>{b,λs hs=>?_}};rcases aK hs with rfl|hs
  ·exact h
  ·rw[aF hs];calc .ba<|Cw ∅ G.3)
 refine {{Bu.1.symm▸b,show 0<1000000 by decide},bZ (λc=>?_) λc=>?_}
 ·have f:¬Mb g (g.Ad+1):=λh=>nomatch D8 (d.mpr h).symm c;have st:g.st<J g.Aq:=by rw[G.6];exact Cw (EM _)<|Ex _\G.4
  calc {{st,Cu.lt st G.1.1.1.1.aB},?_,a Ai {{{λZ=>f,λZ=>rfl},nofun,nofun,nofun},nofun}};show(w.AA<|Es g g.st).length<=1000;rw[G.at st,G.6,G.9];decide
 ·calc(i5 G.1.1 Bu.1).aq λb D=>ae6 {G,Bu,D,c} (d.mp c) a
end
section
variable{k:Nat}
def ae8(G:Bt w g)(h:∀y,P8 (Fx g g.aa.zipIdx) y->y≠[])(q:Q Ai):Zr.wp (w^^k+5) (Ao.DL [A1,⇑O] (g,[],())<|Ao.C2 [AQ (Ds AZ AZ) ⇑O]) (Cp Q):=
 ((hl G.1).aq λb T=>(P7.ew G.1 T).aq λy a=>bZ (λZ=>q) λc=>ar (@aL _ (_) c)<|h y a)
def ae9(c:∀r∈R,r.l≠Ad->∀s∈r.r,3<=s/\s≠Ad){Bm:-Nat}(h:Ce R Ad Bm u):(∀s∈Bm,3<=s/\s≠Ad)->∀s∈u,3<=s/\s<Ad:=by
 cases h with
 |nil=>calcλZ=>az|@FG s Bm v Ag j _ d=>calcλc y a=>(aK a).elim (λe=>e▸{(c s<|.head _).1,Ag})<|d (λx b=>c x<|.tail _ b) y|@aO r Bm u v f _ _ g i=>calcλd y a=>(aN a).elim (g (c r f (d r.l<|.head _).2) y)<|i (λx b=>d x<|.tail _ b) y
def Bt.hG(G:Bt w g)(h:N3 g x):∀s∈x,3<=s/\s<g.Ad:=by
 refine ae9 (λr b c s hs=>?_) h.1 λs hs=>?_
 ·calc ak (SS b) λi a=>?_;cases i using Nat.casesOn with
  |zero=>calc ar (ah Bp.l<|BQ<|a.symm^G.11) c|succ i=>exact(G.12 i r a).2 s hs
 ·rw[aF hs,G.6];calc {Ml G.3,Wu _}
def FJ(a b:Nat):↑↑Nat:=[[],[a],[b],[a,a],[a,b],[b,a],[b,b]]
def afa(c:J x<=2)(h:∀s∈x,s=a\/s=b):x∈FJ a b:=by
 match x,c,h with
 |[],_,_=>calc .head _|[s],_,h=>
  rcases h s (.head _) with rfl|rfl
  ·exact .tail _<|.head _
  ·calc .tail _<|.tail _<|.head _
 |[s,t],_,h=>
  rcases h s (.head _) with rfl|rfl<;>rcases h t (.tail _<|.head _) with rfl|rfl
  ·exact .tail _<|.tail _<|.tail _<|.head _
  ·exact .tail _<|.tail _<|.tail _<|.tail _<|.head _
  ·exact .tail _<|.tail _<|.tail _<|.tail _<|.tail _<|.head _
  ·calc .tail _<|.tail _<|.tail _<|.tail _<|.tail _<|.tail _<|.head _
 |_::_::_::_,h,_=>calc ar h (by rw[Gb,Gb,Gb];calc Aj6 _∘Z7∘Z7)
def jH(h:x∈FJ a b):J x<=2/\∀s∈x,s=a\/s=b:=by
 clear a b x _ h;unfold FJ at h;simp only [ZR,CR,or_false] at h;rcases h with rfl|rfl|rfl|rfl|rfl|rfl|rfl<;>calc {by simp,by simp}
def afb(h:a≠b):(FJ a b).Nodup:=by unfold FJ;simp [h]
def IV.bx(A:IV w g a b):a≠b:=λe=>by calc ar (A.1.symm^(ah w.AA e).trans A.2) ∅
def IV.aP(A:IV w g a b)(G:Bt w g)(h:N3 g x):x∈FJ a b:=afa h.2 λs a=>(A.3 s<|DQ (G.hG h s a).2 G.1.1.1.1.2).mp<|G.hG h s a
def jI{S:-Nat->β->Prop}:∀{xs:↑↑Nat} {Al:-(-Nat×β)},Nf (λx y=>y.1=x/\S x y.2) xs Al->Al.map (·.1)=xs/\∀p∈Al,S p.1 p.2
 |[],Al=>λh=>by rw[show Al=[] from h];calc {rfl,az}|x::xs,Al=>λh=>by calc a8 h λy zs a Ag b=>?_;subst a;calc aC (jI b) λc d=>{by rw[HI,c,Ag.1],λp f=>(aK f).elim (λe=>e▸Ag.1▸Ag.2)<|d p}
def rZ[DecidableEq α]:∀{d:-(α×β)} {x:α} {y:β},x∉d.map (·.1)->B9 d x y=d++[(x,y)]
 |[],_,_=>λZ=>rfl|p::d,x,y=>λh=>by have a:x≠p.1:=λe=>h<|e▸.head _;show(if x=p.1 then _ else _)=_;rw[ai a,rZ λz=>h<|.tail _ z];rfl
def rY[DecidableEq α]:∀(xs d:-(α×β)),((d++xs).map (·.1)).Nodup->xs.foldl (λd p=>B9 d p.1 p.2) d=d++xs
 |[]=>λd Z=>(Ct d).symm|p::xs=>λd h=>by
  have a:p.1∉d.map (·.1):=λz=>by rw[Ee] at h;exact(dI h) _ z _ (.head _) rfl
  rw[Rp,rZ a,rY xs (d++[(p.1,p.2)]) (by rw[Dr];calc h),Dr];rfl
def jL[DecidableEq α]:∀{d:-(α×β)} {x:α} {y:β},C1 d x=U y->(x,y)∈d
 |p::d,x,y,h=>by
  by_cases c:x=p.1;·have h:(if x=p.1 then U p.2 else C1 d x)=U y:=h;rw[ao c] at h;exact BQ h▸c▸.head _
  ·have h:(if x=p.1 then U p.2 else C1 d x)=U y:=h;rw[ai c] at h;calc .tail _<|jL h
end
def H0(xs:-Int)(K0 AN:-(Nat×↑Nat))(g:AK)(a:T4)(em A8:-(Nat×Bool))(aw:↥AK)(ws as:↑↑Nat)(sp:-(-Nat×FU))(Ah:-Nat):Ao Cm:=(xs,(),K0,AN,g,a,em,A8,aw,ws,as,sp,Ah,())
abbrev G7(xs:-Int)(K0:-(Nat×↑Nat))(g:AK)(aw:↥AK)(ws as:↑↑Nat)(sp:-(-Nat×FU))(Ah:-Nat):Ao Cm:=H0 xs K0 (Fm g) g (C5 g) (E7 g) (GR g<|BA g) aw ws as sp Ah
section
variable{w:Bk}{k a b:Nat}{g:AK}{j:-(Nat×↑Nat)}{aw:↥AK}{ws as:↑↑Nat}{sp:-(-Nat×FU)}{AD:FU}
def afc{α:Type}{l:-α}{d:α}(h:i<J l):l.getD i d∈l:=bJ h
def Mi(w:Bk)(g:AK)(a b:Nat)(ws:↑↑Nat):Prop:=Dy
 (Bt w g)
 (IV w g a b)
 (Zz (N3 g) ws)
def Mi.bj(I:Mi w g a b ws):J ws<=7:=I.3.1.length_le_of_subset λx c=>I.2.aP I.1<|(I.3.3 x).mp c
def Mi.aB(I:Mi w g a b ws):AP (J ws):=I.bj\∅
def afd(I:Mi w g a b ws)(f:a<J g.Aq)(h:b<J g.Aq)(Ag:∀key,(Fx g g.aa.zipIdx key).length<=1):Aap.wp (w^^k+12) (G7 xs j g aw ws (FJ a b) sp Ah) (Cp (·=Y)):=
 (e9 (k:=k+11) (m:=7) ∅ ∅).aq λd c=>by have q:=jH<|afc (d:=[])<|show d<(FJ a b).length from c;calc {{c,DQ c ∅},aez I.1 I.2 I.3.3 I.aB q.1 (λs c=>(q.2 s c).elim (λe=>e▸(I.2.3 a f).mpr (.inl rfl)) λe=>e▸(I.2.3 b h).mpr (.inr rfl)) Ag}
def rU(G:Bt w g)(e:x=if s∈g.Aq then((g.Aq.idxOf s:Nat):Int) else Neg.neg 1)(c:decide (x<((0:Nat):Int))=Ab):s<J g.Aq:=by
 by_cases h:s∈g.Aq;·exact ju G h
 ·rw[ai h] at e;rw[e] at c;calc ar c ∅
def afe(I:Mi w g a b ws)(Ag:∀key,(Fx g g.aa.zipIdx key).length<=1):Xv.wp (w^^k+12) (G7 xs j g aw ws (FJ a b) sp Ah) (Cp (·=Y)):=by
 calc {a,I.2.1,(iY (k:=k+11) I.1.1.1.1.1.aB).aq λx An=>?_};have q:∀d:a<J g.Aq,∃i,w.AA i="b"/\Nh.BZ (w^^k+12) (g,i,()) λy=>if decide (y<((0:Nat):Int))=Y then Y=Y else Aap.wp (w^^k+12) (G7 xs j g aw ws (FJ a b) sp Ah) (Cp (·=Y)):=λd=>{b,I.2.2,(iY I.1.1.1.1.1.aB).aq λy e=>bH (λZ=>rfl) λc=>afd I d (rU I.1 e c) Ag}
 calc hg (λZ=>rfl) λc=>q<|rU I.1 An c
def aff(I:Mi w g a b ws):Zs.wp (w^^k+12) (G7 xs j g aw ws (FJ a b) sp Ah) (Cp (·=Y)):=
 (ql (k:=k+5) I.1.1).aq λz h=>by
  calc ae h λy d e=>?_;have q:z=Ab->∃f,AS (k+12)=AS f+4/\Zr.wp (w^^f) (Ao.DL [A1,⇑O] (g,[],())<|Ao.C2 [AQ (Ds AZ AZ) ⇑O]) (Cp λr=>r.isNone=Y):=λc=>⟨k+10,rfl,ae8 I.1 (λm i l=>by rw[((hn d).mpr<|(hn i).mp l)] at e;calc nomatch e.symm.trans c) rfl⟩
  calc bZ q λc=>afe I<|(hn d).mp<|aL<|e.symm.trans c
def afg(I:Mi w g a b ws)(hs:∀x AD,C1 sp x=U AD->ZG g x AD):UH.wp (w^^k+12) (G7 xs j g aw ws (FJ a b) sp Ah) (Cp (·=Y)):=
 (aeh I.1 {I.3.3,I.aB,hs}).aq λz e=>bZ (λc=>nomatch D8 e.symm c) λZ=>aff I
def afh(I:Mi w g a b ws)(d:f.AA=w.AA)(c:J Ah<=2)(e:C1 sp Ah=U AD)(S:ZG g Ah AD)(h:P.av (G7 xs j g aw ws as sp Ah)):Aao.wp f (G7 xs j g aw ws as sp Ah) P:=by have i:(F4 Ck).cq Ah ws=(C1 AD (g.Ad+1,0,J Ah)).isSome:=cn<|(@bB _ (_)).trans<|(I.3.3 Ah).trans<|tA {λq=>I.1.6▸q.1,λq=>{I.1.6.symm▸q,c}}<|(S.2 _ (Ex _)<|Cw (EM _)<|Ex _\I.1.4).symm.trans (by rw[f3,bB]);calc {g.Ad+1,congrFun d _^I.1.9,c\∅,AD,e,f5 i h}
def afi(I:Mi w g a b ws):Adl.wp (w^^k+12) (G7 xs j g aw ws (FJ a b) sp Ah) (Cp (·=Y)):=by
 have c:AP (FJ a b).length:=show 7<=1000000 by decide
 calc {c,c,λ(x:-Nat) (y:-Nat×FU)=>y.1=x/\ZG g x y.2,λ(x:-Nat) i=>(ad9 (k:=k+10) I.1 (jH i).1).aq λa h=>{rfl,h},λ(Al:-(-Nat×FU)) m=>?_};have Ax:Al.map (λp:-Nat×FU=>p.1)=FJ a b:=(jI m).1;have hs:=(jI m).2;have r:(([]++Al).map (λp:-Nat×FU=>p.1)).Nodup:=by rw[kL,Ax];exact afb I.2.bx
 have e:=rY Al [] r;rw[kL] at e;have s:AP (J Al):=by rw[<-Bq (f:=λp:-Nat×FU=>p.1),Ax];exact c
 have q:UG.wp (w^^k+12) (G7 xs j g aw ws (FJ a b) Al Ah) (IQ UH (w^^k+12) (Cp (·=Y))):=by calc c2 (t:=Ar Ac) (xs:=FJ a b) (λZ=>G7 xs j g aw ws (FJ a b) Al Ah) (λZ q=>{c,q}) rfl (λzs x l AV An u=>?_) (afg I λx a h=>hs (x,a)<|jL h);have i:x∈FJ a b:=An▸BH zs (.head l);obtain⟨AD,o⟩:=e6.mpr (Ax.symm▸i:x∈Al.map (·.1));show Aao.wp (w^^k+12) (G7 xs j g aw ws (FJ a b) Al x) _;exact afh I rfl (jH i).1 o (hs (x,AD)<|jL o) u
 calc {s,?_};show UG.wp (w^^k+12) (G7 xs j g aw ws (FJ a b) (Al.foldl (λd p=>B9 d p.1 p.2) []) Ah) (IQ UH (w^^k+12) (Cp (·=Y)));rw[e];calc q
def afj(I:Mi w g a b ws):Aaq.wp (w^^k+12) (G7 xs j g aw ws (FJ a b) sp Ah) (Cp (·=Y)):=by
 clear w k a b g xs _ j aw ws sp Ah _ I;have e:(ws.filter λx=>!(F4 Ck).cq x (FJ a b)).map id=[]:=by rw[EW];calc Pq.mpr λx c z=>?_;rw[show(F4 Ck).cq x (FJ a b)=Y from @aJ _ (_)<|I.2.aP I.1<|(I.3.3 x).mp c] at z;delta z
 calc {I.aB,I.aB,λ(x:-Nat)=>!(F4 Ck).cq x (FJ a b),id,λ(x:-Nat) c=>{rfl,λZ=>rfl},f5 e<|afi I}
def afk(I:Mi w g a b ws):Aar.wp (w^^k+12) (G7 xs j g aw ws as sp Ah) (Cp (·=Y)):=by clear w k a b g xs _ j aw ws as sp Ah _ I;have q:Aaq.wp (w^^k+12) (G7 xs j g aw ws (FJ a b) sp Ah) (Cp (·=Y)):=afj I;have A:=I.2;calc {a,A.1,b,A.2,a,A.1,a,A.1,a,A.1,b,A.2,b,A.2,a,A.1,b,A.2,b,A.2,q}
end
noncomputable section
section
variable{w:Bk}{k a b m:Nat}{g:AK}{xs:-Int}{i:-(Nat×↑Nat)}{aw:↥AK}{ws as:↑↑Nat}{sp:-(-Nat×FU)}
def Sw(g:AK)(x:-Nat):-Nat:=(x.filter λZ=>Y).map<|Es g
def afl(h:∀s∈x,Es c s=s):Sw c x=x:=by unfold Sw;rw[b8];calc FI h^EW x
def rV{Ae:↑↑Nat}(h:∀x∈Ae,∀s∈x,Es c s=s):(Ae.filter λZ=>Y).map (Sw c)=Ae:=by rw[b8];calc(FI λx d=>afl<|h x d)^EW Ae
def rJ(d:J x<=2)(e:J c.Aq<=1000000)(h:∀s∈x,s<J c.Aq):AP (J x)/\AP (J x)/\(∀s∈x,Y=Y/\(Y=Y->(s<J c.Aq/\Cu s)/\Es c s=Es c s))/\AP (Sw c x).length:=by have r:AP (J x):=d\∅;calc {r,r,λs a=>{rfl,λZ=>{{h s a,Cu.lt (h s a) e},rfl}},?_};unfold Sw;rw[b8];rw[Bq];calc r
def afm(I:Mi w g a b ws)(S:T9 g aw):Aas.wp (w^^k+12) (G7 xs i g aw ws as sp Ah) (Cp (·=Y)):=by
 clear w k a b g xs _ i aw ws as sp Ah _ I S;have e:Aar.wp (w^^k+12) (G7 xs i g aw ws as sp Ah) (Cp (·=Y)):=afk I;cases aw with
 |none=>calc e|some m=>
  obtain⟨⟨f,st⟩,j,u,h⟩:=S.2 m rfl;calc {m,rfl,(qp f st).aq λAe d=>?_};have l:=I.3.ee {d.1,d.2,λx=>(d.3 x).trans<|j x};subst l;have lt:∀x∈ws,J x<=2/\∀s∈x,s<g.Ad:=λx c=>{((I.3.3 x).mp c).2,λs a=>(I.1.hG ((I.3.3 x).mp c) s a).2}
  have o:J m.Aq<=1000000:=f.2\∅;calc⟨I.aB,I.aB,λZ=>Y,Sw m,λ(x:-Nat) c=>⟨rfl,λZ=>by calc eH (rJ (lt x c).1 o λs a=>(h s<|(lt x c).2 s a).1) λp q r t=>?_;calc {p,q,λZ=>Y,Es m,λ(s:Nat) a=>{rfl,λZ=>{m,rfl,((r s a).2 rfl).1,rfl}},t,rfl}⟩,f5 ((rV λx c s a=>(h s<|(lt x c).2 s a).2).symm) e⟩
def afn(G:Bt w g)(A:IV w g a b)(S:T9 g aw):Adm.wp (w^^k+12) (G7 xs i g aw ws as sp Ah) (Cp (·=Y)):=by
 clear w k a b g xs _ i aw ws as sp Ah _ G A S;have st:g.st<J g.Aq:=by rw[G.6];exact Cw (EM _)<|Ex _\G.4
 calc(qp (k:=k+9) G.1 st).aq λAe d=>?_;have I:Mi w g a b Ae:={G,A,d}
 have lt:∀x∈Ae,J x<=2/\∀s∈x,s<J g.Aq:=λx c=>{((d.3 x).mp c).2,λs a=>DQ (G.hG ((d.3 x).mp c) s a).2 G.1.1.1.1.2}
 have q:Aas.wp (w^^k+12) (G7 xs i g aw ((Ae.filter λZ=>Y).map<|Sw g) as sp Ah) (Cp (·=Y)):=by rw[(rV λx c s a=>G.at<|(lt x c).2 s a)];exact afm I S
 calc⟨I.aB,I.aB,λZ=>Y,Sw g,λ(x:-Nat) c=>⟨rfl,λZ=>by calc eH (rJ (lt x c).1 G.1.1.1.1.aB (lt x c).2) λe f h j=>?_;calc {e,f,λZ=>Y,Es g,λ(s:Nat) a=>{rfl,λZ=>{((h s a).2 rfl).1,rfl}},j,rfl}⟩,q⟩
def afo(G:Bt w g)(A:IV w g a b)(S:T9 g aw):Adn.wp (w^^k+12) (G7 xs i g aw ws as sp Ah) (Cp (·=Y)):=
 (adJ G S.1).aq λz e=>bZ (λc=>nomatch D8 e.symm c) λZ=>afn G A S
def afp(G:Bt w g)(A:IV w g a b)(S:T9 g aw):Xw.wp (w^^k+12) (G7 xs i g aw ws as sp Ah) (Cp (·=Y)):=
 (adj (k:=k+4) G).aq λz e=>by have e:z=Y:=e;subst e;calc hg (z:=Ab) br λZ=>(adB (k:=k+8) G).aq λy d=>bZ (z:=y) (λc=>nomatch D8 d.symm c) λZ=>afo G A S
def afq(G:Bt w g)(A:IV w g a b):Aat.wp (w^^k+12) (G7 xs i g aw ws as sp Ah) (Cp (·=Y)):=
 {k+10,rfl,ae7 (w:=w) (g:=g) (k:=k+7) G λa S=>afp G A S}
def rO(G:Bt w g)(lt:Bool)(c:∀s,f s=Y↔Ei g.aa (λy=>lt=Y/\y<g.Ad) s){R:-(Nat×Bool)->Prop}(h:R (GR g f)):∀ag,ag=Dt g->AP (J ag)/\∃(p:Nat->Bool) (e:Nat->Nat×Bool),(∀s∈ag,Y=p s/\(p s=Y->NJ.BZ (w^^k+12) (C5 g,s,lt,[],()) λz=>(s,z)=e s))/\AP ((ag.filter p).map e).length/\R (((ag.filter p).map e).foldl (λd p=>B9 d p.1 p.2) []):=λag Ax=>by
 subst Ax;have E9:AP (Dt g).length:=cY G\∅;calc {E9,λZ=>Y,λs=>(s,f s),λs a=>{rfl,λZ=>(acM G lt ((cA G.1.1.1.1).mp a).2).aq λz j=>LK rfl (cn<|j.trans (c s).symm)},?_,?_};·rw[b8,Bq];exact E9
 ·rw[b8];rw[show(Dt g).map (λs=>(s,f s))=(Dt g).map λx=>(x,f x) from rfl];calc(jt (Dt g) [] eg).symm▸h
def afr(G:Bt w g)(A:IV w g a b):Aau.wp (w^^k+12) (H0 xs i (Fm g) g (C5 g) (E7 g) [] aw ws as sp Ah) (Cp (·=Y)):={dZ G,(rO (k:=k) G Y (f:=BA g) (R:=λd=>Aat.wp (w^^k+12) (H0 xs i (Fm g) g (C5 g) (E7 g) d aw ws as sp Ah) (Cp (·=Y))) (λs=>cF.trans {λh=>h.bY λy c=>{rfl,c},λh=>h.bY λy c=>c.2})<|afq G A) _ df}
def afs(G:Bt w g)(A:IV w g a b):Ado.wp (w^^k+12) (H0 xs i (Fm g) g (C5 g) [] [] aw ws as sp Ah) (Cp (·=Y)):={dZ G,(rO (k:=k) G Ab (f:=N4<|CY g) (R:=λd=>Aau.wp (w^^k+12) (H0 xs i (Fm g) g (C5 g) d [] aw ws as sp Ah) (Cp (·=Y))) (λs=>cF.trans {λh=>h.bY λy c=>c.elim,λh=>h.bY λy c=>nomatch c.1})<|afr G A) _ df}
def aft(G:Bt w g)(A:IV w g a b):Aav.wp (w^^k+12) (H0 xs i (Fm g) g (C5 g) [] [] aw ws as sp Ah) (Cp (·=Y)):=
 (qO G.1.1.1.1).aq λy e=>f5 (e^adD G)<|afs G A
def afu(H:D3 m ds)(c:Bk):Aaw.wp ((H.Ah c).at<|AS<|k+12) (H0 xs (FV ds) (Fm<|Pb m ds) {[],0,[],0,[],[],[],0} [] [] [] Ai [] [] [] []) (Cp (·=Y)):=by
 clear k m xs ds c _ H;have d:AP (FV ds).length:=Di (Bq _)\(H.3\∅);have G:=H.da c;have q:K6.BZ ((H.Ah c).at<|AS<|k+12) (((FV ds).filter λZ=>Y).map id,()) λg=>Ze.BZ ((H.Ah c).at<|AS<|k+12) (Fm<|Pb m ds,()) λf=>Aav.wp ((H.Ah c).at<|AS<|k+12) (H0 xs (FV ds) (Fm<|Pb m ds) g f [] [] Ai [] [] [] []) (Cp (·=Y)):=by
  rw[b8,EW];exact(aeQ H.aeJ).aq λg e=>(acX G).aq λf h=>by rw[e,h];exact aft G<|H.aeO c
 calc {d,d,λZ=>Y,id,λ(p:Nat×↑Nat) j=>{rfl,λZ=>{(H.cE j).2.1\∅,rfl}},q}
def afv(H:D3 m ds)(c:Bk):UI.wp ((H.Ah c).at<|AS<|k+12) (H0 xs (FV ds) [] {[],0,[],0,[],[],[],0} [] [] [] Ai [] [] [] []) (Cp (·=Y)):=by
 clear k m xs ds c _ H;have G:=H.da c;have e:[(Ew ds,[Ew ds+1,0])]++FV ds=Fm (Pb m ds):=by show _=(Ew ds,[Ew ds+1,0])::Hs (λr:Bp=>(r.l,r.r)) (Hs _<|FV ds);rw[Fy];exact ah _ (EW _).symm
 have q:Aaw.wp ((H.Ah c).at<|AS<|k+12) (H0 xs (FV ds) ([(Ew ds,[Ew ds+1,0])]++FV ds) {[],0,[],0,[],[],[],0} [] [] [] Ai [] [] [] []) (Cp (·=Y)):=by rw[e];exact afu H c
 calc {Ew ds,G.8,Ew ds+1,G.9,0,G.7,{show 1<=1000000 by decide,(Di (Bq _)\(H.3\∅))},q}
end
end
noncomputable section
def L2:-Str:=(Cg 6).map B4
def gd:L2.Nodup/\(∀x∈L2,x.cps.size<20)/\(∀x∈L2,PyData.strOk x=Y)/\∀i,i<6->Hp L2 i=B4 i:=by decide+kernel
abbrev Nu(Aa:C0)(DD:Nat->As):Bk:={Hp L2,ry gd.1 gd.2.1,rz gd.2.2.1,Aa,DD,AS 12}
abbrev Ra:AK:={[],0,[],0,[],[],[],0}
abbrev Aig:BC Cm Aj .A:=Bi 2<|Bs Zi (v 1) Be
def afw(H:D3 m ds)(l:Bv):(⇑(A0 Ac<|Ar Ac)).AH (Hp L2) l ds=(⇑(A0 Ac<|Ar Ac)).AH (Ql m ds) l (FV ds):=by
 have aw:=λs a d=>gd.2.2.2 s (Cw a<|Du H.2.2 2)^(H.b7 a d).symm;show T.Bo l.b (ds.map _)=T.Bo l.b ((ds.map<|U2<|DA ds).map _);rw[Fy];calc ah (T.Bo l.b)<|FI λp a=>?_;have Ag:=H.1.1 p a;have A3:(p.2.map λx=>T.aZ<|Hp L2 x)=(p.2.map<|E9<|DA ds).map λx=>T.aZ (Ql m ds x):=by rw[Fy];exact FI λs b=>ah T.aZ<|aw s (H.1.2 p a s b) λc=>jC a c b
 show T.aT [T.aZ<|Hp L2 p.1,T.aT<|p.2.map λx=>T.aZ<|Hp L2 x]=T.aT [T.aZ<|Ql m ds<|E9 (DA ds) p.1,T.aT<|(p.2.map<|E9<|DA ds).map λx=>T.aZ<|Ql m ds x];rw[(aw _ Ag.2 λc=>ar Ag.1<|X5.mpr c),A3]
def afx{Am:B5}(H:D3 m ds)(R:Cc (Hp L2) Cm [U .F,U .F,U .A] (H0 xs ds [] Ra [] [] [] Ai [] [] [] []) Am):Cc (Ql m ds) Cm [U .F,U .F,U .A] (H0 xs (FV ds) [] Ra [] [] [] Ai [] [] [] []) Am:=by clear m ds xs Am _ H R;obtain⟨a,Aih,b,c,d,e,AW,Ag,f,DZ,A3,g,h⟩:=R;calc {a,Aih,b,c,d,e,AW,Ag,f,DZ,A3,λl i=>g l i^ah U (afw H l),Cc.none h.bj}
def AdM(xs:-Int)(n:Nat)(c:Int):Ao Zn:=(xs,n,c,())
def afy{w:Bk}{k:Nat}(h:AP (J xs)):Uw.BZ (w^^k+1) (xs,()) (λa=>∃n,a=[n,0]):=by
 calc aY aa4 ?_;show Adc.wp _ (AdM xs 11 0) _;refine dD (t:=EZ) (xs:=Fh xs Ai<|U 63) (λn=>AdM xs n 0) (λZ Z=>True) (λZ q=>{h,(List.length_take_le _ _\∅),q}) rfl trivial (λx l n AV Z a=>?_) λn Z=>{n,rfl}
 have b:(decide (Builtin.Int.intBits ((2:Nat):Int)<=64)||decide (Builtin.Int.intBits ((x.natAbs:Nat):Int)<=64))=Y:=ej<|.inl ∅;calc {(ej<|.inr ∅),b,a _ trivial}
end
section
section
variable{w:Bk}
def afz(H:BM z e λt Z=>∃y,t=.aZ y/\y.length<=1000)(Ag:a.length<=1000)(i:j.length<=1000):∀s,AY z s->Ec z (D4 (.BinOp (.BinOp (.Constant (.str a) Ls MA) .Add e L1) .Add (.Constant (.str j) NB RR) o) z.env) (λZ a=>CJ z s a) s:=λs R=>by
 have K:∀{s:AM} {n:Nat},IA z s {s with toks:=n}:=.b5 bu;have c:∀n,n<=3000->n<=H5:=λn h=>h\(by rw[Qt];decide);calc sF<|sF<|j0 ?_;have Cz:=R.bp<|K (s:=s) (n:=s.toks+1);calc H.aG Cz.2 λv s1 t AJ q b d=>ae q λy l f=>?_;rw[l] at d;obtain⟨⟨tk,rfl⟩,_⟩:=d.aZ;calc PyProof.Rows.add_str (λt' g=>?_)<|c _<|EL Ag f\∅;refine j0<|PyProof.Rows.add_str (λFN m=>?_)<|c _ ?_
 ·exact Cz.aH<|b.aH<|(b.2.bp<|K (n:=g)).aH<|(b.2.bp<|K (n:=g)).2.bp<|K (n:=m)
 ·rw[show(a++y).length=a.length+y.length from Array.size_append ..];calc EL (EL Ag f) i\∅
end
def ZI(s:C8):A2×Pos×Pos×Pos:=(Ap (Bh s 0) 1,(Ap (Bh s 0) 0).pos,(Bh s 0).pos,E5 s)
def Nv(i:Nat):C8:=(B6 21 0).Eg.getD i<|.Pass default
def ZL:BC QU (BU A1) .F:=Bi 1<|Bs Zb (v 0) Be
def AaH:GH QU:=DO<|CI<|A6 (BR Aj) (v 1)<|n 0
def XQ:Bx QU Ac:=A6 (BR Ac) (Bw FZ<|v 0)<|Bw Ua<|v 0
def AdN:C8:=IP<|LC<|Nv 1
def Sx:A2:=(ZI AdN).1
abbrev r0(S:C8)(a:A2):C8:=.Raise (U<|.Call (.Name "GrammarError" (ZI S).2.1) [a] [] (ZI S).2.2.1) Ai (ZI S).2.2.2
def afA:(B6 21 0).Eg=Nv 0::.If (AaH.An<|Bh (Nv 1) 0) [r0 AdN<|.BinOp (.BinOp (.Constant (.str "the start symbol ") (GG<|Ap (Ap Sx 0) 0) (Ap (Ap Sx 0) 0).pos) .Add (XQ.An<|Ap (Ap Sx 0) 1) (Ap Sx 0).pos) .Add (.Constant (.str " has no word") (GG<|Ap Sx 1) (Ap Sx 1).pos) Sx.pos] [] (E5<|Nv 1)::UC.An [Nv 2,Nv 3]:=Sort
def afB:ZL.An (Nv 0)=Nv 0:=Sort
def AaI(C:Ea)(s1:BC V Bd BO)(c:GH V)(b:Au V Bd BO)(a:Br)(Cz d:C8)(l:-C8):Bool:=(s1.AI C Cz&&(c.AI C (Bh d 0)&&b.AI C l))&&((s1.AB [] a).elim Ab λo=>o.elim Y λa=>c.AB a&&(b.AB [] a).elim Ab (·.isNone))
def r1(bt:NX w.Aa w.DD){b:Au (as++ls) Bd BO}{U3:Ao (as++ls)->Prop}{BI:As}(j:(B6 i 0).E3=[])(m:J as=(B6 i 0).FR.length/\(B6 i 0).NM.length=J ls)(u:(B6 i 0).Eg=Cz::.If (c.An<|Bh p 0) body [] (E5 p)::b.An l)(y:s1.An Cz=Cz)(A:AaI (B6 i 0).C s1 c b (CV (J as)<|U .F) Cz p l=Y)(s:Ub Bd BO r=Y)
  (H:s1.wp w (Ao.DL as Ae<|Ao.C2 ls) {λa=>c.wp w a λx=>if x=Y then U3 a else b.wp w a (Cp Q),λZ=>False,λZ=>False,Q})(B:∀st Af z,In w (as++ls) st Af z->z.V.C=(B6 i 0).C->s1.AB [] (CV (J as)<|U .F)=U (U st)->U3 Af->Jy z BI (DJ body)/\P):QR w.Aa w.d (B6 i a) BI (Lc w.AA as Ae) (Gh<|DP w Bd r Q) P:=⟨
 (by
  rw[j,g0];calc m.1),
 (λz AW A3 DU D=>by
  have f:In w (as++ls) (CV (J as)<|U .F) (Ao.DL as Ae<|Ao.C2 ls) z:=⟨{AW,DU,bt},by
   rw[D];show Cc _ _ _ _ ((Lc w.AA as Ae++(B6 i 0).E3).map U++CV (B6 i 0).NM.length Wl);rw[j,m.2,Ct];calc Cc.Gg⟩
  have g:z.V.C=(B6 i 0).C:=A3;calc aC (aD A) λh a3=>aC (aD h) λh cp=>aC (aD cp) λcp dm=>c9 a3 λo t a3=>?_;show Jz z BI (DJ (B6 i 0).Eg) _ _;rw[u] at⊢;calc yB (y▸(s1.AX (L:=[]) f _ (g▸h) t H).aq λFt Am rs=>by
   cases rs with
   |LA _ q=>calc q.elim|Ft _ q=>calc q.elim|bW q=>calc iW s q|av e R q=>
    subst e;calcλI=>aC (aD a3) λE G=>(c.AX (f.ax R) _ (g▸cp) E q).oR λx q=>?_;cases x with
    |true=>calc B _ _ _ (f.ax R) g t q|false=>
     calc Dj.aq (b.AX (L:=[]) (f.ax R) _ (g▸dm) (o3 G) q) λFt Am rs=>?_;cases rs with
     |av e=>delta e|LA _ q=>calc q.elim|Ft _ q=>calc q.elim|bW q=>calc iW s q))⟩
def jM:AaI (B6 21 0).C ZL AaH UC [U .F] (Nv 0) (Nv 1) [Nv 2,Nv 3]=Y/\XQ.AI (B6 21 0).C (Ap (Ap Sx 0) 1)=Y/\KZ (B6 21 0).C "GrammarError"=Y:={Sort,Sort,Sort}
def afC:((ZL.AB [] [U .F]).elim Y λo=>o.elim Y λa=>(XQ.AB a).isSome)=Y:=Sort
def Qm(i:Nat):C8:=(B6 35 0).Eg.getD i<|.Pass default
def AaL:BC Zp (BU<|A0 Aj EF) .F:=Bi 2<|Bs TR (v 0) Be
def AaM:GH Zp:=Bg (Fu<|CZ<|DU D0 D0<|CZ D0) (Bs TS (v 2) Be)<|C4<|DN O O ⇑O
def AdP:C8:=IP<|LC<|Qm 1
def AdQ:A2:=(ZI AdP).1
def afD:(B6 35 0).Eg=Qm 0::.If (AaM.An<|Bh (Qm 1) 0) [r0 AdP<|.Constant (.str "the grammar is not LL(1)") (GG AdQ) AdQ.pos] [] (E5<|Qm 1)::UE.An [Qm 2]:=Sort
def afE:AaL.An (Qm 0)=Qm 0:=Sort
def r2:AaI (B6 35 0).C AaL AaM UE [U .F,U .F] (Qm 0) (Qm 1) [Qm 2]=Y/\KZ (B6 35 0).C "GrammarError"=Y:={Sort,Sort}
section
variable{BI:As}
def afF(bt:NX w.Aa w.DD)(G:QQ w.Aa BI Hi cd F)(f:nsIn w.Aa.K Ed ("GrammarError":Str)=U (U<|.ref BI)){Q:↥AK->Prop}(H:UD.wp w (Ao.DL [A1] (g,())<|Ao.C2 [⇑Aj,⇑Aj]) (Cp Q)):QR w.Aa w.d (B6 21<|w.DD 21) BI [A1.AH w.AA .F g] (Gh<|DP w (BU A1) (.aM,.F) Q) (Gh (DP w (BU A1) (.aM,.F) Q) .none):=
 r1 bt (as:=[A1]) (ls:=[⇑Aj,⇑Aj]) (i:=21) (s1:=ZL) (c:=AaH) (b:=UC) (Ae:=(g,())) (U3:=λa=>XQ.wp w a λi=>(w.AA i).length<=1000/\Q Ai) rfl {rfl,rfl} afA afB jM.1 rfl H λst Af z a e h q=>by
  have DW:=afC;rw[show ZL.AB [] [U .F]=U (U st) from h] at DW;refine bC (show(XQ.AB st).isSome=Y from DW) λr j=>{oe a.1.ok (a.1.1▸G) (gV<|e▸jM.2.2).1 (a.1.1▸f) rfl (afz ((XQ.AX a _ (e▸jM.2.1) j q).em λi q=>{w.AA i,rfl,q.1}) ∅ ∅),?_}
  calc .Gz<|.mk (Bc:=BU A1) q.2.2
def afG(bt:NX w.Aa w.DD)(G:QQ w.Aa BI Hi cd F)(e:nsIn w.Aa.K Ed ("GrammarError":Str)=U (U<|.ref BI))(H:Zr.wp w (Ao.DL [A1,⇑O] (g,y,())<|Ao.C2 [AQ (Ds AZ AZ) ⇑O]) (Cp Q)):QR w.Aa w.d (B6 35<|w.DD 35) BI [A1.AH w.AA .F g,(⇑O).AH w.AA .F y] (Gh<|DP w (BU<|A0 Aj EF) (.aM,.F) Q) (Gh (DP w (BU<|A0 Aj EF) (.aM,.F) Q) .none):=
 r1 bt (as:=[A1,⇑O]) (ls:=[AQ (Ds AZ AZ) ⇑O]) (i:=35) (s1:=AaL) (c:=AaM) (b:=UE) (Ae:=(g,y,())) (U3:=λZ=>Q Ai) rfl {rfl,rfl} afD afE r2.1 rfl H λb c z a f h q=>{oe a.1.ok (a.1.1▸G) (gV<|f▸r2.2).1 (a.1.1▸e) rfl (λs R=>j0<|R.bp<|.b5 bu),.Gz<|.mk (Bc:=BU<|A0 Aj EF) q}
end
end
noncomputable section
def CU(i:Nat):C8:=(B6 62 0).Eg.getD i<|.Pass default
abbrev H2:Ea:=(B6 62 0).C
def XR(b:Au Cm Aj .A):Au Cm Aj .A:=(sq (Bi 3<|BJ (F5<|A0 Ac<|Ar Ac) (Bo<|Ag<|ED (B3 "$accept")<|Gl<|A4 (B3 "S")<|Ag<|B3 "$end")<|v 2)<|sq (PR 4 5 (Abx (Bs K6 (CQ (V:=Cm) [Ac,(Ar Ac)] (Ih 13 14) (CP<|v 2) D7<|ED (v 13)<|Cd (Y8 Ac)<|v 14).x Be)<|Bs Ze (v 3) Be)<|NU Ab _)<|sq (B8 (Bg (Fu<|CZ<|JE Ck<|F4 Ck) (Bs Zh (v 4) Be)<|v 3) (sq (BS<|B7 Ab) af) af)<|sq (Bi 6<|Cd (Dh A7 Aj) (CQ (V:=Cm) [Ac] (BF 13) (MG (K:=A7) (t:=⇑(A0 O<|Ar Ac))<|v 5) D7<|ED (v 13)<|Bs NJ (v 5)<|Bb (v 13)<|Bb (B7 Ab)<|Bb (PN Ac) Be).x)<|sq (Bi 7<|Cd (Dh A7 Aj) (CQ (V:=Cm) [Ac] (BF 13) (MG (K:=A7)<|v 5) D7<|ED (v 13)<|Bs NJ (v 5)<|Bb (v 13)<|Bb (B7 Y)<|Bb (PN Ac) Be).x)<|CT 6<|CT 7 b)
def XS(b:Au Cm Aj .A):Au Cm Aj .A:=(sq (B8 (DI<|CG .Or (DO<|CI<|Bs Uq (v 4)<|Bb (v 3)<|Bb (v 5)<|Bb (v 6) Be)<|Cf .Or<|DO<|CI<|Bs Ur (v 4)<|Bb (v 5)<|Bb (v 6) Be) (sq (BS<|B7 Ab) af) af)<|sq (B8 (DO<|CI<|Bs Us (v 4)<|Bb (v 3)<|Bb (v 5)<|Bb (v 7)<|Bb (v 8) Be) (sq (BS<|B7 Ab) af) af)<|sq (PQ 9<|CQ [(Ar O)] (BF 13) (CP<|Bs Xl (v 4)<|Bb (n 2) Be) D7<|Cd (PS Ac) (CQ [O] (BF 14) (Fj<|v 13) D7<|A6 (BR Ac) (Bw FZ<|v 4)<|v 14).x)<|sq (B8 (DI<|CG .And (TG (λZ Z Z=>rfl)<|v 8)<|Cf .And<|Bg (Fu<|CZ<|F4 Ck) (v 9) (CQ [(Ar O)] (BF 13) (CP<|Bs Xl (EE (IT A1)<|v 8)<|Bb (n 2) Be) D7<|Cd (PS Ac) (CQ [O] (BF 14) (Fj<|v 13) D7<|A6 (BR Ac) (Bw FZ<|EE (IT A1)<|v 8)<|v 14).x).x) (sq (BS<|B7 Ab) af) af)<|sq (Bi 10<|Bo<|A4 (PN Ac)<|A4 (Gl<|Ag<|B3 "a")<|A4 (Gl<|Ag<|B3 "b")<|A4 (Gl<|A4 (B3 "a")<|Ag<|B3 "a")<|A4 (Gl<|A4 (B3 "a")<|Ag<|B3 "b")<|A4 (Gl<|A4 (B3 "b")<|Ag<|B3 "a")<|Ag<|Gl<|A4 (B3 "b")<|Ag<|B3 "b")<|sq (B8 (Bg (Fu<|CZ<|F4 Ck) (CQ [(Ar Ac)] (BF 13) (CP<|v 9) (G0<|Bg (Gk (GI<|F4 Ck) rfl) (v 13)<|v 10)<|v 13).x<|C4<|Ar Ac) (sq (BS<|B7 Ab) af) af)<|sq (Bi 11<|Cd (Dh (C3 DE)<|AQ (CH DE AZ AZ) Aj) (Y1 [(Ar Ac)] (BF 13) (CP<|v 10)<|ED (v 13)<|Bs Ut (v 5)<|Bb (v 13) Be).x)<|CT 10<|sq UG<|sq (B8 (DO<|CI<|Bs Uu (v 4)<|Bb (v 5)<|Bb (v 7)<|Bb (v 9)<|Bb (v 11) Be) (sq (BS<|B7 Ab) af) af) b)
def LJ:BC Cm Aj .A:=Bi 8<|Oe UD (.aM,.F)<|Bb (v 4) Be
def ZM:GH Cm:=DO<|CI<|Bs Zc (v 4) Be
abbrev U4:-Az:=[⇑EZ,⇑O,ER,ER,ER,ER,ER,ER,ER,ER,ER,ER,ER]
abbrev XT:Bx U4 ⇑O:=Bs Uw (v 0) Be
abbrev ZN:Au Cm Aj .A:=sq Aig af
def afH:ZN.AB [] [U .F,U .F]=U (U [U .F,U .F,U .A]):=Sort
abbrev Sy:-C8:=[CU 2,CU 3,CU 4,CU 5,CU 6]
abbrev Qn:-C8:=[CU 8,CU 9,CU 10,CU 11,CU 12,CU 13,CU 14,CU 15,CU 16]
abbrev Pd:-C8:=[CU 18,CU 19]
def afI:(B6 62 0).Eg=CU 0::CU 1::(Sy++(CU 7::(Qn++(CU 17::Pd)))):=Sort
def gf:Stmt.Assign [.Name (CN<|Bh (CU 0) 1) (Bh (CU 0) 1).pos] (XT.An<|Bh (CU 0) 0) (E5<|CU 0)=CU 0/\ZN.An [CU 1]=[CU 1]/\(XR af).An Sy=Sy/\(XS af).An Qn=Qn/\Xv.An Pd=Pd:={Sort,Sort,Sort,Sort,Sort}
def fc:(HA H2 1 (CN<|Bh (CU 0) 1)&&XT.AI H2 (Bh (CU 0) 0))=Y/\ZN.AI H2 [CU 1]=Y/\(XR af).AI H2 Sy=Y/\(XS af).AI H2 Qn=Y/\Xv.AI H2 Pd=Y/\ZM.AI H2 (Bh (CU 17) 0)=Y:={Sort,Sort,Sort,Sort,Sort,Sort}
def AaN(o:↥↥Br):Br:=(o.bind id).getD []
def Sz:Br:=AaN<|(XR af).AB [] [U .F,U .F,U .A]
def Wa:Br:=AaN<|LJ.AB [] Sz
def XW:Br:=AaN<|(XS af).AB [] Wa
def ei:XT.AB [U .F]=U (.AU,.A)/\(XR af).AB [] [U .F,U .F,U .A]=U (U Sz)/\LJ.AB [] Sz=U (U Wa)/\(XS af).AB [] Wa=U (U XW)/\ZM.AB XW=Y/\Xv.AB [] XW=U Ai/\(Sz.at 4).isSome=Y/\(XW.at 4).isSome=Y:={Sort,Sort,Sort,Sort,Sort,Sort,Sort,Sort}
def HG(e:A2):Dz×Pos×A2:=if h:e.ctorIdx=4 then Expr.Lambda.elim e h λZ b S p=>(S,p,b) else({.function,[],Ab,Ab,[]},default,e)
def AaP(a:Str)(AE:-A2)(e:A2):A2:=.Call (.Name "_law_or_none" (Ap e 0).pos) [.Lambda {[],[],Ai,[],[],Ai,[]} (.Call (.Name a (Ap (HG<|Ap e 1).2.2 0).pos) AE [] (HG<|Ap e 1).2.2.pos) (HG<|Ap e 1).1 (HG<|Ap e 1).2.1] [] e.pos
abbrev NQ:A2:=Bh (CU 7) 0
abbrev U5:A2:=Ap (Bh (IP<|LC<|CU 17) 0) 0
abbrev r3:Dz:=(HG<|Ap NQ 1).1
abbrev r4:Dz:=(HG<|Ap U5 1).1
abbrev jN:NK [A1] [A1]:=Bb (v 0) Be
abbrev jP:NK [A1] [A1,⇑O]:=Bb (v 0)<|Bb (C4 O) Be
abbrev r5:-A2:=(Dg (HG<|Ap NQ 1).2.2).tail
abbrev r6:-A2:=(Dg (HG<|Ap U5 1).2.2).tail
def afL:CU 7=.Assign [.Name "small" (Bh (CU 7) 1).pos] (AaP "reduced" (jN.An r5) NQ) (E5<|CU 7):=Sort
def afM:CU 17=.If (ZM.An<|Bh (CU 17) 0) [.Return (U<|.Compare (AaP "leftmost" (jP.An r6) U5) [.Is] [.Constant .none (GG<|Ap (Bh (IP<|LC<|CU 17) 0) 1) (Ap (Bh (IP<|LC<|CU 17) 0) 1).pos] (Bh (IP<|LC<|CU 17) 0).pos)<|E5<|IP<|LC<|CU 17] [] (E5<|CU 17):=Sort
def r7:jN.AI (QS r3) r5=Y/\jP.AI (QS r4) r6=Y:={Sort,Sort}
def U6(S:Dz)(a:Str):Bool:=decide (S.kind=.function/\S.isCoroutine=Ab/\S.isGenerator=Ab/\(∀x∈S.names,x.2≠.cell)/\S.names.lookup ("grammar":Str)=U .free/\S.names.lookup a=U .globalImplicit/\∀p∈S.names,p.2=.free->p.1=("grammar":Str))
def r8:U6 r3 "reduced"=Y/\U6 r4 "leftmost"=Y:={Sort,Sort}
def afN(h:U6 S i=Y):W4 S i/\∀p∈S.names,p.2=.free->p.1=("grammar":Str):=let⟨a,b,c,d,e,f,g⟩:=aL h;{{a,b,c,d,e,f},g}
def hH:H2.BN.names.lookup ("_law_or_none":Str)=U .globalImplicit/\H2.BN.names.lookup ("grammar":Str)=U .cell/\HA H2 8 "small"=Y/\H2.Aq[4]?=U (U ("grammar":Str)):={Sort,Sort,Sort,Sort}
def afP:(((HG<|Ap NQ 1).2.1.line:Int)==((HG<|Ap U5 1).2.1.line:Int))=Ab:=Sort
def afQ(h:UI.wp w Af (Cp Q)):(XR af).wp w Af {λa=>LJ.wp w a {λa=>Xw.wp w a<|Cp Q,λZ=>False,λZ=>False,Q},λZ=>False,λZ=>False,Q}:=h
def afR(h:Xw.wp w Af (Cp Q)):(XS af).wp w Af {λa=>Zs.wp w a<|Cp Q,λZ=>False,λZ=>False,Q}:=h
end
noncomputable section
def Wb(Cz:AM)(P:As)(AN:Array Aw)(s:AM):Prop:=Em
 (s={Cz with heap:=s.heap,toks:=s.toks})
 (s.heap.get? P=U (Qp AN))
def Aii(Cx:BX)(Cz:AM)(P:As)(s:AM):Prop:=(∃AN,Wb Cz P AN s)/\∀b o,Cx.get? b=U o->s.heap.get? b=U o
def Nw(z:A5)(Cz:AM)(P:As)(p:Array Aw->Prop)(run:PySem.Env->Sem Flow):Prop:=∀s,AY z s->∀AN,Wb Cz P AN s->p AN->Ec z (run z.env) (λa b=>a=.ret (.bool Y)/\Aii z.Aa.Cx Cz P b) s
def r9:∀A:-C8,DJ (A++B) env=DJ A env>>=λf=>match f with|.next=>DJ B env|f=>pure f
 |[]=>(pure_bind _ _).symm|st::A=>by
  calc ?_^(bind_assoc _ _ _).symm;calc ah (Gx st env>>=·)<|funext λf=>?_;cases f with
  |next=>calc r9 A|_=>calc(pure_bind _ _).symm
section
variable{w:Bk}{z:A5}{Cz s s':AM}{P c:As}{p:Array Aw->Prop}{a:Array Aw}{st:Br}{Af:Ao Cm}{l rest:-C8}
def Wb.ag(b:L3 z.V P c)(R:AY z s)(L:Wb Cz P a s)(K:Ez z s s'):Wb Cz P a s':=
 {by rw[K.1,L.1],K.2 P _ L.2 (λw=>w.elim b.6 λw=>w.elim b.7 λw=>(R.4 P w).2 b.5) aS}
def hI{b:Au Cm Aj .A}(H:In w Cm st Af z)(h:L3 z.V P c)(hs:b.AI z.V.C l=Y)(i:b.An l=l)(A4:b.AB [] st=U o)(q:b.wp w Af {N,λZ=>False,λZ=>False,(·=Y)})(j:∀m t Am d,o=U m->In w Cm m t (z.ax Am d)->N t->Nw (z.ax Am d) Cz P p (DJ rest)):Nw z Cz P p (DJ<|l++rest):=by
 clear w z Cz P c p _ st Af l rest o N _ b H h hs i A4 q j;exactλs R a L u=>by
  have S:=b.AX H l hs A4 q;rw[i] at S;rw[r9] at⊢;calc AL<|CW (S s R) (λBf s1 x=>IC.rec (λFt Am d r o=>?_) x) bu;have f:=o.4;cases (r)with
  |av e B q=>
   rw[show Bf=.next from f] at⊢;calc j _ _ Am d e (H.ax B) q s1 o.1 a (L.ag h R o.3) u
  |LA _ q=>calc q.elim|Ft _ q=>calc q.elim|@bW y _ q=>
   cases q;calc ae f λv e y=>ak y λg y=>e▸Bn {ah Flow.ret y.1.1,{a,L.ag h R o.3},o.1.1}
end
def Wc(w:Bk)(Hj GC:Er)(BI Hi:As)(cd:WE):Prop:=Mo
 (QQ w.Aa BI Hi cd GC)
 (nsIn w.Aa.K Ed ("GrammarError":Str)=U (U<|.ref BI))
 (YT w.Aa Hj)
 ((("_law_or_none":Str),.ref Hj.FQ)∈w.Aa.G)
 (Pe w.Aa.K (.ref Hj.FQ)=Y)
section
variable{w:Bk}{z:A5}{Cz s s':AM}{P c:As}{f:Array Aw}{st:Br}{Af:Ao Cm}{j GC:Er}{BI g:As}{m:WE}{k:Nat}
def sa{args:NK [A1] FX}(H:In w Cm st Af z)(h:z.V.C=H2)(x:(st.at 4).isSome=Y)(L:Wc w j GC BI g m)(y:L3 z.V P c)(B:w.d=AS k+4)(D:U6 (HG<|Ap e 1).1 b=Y)(G:QW Pa=U (b,Ab))(t:Pa<62/\3<Pa)(I:(b==("__debug__":Str))=Ab)(M:args.AI (QS (HG<|Ap e 1).1) (Dg (HG<|Ap e 1).2.2).tail=Y)(N:args.AB [U .F]=Y)(r:args.An (Dg (HG<|Ap e 1).2.2).tail=AW::AE)
  (S:args.wp (w.at<|AS k+1) ((Ao.Cq Cm 4 Af,()):AK×Unit) λa=>QR w.Aa (AS k) (B6 Pa<|w.DD Pa) BI (Lc w.AA FX a) (Gh Q)<|Gh Q .none)(R:AY z s)(W:Abh s.heap P f)(X:codeAmong (HG<|Ap e 1).2.1 f.toList=Ai)
  (W7:∀s1 YL v s',s1={s with heap:=s1.heap,toks:=s1.toks}->(∀a o,a≠P->s.heap.get? a=U o->s1.heap.get? a=U o)->s1.heap.get? P=U (Qp<|f++#[It (HG<|Ap e 1).2.1.line,It (HG<|Ap e 1).2.1.col,.ref YL])->AY z s1->LU z s1 Q v s'->JC v s'):
  Ba (Dw z) z.V.A (D4 (AaP b (args.An (Dg (HG<|Ap e 1).2.2).tail) e) z.env) JC E s:=bC x λl HT=>by
 have RY:I5 (AW::AE)=Y:=r▸args.Xd _;have AI:=afN D;have Aij:=H.1.3.5 Pa t.1<|.inr t.2;have u:=H.1.3.3 Pa b G;rw[r] at⊢;calc y2 H.1.ok (H.1.1▸L.1) (H.1.1▸L.3) (H.1.1▸L.2) (H.1.1▸Aij) {AI.1,AI.2,h▸hH.1,H.1.1▸L.4,H.1.1▸L.5,H.1.1▸u.2,H.1.1▸u.1,I,h▸hH.2.2.2,h▸hH.2.1} y (H.1.2^B) RY (λAik f1 f2 Ail f4=>?_) (cz<|H.2.b6 (i:=4) ∅ HT) R W X W7;have Aim:In (w.at<|AS k+1) [A1] [U .F] ((Ao.Cq Cm 4 Af,()):AK×Unit) Aik:={{f1^H.1.1,Ail,H.1.3},f4▸{_,_,rfl,λa e=>by delta e;calc ah U<|A1.Dx w.AA l<|Ao.Cq Cm 4 Af,rfl}}
 calc r▸(args.AX Aim _ (f2▸M) N S).aq λa p=>p.rec λq=>H.1.1▸q
abbrev ZP(f:Array Aw):Prop:=f=#[]
def AaQ(f:Array Aw):Prop:=∃a:As,f=#[It (HG<|Ap NQ 1).2.1.line,It (HG<|Ap NQ 1).2.1.col,.ref a]
def eZ{N:Ao Cm->Prop}{rest:-C8}(H:In w Cm Sz Af z)(d:z.V.C=H2)(L:Wc w j GC BI g m)(p:L3 z.V P c)(q:LJ.wp w Af {N,λZ=>False,λZ=>False,(·=Y)})(E:∀G Am I,In w Cm Wa G (z.ax Am I)->N G->Nw (z.ax Am I) Cz P AaQ (DJ rest)):Nw z Cz P ZP (DJ (CU 7::rest)):=by
 clear w z Cz P c Af j _ GC BI g m N rest _ H d L p q E;exact ae q λk X q=>λs R f hs A=>aV (show Option.bind (if(Bb (v 4) Be:NK Cm [A1]).AB Sz=Y then U ((.aM,.F):By×Bv) else Ai) (λr=>(Fd (BU A1) Sz r).map λq=>U<|q.1.C7 8<|U q.2)=U (U Wa) from ei.2.2.1) λr B c=>bT c λu nq e=>by
  have A:f=#[]:=A;subst A;have B:=(bf B).2;subst B;rw[afL] at⊢;calc Nz<|Vi (sa (Pa:=21) (k:=k) (args:=jN) (Q:=DP (w^^k) (BU A1) (.aM,.F) λx=>N<|Ao.BG Cm 8 x Af) H d ei.2.2.2.2.2.2.1 L p X r8.1 rfl ∅ rfl r7.1 rfl rfl (afF (w:=w.at<|AS k) H.1.3 L.1 L.2 q) R {hs.2,trivial} rfl λs1 YL v s' a b t M y=>?_)<|dk rfl _ _ _;calc y.rec λt1 AJ D S y=>?_;cases D with
  |@mk x D=>
   calc ae (fN (x:=x) nq H.2) λAkx CB Ain=>hO (P:=λW a=>W=.aX/\Cc w.AA Cm Wa (Ao.BG Cm 8 x Af) a) (ck<|d▸hH.2.2.1) M S CB y {rfl,(BQ e).symm▸Ain.BG (i:=8) ∅ λl e=>by delta e;rfl} λs2 Jr=>IC.rec (λW Am JO h o=>?_) Jr;have Aio:Wb Cz P _ s1:={a^(by rw[hs.1]),t}
   calc E _ Am JO (H.ax h.2) D s2 o.1 _ (Aio.ag p M o.3) {YL,rfl}
def afS(H:In w Cm XW Af z)(l:z.V.C=H2)(L:Wc w j GC BI g m)(i:L3 z.V P c)(q:Zs.wp w Af (Cp (·=Y))):Nw z Cz P AaQ (DJ (CU 17::Pd)):=by
 clear w z Cz P c Af _ j GC BI g m _ H l L i q;exactλs R f hs o=>by
  have q:ZM.wp w Af λx=>if x=Y then(∃k,w.d=AS k+4/\Zr.wp (w^^k) (Ao.DL [A1,⇑O] (Ao.Cq Cm 4 Af,[],())<|Ao.C2 [AQ (Ds AZ AZ) ⇑O]) (Cp λr=>r.isNone=Y)) else Xv.wp w Af (Cp (·=Y)):=q;rw[afM] at⊢;calc Nz<|wpAny_If<|(ZM.AX H _ (l▸fc.2.2.2.2.2) ei.2.2.2.2.1 q).2.aG R λx s1 q S=>?_;have u:=hs.ag i R<|R.cg S.1;cases x with
  |false=>
   have K:=hI (Cz:=Cz) (rest:=[]) (p:=λZ=>True) H i (l▸fc.2.2.2.2.1) gf.2.2.2.2 ei.2.2.2.2.2.1 q λI M a N e Z h=>h.elim;rw[Ct] at K;calc ZZ<|K s1 S.2 f u trivial
  |true=>
   calc ak o λW o=>ae q λk E q=>?_;subst o;refine Nz<|Vj<|sH<|sa (Pa:=35) (k:=k) (args:=jP) (Q:=DP (w^^k) (BU<|A0 Aj EF) (.aM,.F) λr=>r.isNone=Y) H l ei.2.2.2.2.2.2.2 L i E r8.2 rfl ∅ rfl r7.2 rfl rfl (afG (w:=w.at<|AS k) H.1.3 L.1 L.2 q) S.2 {u.2,trivial} ?_ λs2 X v s' a b t B y=>Va<|is_none ?_
   ·show(if(_&&_)=Y then _ else _)=_;rw[afP] at⊢;rfl
   ·calc y.rec λt1 AJ A D y=>?_;cases A with
    |@mk x A=>
     have G:Wb Cz P _ s2:={a^(by rw[u.1]),t}
     cases x with
     |some _=>delta A|none=>
      rw[hK y] at⊢;calc {rfl,{_,G.ag i B<|B.cg D.1},D.2.1}
end
end
section
def C0.NR(Aa:C0)(x:As):C0:={Aa with P:=x,W:=(·=x)}
abbrev Rb(xs:-Int):-T:=xs.map .au
def sb:∀xs:-Int,GZ (Rb xs)=Y
 |[]=>rfl|_::xs=>sb xs
section
variable{z:A5}{s:AM}{m c:Nat}{xs:-Int}{n:Nat}
def sd:∀(xs:-Int) {Ae:-Aw} {f:-As},Bl Aa M h (xs.map T.au) Ae f->Bl (Aa.NR x) M h (xs.map T.au) Ae f
 |[],_,_,y=>y|_::xs,_,_,⟨c,e,y,Al⟩=>{c,e,y,sd xs Al}
def afT{v:Aw}(y:A9 Aa M h (.Bo o<|xs.map T.au) v f):A9 (Aa.NR x) M h (.Bo o<|xs.map T.au) v f:=
 a6 y λn a b c d=>{n,a,b,sd xs c,d}
def jQ:∀(n:Nat) {Ae:-Aw} {f:-As},Bl Aa M h (Fq<|CV n Ai) Ae f->Bl (Aa.NR x) M h (Fq<|CV n Ai) Ae f/\f=[]
 |0,_,_,y=>{y,y.2}
 |n+1,_,_,⟨c,e,y,Al⟩=>let q:=jQ n Al;{{c,e,y,q.1},by rw[e.2,q.2,y.2];rfl}
def AaR(V:DS)(x:As)(b:¬V.X x)(d:V.Aa.Cx.get? x=Ai):DS where
 Aa:=V.Aa.NR x
 C:=V.C
 k:=V.k
 A:=V.A
 env:=V.env
 X a:=V.X a\/a=x
 Eb:=V.Eb
 BN:=V.BN
 Hf:=V.Hf
 NH:=V.NH
 S6:=V.S6
 S7:=V.S7
 S8:=V.S8
 Rv:=V.Rv
 Rw:=V.Rw
 Rx:=V.Rx
 Hg:=.inl V.Hg
 LY y c h:=.inl (V.LY y c h)
 Iz e:=b (e▸V.Hg)
 Ms y c h:={λe=>b<|e▸V.LY y c h,(V.Ms y c h).2}
 Ht a h:=h.elim (V.Ht a) λe=>e▸d
 wx a h:=.inr h
def afW(R:AY z s)(hs:z.Am=U (.Bo Ab<|xs.map T.au)::U (.Bo Y [.au m,.au c])::CV n Ai):
  ∃x,∃(b:¬z.V.X x) (d:z.Aa.Cx.get? x=Ai),AY {AaR z.V x b d,U (.Bo Ab<|xs.map T.au)::U .QE::CV n Ai,z.Ae,[]} s:=by
 clear z s m c xs n _ R hs;have y:=R.6;rw[hs] at y;obtain⟨g,o,p,j,AW,w,q⟩:=y;have r:g.f=[]:=A9.cI (.Bo Ab<|xs.map T.au) (sb xs) p;obtain⟨ab,v1,pl,⟨S,g1,⟨⟨t1,A⟩,B⟩,W,g2,⟨⟨FN,C⟩,D⟩,g3⟩,cN⟩:=id w;have f2:=(jQ (x:=0) n q).2;have E:j.f=ab.a::ab.f:=cN;have F:ab.f=[]:=by rw[g1.2,B,g2.2,D,g3.2] at⊢;rfl
 have G:z.AO=[ab.a]:=by rw[o.2,r,AW.2,E,F,f2] at⊢;rfl
 have l:ab.a∈z.AO:=G▸.head _;refine aC (R.4 ab.a l) λd b=>{ab.a,b,d,?_}
 have u:∀a,(z.V.X a\/a=ab.a)\/a∈([]:-As)->z.M a:=λa h=>h.elim (λh=>h.imp_right λ(e:a=ab.a)=>e.symm▸l) aS;have A8:ab.Ae=[.int m t1,.int c FN]:=by rw[g1.1,A,g2.1,C,g3.1] at⊢
 calc⟨(R.1),
  (λa h=>h.elim (R.2 a) λe=>e▸R.bE ab.a l),
  (λZ=>{m,c,t1,FN,A8▸Heap.PlainList.isList pl}),
  (λa h=>aS h),
  (.nil),
  ({{g.v,g.Ae,[],[]},{o.1,rfl},afT<|A9.cy (λa h=>.inl<|u a h)<|r▸p,{j.v,j.Ae,[],[]},{AW.1,rfl},{{v1,rfl},rfl},(f2▸(jQ n q).1).a9 (λa h=>.inl<|u a h) λZ Z e Z=>e}),
  (ae R.7 λH I L=>⟨H,I,λi y t N P=>ak (show∃t',z.Am[i]?=U (U t') by
   rw[hs]
   match i with
   |0=>calc {_,rfl}|1=>calc {_,rfl}|i+2=>calc {t,P}) λa Q=>L i y a N Q⟩),
  (R.8)⟩
end
end
noncomputable section
def Aip(Aa:C0)(P:As)(s:AM)(r:Qv)(s':AM):Prop:=Mo
 (r=.ok (.ret<|.bool Y))
 (∀b o,Aa.Cx.get? b=U o->s'.heap.get? b=U o)
 (∃AN,s'.heap.get? P=U (Qp AN))
 (s'.gens=s.gens)
 (s'.os=s.os)
section
variable{Aa:C0}{DD:Nat->As}{i GC:Er}{BI g r P c x:As}{j:WE}{A:EI}{s Cz:AM}{v:Aw}{xs:-Int}{z:A5}
def afX{w:Bk}{Af:Ao Cm}{N:Ao Cm->Prop}{p:Array Aw->Prop}{rest:-C8}(H:In w Cm [U .F,U .F,U .A] Af z)(d:L3 z.V P c)(f:z.V.C=H2)(q:(XR af).wp w Af {N,λZ=>False,λZ=>False,(·=Y)})(h:∀a Am b,In w Cm Sz a (z.ax Am b)->N a->Nw (z.ax Am b) Cz P p (DJ rest)):Nw z Cz P p (DJ<|Sy++rest):=hI H d (f▸fc.2.2.1) gf.2.2.1 ei.2.1 q λa b c q e=>BQ e▸h b c q
def afK{w:Bk}{Af:Ao Cm}{N:Ao Cm->Prop}{p:Array Aw->Prop}{rest:-C8}(H:In w Cm Wa Af z)(d:L3 z.V P c)(f:z.V.C=H2)(q:(XS af).wp w Af {N,λZ=>False,λZ=>False,(·=Y)})(h:∀a Am b,In w Cm XW a (z.ax Am b)->N a->Nw (z.ax Am b) Cz P p (DJ rest)):Nw z Cz P p (DJ<|Qn++rest):=hI H d (f▸fc.2.2.2.1) gf.2.2.2.1 ei.2.2.2.1 q λa b c q e=>BQ e▸h b c q
def afZ{w:Bk}{Af:Ao Cm}(L:Wc w i GC BI g j)(b:L3 z.V P c)(d:z.V.C=H2)(H:In w Cm [U .F,U .F,U .A] Af z)(q:UI.wp w Af (Cp (·=Y))):Nw z Cz P ZP (DJ<|Sy++(CU 7::(Qn++(CU 17::Pd)))):=
 @afX P c Cz z w Af (λa=>LJ.wp w a {λa=>Xw.wp w a (Cp (·=Y)),λZ=>False,λZ=>False,(·=Y)}) ZP (CU 7::(Qn++(CU 17::Pd))) H b d (afQ q) λm o a e h=>@eZ w (z.ax o a) Cz P c m i GC BI g j (λm=>Xw.wp w m (Cp (·=Y))) (Qn++(CU 17::Pd)) e d L b h λm o a f h=>@afK P c Cz (z.ax o a) w m (λm=>Zs.wp w m (Cp (·=Y))) AaQ (CU 17::Pd) f b d (afR h) λm o a l h=>@afS w (z.ax o a) Cz P c m i GC BI g j l d L b h
def afY(bt:NX Aa DD)(L:∀w:Bk,w.Aa=Aa->Wc w i GC BI g j)(a:L3 z.V P c)(d:z.Aa=Aa)(f:z.V.C=H2)(Ax:z.V.k=AS 12)(hs:z.Am=U (.Bo Ab<|Rb xs)::U .QE::CV 11 Ai):Nw z Cz P ZP (DJ (CU 1::(Sy++(CU 7::(Qn++(CU 17::Pd)))))):=by
 clear Aa DD i GC BI g _ P c j Cz xs z _ bt L a d f Ax hs;have p:In ((Nu Aa DD).at<|AS 12) Cm [U .F,U .F] (H0 xs [] [] Ra [] [] [] Ai [] [] [] []) z:={{d,Ax,bt},hs▸{_,_,rfl,λl e=>by delta e;rfl,_,_,rfl,λl e=>by delta e;rfl,Cc.none rfl}}
 have t:Zi.BZ ((Nu Aa DD).at<|AS 12) ((),()) λds=>∃m,D3 m ds:=aeD (w:=Nu Aa DD) (k:=9) gd.2.2.2;have u:Zi.BZ ((Nu Aa DD).at<|AS 12) ((),()) λa=>∃o m,D3 m o/\H0 xs a [] Ra [] [] [] Ai [] [] [] []=H0 xs o [] Ra [] [] [] Ai [] [] [] []:=t.aq λa h=>ak h λm H=>{a,m,H,rfl}
 have y:ZN.wp ((Nu Aa DD).at<|AS 12) (H0 xs [] [] Ra [] [] [] Ai [] [] [] []) {λa=>∃ds m,D3 m ds/\a=H0 xs ds [] Ra [] [] [] Ai [] [] [] [],λZ=>False,λZ=>False,(·=Y)}:=u;show Nw z Cz P ZP (DJ<|[CU 1]++(Sy++(CU 7::(Qn++(CU 17::Pd)))));calc hI (b:=ZN) p a (f▸fc.2.1) gf.2.1 afH y λst Af Am q e B h=>bP h λds m H A3=>?_;have e:=BQ e;subst e;subst A3;have D:In ((H.Ah<|Nu Aa DD).at<|AS 12) Cm [U .F,U .F,U .A] (H0 xs (FV ds) [] Ra [] [] [] Ai [] [] [] []) (z.ax Am q):={{d,Ax,bt},afx H B.2}
 have E:UI.wp ((H.Ah<|Nu Aa DD).at<|AS 12) (H0 xs (FV ds) [] Ra [] [] [] Ai [] [] [] []) (Cp (·=Y)):=afv H<|Nu Aa DD;calc @afZ i GC BI g P c j Cz (z.ax Am q) ((H.Ah<|Nu Aa DD).at<|AS 12) _ (L ((H.Ah<|Nu Aa DD).at<|AS 12) rfl) a f D E
def afU(bt:NX Aa DD)(a:xs.length<=1000000)(b:z.Aa=Aa)(d:z.V.C=H2)(Ax:z.V.k=AS 12)(hs:z.Am=U (.Bo Ab<|Rb xs)::CV 12 Ai):Dj z (Gx<|CU 0) λf Am=>f=.aX/\∃n:Nat,Am=U (.Bo Ab<|Rb xs)::U (.Bo Y [.au n,.au (0:Nat)])::CV 11 Ai:=by
 clear Aa DD xs z _ bt a b d Ax hs;have H:In ((Nu Aa DD).at<|AS 12) U4 [U .F] ((xs,Ao.C2 U4.tail):-Int×Ao U4.tail) z:={{b,Ax,bt},hs▸{_,_,rfl,λl e=>by delta e;rfl,Cc.none rfl}}
 have AI:=aD (d▸fc.1:(HA z.V.C 1 (CN<|Bh (CU 0) 1)&&XT.AI z.V.C (Bh (CU 0) 0))=Y);have q:Uw.BZ ((Nu Aa DD).at<|AS 12) (xs,()) λb=>∃n:Nat,b=[n,0]:=afy a;rw[<-gf.1] at⊢;refine lF (ck AI.1) ((XT.B1 _).5^rfl)<|(@Bx.AX _ _ XT _ _ _ _ _ _ H _ AI.2 ei.1 q).em λAl h=>ak h λn e=>{Ab,_,.bh rfl (.inr<|(⇑O).a5 _ Al),rfl,n,?_}
 rw[e,hs];rfl
def afV(F:∀a,¬Aa.W a)(l:NX Aa DD)(f1:∀x,NX (Aa.NR x) DD)(L:∀(x:As) (w:Bk),w.Aa=Aa.NR x->Wc w i GC BI g j)(Dn:HS Aa (B6 62 r))(G:∀o AF,s.heap.get? r=U o->o.data=.func AF->AF.code=.ref c)(H:CodeHd Aa.Cx c P)
  (dF:∃mg bm m,Aa.Cx.Ns Ed mg/\mg ("__builtins__":Str)=U (.ref bm)/\bm≠Ip/\bm≠Ed/\bm≠P/\Aa.Cx.get? bm=U m/\m.cls=.type "module"/\m.dict=U Ip/\m.data=.plain)
  (M:Ed≠P)(B:Lx Aa (·=P) s)(N:A.frames=U [])(b:FL 25 A)(t:s.heap.get? P=U (Qp #[]))(Q:xs.length<=1000000)(y:A9 Aa (·=P) s.heap (.Bo Ab<|Rb xs) v []):
  G9 (BK Aa.De Aa.w) A (.call (.ref r) {[v],[]}) (Aip Aa P s) s:=by
 clear Aa DD i GC BI g r _ P c j A s v xs _ F l f1 L Dn G H dF M B N b t Q y;calc enter l.1 Dn B.1 b.d rfl λenv GJ Ay tk E Aiq S iE I=>?_;have W6:env.code=.ref c:=aE Dn.2 λp X a D=>Aiq p.1 p.2 (l.1.1.keeps B.1 _ _ X) a^G p.1 p.2 (l.1.1.keeps B.1 _ _ X) a;have Air:GJ=[]:=(S λZ=>False).1;subst Air;have R:=h6 (Av:=[.Bo Ab<|Rb xs]) (Ae:=[v]) (GJ:=[]) (AO:=[]) Dn.1 (b.cK env) B E I rfl (Bl.Cf<|A9.cy (λa h=>.inl<|h.elim id aS) y) S (λZ h=>aS h) .nil;calc(show(B6 62 r).Eg=_ from afI)⊂?_;calc Nz<|CW (afU (z:={RL Dn.1 (b.cK env) B E I,(B6 62 r).Gg [.Bo Ab<|Rb xs],_,[]}) l Q rfl rfl rfl rfl _ R) (λBf s2 QL=>IC.rec (λFt Am q W7 o=>?_) QL) λZ Z z=>z.elim;calc ak W7.2 λn AE=>?_;have Ais:=W7.1;subst Ais;subst AE;rw[show Bf=.next from o.4] at⊢;obtain⟨x,u,h0,Yy⟩:=afW (xs:=xs) (n:=11) o.1 rfl;have se:¬GA env P:=λw=>bl (E.cP I P w) t;have tab:s2.heap.get? P=U (Qp #[]):=o.3.2 P _ (I.toInCall.keep P _ t) (λw=>w.elim (F P) λw=>w.elim se aS) aS;have T0:L3 (AaR (RL Dn.1 (b.cK env) B E I) x u h0) P c:={by show(A.frames.map _)=_;rw[N] at⊢;rfl,E.6,W6,H,.inl<|.inl rfl,λ(e:P=x)=>u<|e▸.inl rfl,se,dF,M}
 have K:=afY (xs:=xs) (Cz:=s2) (z:={AaR (RL Dn.1 (b.cK env) B E I) x u h0,_,q.1,[]}) (f1 x) (L x) T0 rfl rfl rfl rfl;calc CW (K s2 Yy #[] {rfl,tab} rfl) (λa b w=>by obtain⟨Jn,⟨AN,C⟩,Jo⟩:=w;calc {ah (λf=>Except.ok<|Flow.ret<|Flow.LO f) Jn,Jo,{AN,C.2},by rw[C.1,o.3.1] at⊢,by rw[C.1,o.3.1] at⊢}) λZ Z z=>z.elim
end
end
section
section
variable{N:-Str}
def sf:∀(names:-Str) (Ae:-Aw),names.Nodup->J Ae=J names->∃f:Str->Aw,(∀n∈names,(names.zip Ae).lookup n=U (f n))/\names.zip Ae=names.map λn=>(n,f n)
 |[],Ae,_,_=>{λZ=>.none,az,rfl}
 |n::ns,v::Ae,ab,b=>by
  have q:=du ab;refine ae (sf ns Ae q.2<|Qx b) λf Ag c=>{λm=>if m=n then v else f m,λm a=>?_,?_}
  ·rw[s6];by_cases e:m=n;·rw[e,SQ];exact ah U (ao rfl).symm
   ·rw[dT e];exact Ag m ((aK a).resolve_left e)^ah U (ai e).symm
  ·rw[s6,c,HI];calc congr (ah (λu=>List.cons (n,u)) (ao rfl).symm) (FI λm a=>ah (Prod.mk m) (ai λe:m=n=>q.1<|e▸a).symm)
def afJ{l:-Str}{f:Str×Aw->β->Sem (ForInStep β)}{k:β->Sem Af}{v:Sem Af}(h:d=[])(e:k b=v):(forIn (l.zip d) b f>>=k)=v:=by rw[h,List.zip_nil_right];calc e
def afO{f:α->β->Sem (ForInStep β)}{k:β->Sem Af}{v:Sem Af}(e:k b=v):(forIn ([]:-α) b f>>=k)=v:=e
def af0{Cr:↑↥PySem.Expr}{Ae:-Aw}{AF:XZ}(b:AF.params={[],as,Ai,[],Cr,Ai,ds})(c:as.map (λa:Arg=>a.arg)=N)(d:AF.defaults=.none)(f:∀n∈N,¬((N.zip Ae).lookup n).isNone=Y)(g:N.filterMap (λn=>((N.zip Ae).lookup n).map (n,·))=N.zip Ae)(i:J Ae=J N):bindArgs AF {Ae,[]}=pure (N.zip Ae):=by
 clear N as Cr ds Ae AF _ b c d f g i;subst c;induction AF;subst b;subst d;calc(ai λh=>?_).trans<|(ai λh=>?_).trans<|afJ List.drop_nil ?_;·exact Hq _<|Vu (aL<|gm h) i
 ·have e:∀k,((List.take k (as.map λa:Arg=>a.arg)).filter λn=>(((as.map λa:Arg=>a.arg).zip Ae).lookup n).isNone)=[]:=λk=>Pq.mpr λn j=>f n<|tS j;exact Bool.noConfusion<|(ah (λl=>!l.isEmpty)<|e _).symm.trans h
 calc afO<|(ai λh=>br h).trans ?_;calc ah pure<|(ah (List.filterMap _)<|Ct _).trans g
def af1(d:AF.params={[],as,Ai,[],Cr,Ai,ds})(e:as.map (λa:Arg=>a.arg)=N)(g:AF.defaults=.none)(ab:N.Nodup)(b:J Ae=J N):bindArgs AF {Ae,[]}=pure (N.zip Ae):=ae (sf N Ae ab b) λf c i=>af0 d e g (λn j h=>by rw[c n j] at h;delta h) (by
 have:∀l:-Str,(∀n∈l,n∈N)->l.filterMap (λn=>((N.zip Ae).lookup n).map (n,·))=l.map λn=>(n,f n):=λl=>by
  cases l with
  |nil=>calcλZ=>rfl|cons n l o=>
   intro h;rw[List.filterMap_cons,c n<|h n<|.head _,HI,<-o λm p=>h m<|.tail _ p] at⊢;rfl
 calc(this N λZ h=>h)^i.symm) b
end
end
section
section
variable{v:Aw}
def sg:∀{xs:-WData},WShape.hasItems R xs .int=Y->∃ns:-Int,xs=ns.map WData.int
 |[]=>λZ=>{[],rfl}
 |d::xs=>λe=>by
  have e:WShape.has R d .int=Y/\WShape.hasItems R xs .int=Y:=by simpa [WShape.hasItems] using e
  calc ak (hasW_int e.1) λi a=>?_;subst a;calc ak (sg e.2) λns a=>?_;subst a;calc {i::ns,rfl}
def sh:∀(ns:-Int) {Ae:-Aw},WellAll P h Ae (ns.map WData.int)->Bl Aa M h (Rb ns) Ae []
 |[],Ae=>λW=>by cases W;calc {rfl,rfl}|n::ns,Ae=>λW=>by calc a8 (wellAll_cons_inv W) λv IE a b c=>?_;subst a;cases b;calc {{_,_,[],[]},{rfl,rfl},{{_,rfl},rfl},sh ns c}
def af2(W:Well P h v (.list<|ns.map WData.int))(c:h.get? E0=U (Qp AN)):A9 Aa (·=E0) h (.Bo Ab<|Rb ns) v []:=by
 cases (W)with
 |@list a Ae _ e W=>
  have d:a≠E0:=λq=>nomatch (q▸e).symm.trans c;calc {{a,0,Ae,[]},rfl,{0,e},sh ns W,rfl,λb f (q:b=E0)=>d<|(aF f).symm^q,λZ=>rfl}
def af3{ns:-Int}(e:(WTm.and (.not<|.lt (.lit<|.int 63)<|.len<|.arg 0) t).holds R {args:=[.list<|ns.map WData.int]}=Y):J ns<=63:=by have e:=(holds_andW e).1;have A8:(WTm.not<|.lt (.lit<|.int 63)<|.len<|.arg 0).value R {args:=[.list<|ns.map WData.int]}=U (.bool<|!decide ((63:Int)<((ns.map WData.int).length:Nat))):=rfl;have e:=condW_of e A8;have e:=b2<|EJ _▸e;rw[Bq] at e;calc Qw.mp<|Rf.mp e
end
end
section
def gg:∀{l:-α},l.map f=l.map g->∀p∈l,f p=g p
 |_::_,e,p,h=>by
  have q:=Ge e;cases (h)with
  |head=>calc q.1|tail _ h=>calc gg q.2 p h
section
variable{K:Gd}{F:Er}
def af4(e:Rq K F.FQ=QG p d):∃o AF,K.lookup F.FQ=U o/\o.data=.func AF/\((AF.body,AF.scope,AF.globals,AF.builtins,AF.closure,AF.params,AF.defaults,codeIn K AF.code AF.qualname):NG)=(.stmts (M1 p).1,(M1 p).2,Ed,Ip,[],M3 p,d,Y):=by
 clear K F p d _ e;exact ae (bD e) λAF d b=>ae (dh d) λo c a=>by
  have q:o.data=.func AF:=by
   split at a
   ·rename_i g f;delta a;exact f
   ·delta a
  calc {o,AF,c,q,b}
def XX(K:Gd)(F:Er)(p:-Nat)(d:Aw):Prop:=∀(Aa:C0) (AF:XZ),AF.params=M3 p->AF.defaults=d->∀(s:AM) (Ae:-Aw),K.In s.heap->J Ae+J F.E3=J F.FR->∃GJ,(∀M:As->Prop,Bl Aa M s.heap F.E3 GJ [])/\BindsTo s AF {Ae,[]} (F.FR.zip<|Ae++GJ)
def eF(a:Aa.K=K)(b:K.In Aa.Cx)(e:Rq K F.FQ=QG p d)(c:F.Eg=(M1 p).1)(hs:F.BN=(M1 p).2)(ok:F.CA)(B:XX K F p d):HS Aa F:=by subst a;calc a8 (af4 e) λo a d f q=>{ok,(o,a),d,f,c▸ah (λu:NG=>u.1) q,hs▸ah (λu:NG=>u.2.1) q,ah (λu:NG=>u.2.2.1) q,ah (λu:NG=>u.2.2.2.1) q,ah (λu:NG=>u.2.2.2.2.1) q,ah (λu:NG=>u.2.2.2.2.2.2.2) q,λs c d g=>B Aa a (ah (λu:NG=>u.2.2.2.2.2.1) q) (ah (λu:NG=>u.2.2.2.2.2.2.1) q) s c (b.keeps d) g}
def U7(p:-Nat)(AN:-Str):Bool:=(M3 p).posonlyargs.isEmpty&&((M3 p).vararg.isNone&&((M3 p).kwonlyargs.isEmpty&&((M3 p).kwarg.isNone&&decide ((M3 p).args.map (·.arg)=AN))))
def af5{q:Arguments}(h:(q.posonlyargs.isEmpty&&(q.vararg.isNone&&(q.kwonlyargs.isEmpty&&(q.kwarg.isNone&&decide (q.args.map (·.arg)=AN)))))=Y):q={[],q.args,Ai,[],q.kw_defaults,Ai,q.defaults}/\q.args.map (·.arg)=AN:=ep h λa b c d e=>by cases q;cases tK.mp a;cases Wi.mp b;cases tK.mp c;cases Wi.mp d;calc {rfl,aL e}
def jR(h:U7 p F.FR=Y)(ab:F.FR.Nodup)(a:F.E3=[]):XX K F p .none:=λf g c d s i e b=>by rw[a] at b;have q:=af5 h;calc {[],λM=>a▸{rfl,rfl},.of_eq<|(Ct i).symm▸af1 (c^q.1) q.2 d ab b}
def Wd(F:Er):Bool:=F.Aq.all (λx=>decide (F.BN.names.lookup x=U .local)||decide (F.BN.names.lookup x=U .cell))&&(decide F.Aq.Nodup&&(decide (F.BN.kind=.function)&&(!F.BN.isCoroutine&&!F.BN.isGenerator)))
def eG(h:Wd F=Y):F.CA:=by clear F _ h;calc aC (bQ h) λa h=>aC (bQ h) λb h=>?_;calc aC (bQ h) λc h=>aC (bQ h) λd e=>?_;calc {λx f=>(cW<|Rl.mp a x f).imp aL aL,aL b,aL c,EJ _▸d,EJ _▸e}
def Ait(f:Nat):Bool:=Wd (B6 f 0)&&(f==9||(U7 (Kg f) (B6 f 0).FR&&(B6 f 0).E3.isEmpty))
def af6:WM.all Ait=Y:=Sort
def gh:Wd (B6 1 0)=Y/\Wd (B6 2 0)=Y/\Wd (B6 3 0)=Y/\U7 [10,0] (B6 3 0).FR=Y:={Sort,Sort,Sort,Sort}
end
end
section
def We:Er:={36,(M1 [2,0]).1,(M1 [2,0]).2,["self","what","at"],[],[.none]}
def ZQ:Er:={484,(M1 [62]).1,(M1 [62]).2,["ask"],[],[]}
def jS:Wd We=Y/\Wd ZQ=Y/\U7 [62] ["ask"]=Y:={Sort,Sort,Sort}
def cG{n:Nat}{P:-Aw->Prop}(h:∀v Ae,J Ae=n->P (v::Ae)):∀Ae,J Ae=n+1->P Ae:=λa=>by
 cases a using List.casesOn with
 |nil=>calcλe=>ar e.symm (kl _)|cons v a=>calcλe=>h v a<|Qx e
def hL{P:-Aw->Prop}(h:P []):∀Ae,J Ae=0->P Ae:=λa e=>List.eq_nil_of_length_eq_zero e⊂h
section
variable{K:Gd}
def af7(h:K.lookup 29=U (Rt #[.none])):XX K We [2,0] (.ref 29):=λAa AF d p s Ae u t=>by replace t:J Ae=2:=VG t;revert t;revert Ae;calc cG λv1=>cG λv2=>?_;calc hL ?_;obtain⟨a,b,c,e,f,g,i,j,k,l,m,n,o,q,r⟩:=AF;have d:c=M3 [2,0]:=d;have p:j=.ref 29:=p;subst d p;calc {[.none],λM=>Bl.Cf {rfl,rfl},BindsTo.of_defaults rfl (u _ _ h) rfl rfl (Sort)}
def af8(h:K.lookup 181=U (Rt #[.none])){a:As}:XX K (B6 9 a) [12] (.ref 181):=λAa AF d p s Ae u t=>by replace t:J Ae=1:=VG t;revert t;revert Ae;calc cG λv1=>hL ?_;obtain⟨a,b,c,e,f,g,i,j,k,l,m,n,o,q,r⟩:=AF;have d:c=M3 [12]:=d;have p:j=.ref 181:=p;subst d p;calc {[.none],λM=>Bl.Cf {rfl,rfl},BindsTo.of_defaults rfl (u _ _ h) rfl rfl (Sort)}
def af9(h:K.lookup 77=U (Rt #[.int (Neg.neg 1) 283,.none,.int 0 284,.int 0 285])){a:As}:XX K (B6 1 a) [9,0] (.ref 77):=λAa AF d p s Ae u t=>by replace t:J Ae=5:=VG t;revert t;revert Ae;calc cG λv1=>cG λv2=>?_;calc cG λw=>cG λx=>?_;calc cG λy=>hL ?_;obtain⟨a,b,c,e,f,g,i,j,k,l,m,n,o,q,r⟩:=AF;have d:c=M3 [9,0]:=d;have p:j=.ref 77:=p;subst d p;calc {[.none,.int 0 284,.int 0 285],λM=>{{_,_,[],[]},{rfl,rfl},{rfl,rfl},{_,_,[],[]},{rfl,rfl},{{_,rfl},rfl},Bl.Cf {{_,rfl},rfl}},BindsTo.of_defaults rfl (u _ _ h) rfl rfl (Sort)}
def aga(h:K.lookup 77=U (Rt #[.int (Neg.neg 1) 283,.none,.int 0 284,.int 0 285])){a:As}:XX K (B6 2 a) [9,0] (.ref 77):=λAa AF d p s Ae u t=>by replace t:J Ae=8:=VG t;revert t;revert Ae;calc cG λv1=>cG λv2=>?_;calc cG λw=>cG λx=>?_;calc cG λy=>cG λz=>?_;calc cG λA=>cG λB=>?_;calc hL ?_;obtain⟨a,b,c,e,f,g,i,j,k,l,m,n,o,q,r⟩:=AF;have d:c=M3 [9,0]:=d;have p:j=.ref 77:=p;subst d p;calc {[],λM=>{rfl,rfl},BindsTo.of_defaults rfl (u _ _ h) rfl rfl (Sort)}
end
end
section
def AaS:-(Str×Aw):=Rr.filterMap λp=>p.2.map λv=>(p.1,v)
def Aiu:-(Str×T):=[("END",.au 0),("ERROR",.au 1),("OWN_TERMINALS",.aT [.aZ "$end",.aZ "error",.aZ "$undefined"])]
def SA(w:FH)(h:BX)(K:Gd)(x:As)(W:As->Prop):C0:={w:=w,De:=PySem.Challenge.pw_nn0376_01,P:=x,Cx:=QD h [E0],W:=W,K:=K,G:=AaS,GT:=Aiu}
def si{α β:Type}{f g:α->β}{l:-α}(e:l.map f=l.map g){i:Nat}{p:α}(h:l[i]?=U p):f p=g p:=gg e p<|GK h
def Dn(h:BX)(K:Gd)(mg mb:Str->↥Aw):Prop:=S0
 (K.In h)
 (K.lookup E0=Ai)
 (h.get? E0=U (Qp #[]))
 (Kh K=VZ)
 (h.Ns Ed mg)
 (h.Ns Ip mb)
 (h.NoLimit)
 (∀x:Str,x≠"__name__"->mb x=SI x)
namespace Dn
variable{h:BX}{K:Gd}{mg:Str->↥Aw}{i:Nat}
def agb(H:Dn h K mg mb)(a:f∈WM):Rq K (I3 f)=QG (Kg f) (VW f):=gg (f:=λf=>Rq K<|I3 f) (g:=λf=>QG (Kg f)<|VW f) (ah (λq=>q.1) H.4) f a
theorem CG(H:Dn h K mg mb){p:As×↑Nat×Aw}(a:VT[i]?=U p):Rq K p.1=QG p.2.1 p.2.2:=si (f:=λp=>Rq K p.1) (g:=λp=>QG p.2.1 p.2.2) (ah (λq=>q.2.1) H.4) a
def jT(H:Dn h K mg mb)(a:p∈Rr):nsIn K Ed p.1=U p.2:=gg (f:=λp=>nsIn K Ed p.1) (g:=λp=>U p.2) (ah (λq=>q.2.2.1) H.4) p a
def ns(H:Dn h K mg mb)(i:Nat)(a:Rr[i]?=U p):nsIn K Ed p.1=U p.2:=H.jT<|GK a
def hM(H:Dn h K mg mb)(a:p∈Yk):H4 K (.ref p.1) p.2.1=U p.2.2:=gg (f:=λp=>H4 K (.ref p.1) p.2.1) (g:=λp=>U p.2.2) (ah (λq=>q.2.2.2.1) H.4) p a
def aR(H:Dn h K mg mb)(i:Nat)(a:Yk[i]?=U p):H4 K (.ref p.1) p.2.1=U p.2.2:=H.hM<|GK a
def gi(H:Dn h K mg mb){b:Bool}(a:b∈VK K):b=Y:=List.eq_of_mem_replicate<|(H.4▸rfl:(Kh K).2.2.2.2.1=CV 73 Y)▸(show b∈(Kh K).2.2.2.2.1 from a)
def b3(H:Dn h K mg mb)(i:Nat){b:Bool}(a:(VK K)[i]?=U b):b=Y:=H.gi<|GK a
def cC(H:Dn h K mg mb)(i:Nat){p:As×Obj}(a:VX[i]?=U p):K.lookup p.1=U p.2:=si (f:=λp=>K.lookup p.1) (g:=λp=>U p.2) (ah (λq=>q.2.2.2.2.2.1) H.4) a
def sj(H:Dn h K mg mb):AaV K=AaJ:=ah (λq=>q.2.2.2.2.2.2) H.4
def up(H:Dn h K mg mb){b:As}(e:h.get? b=U o)(n:b≠E0):(QD h [E0]).get? b=U o:=ts _ e λm=>n<|aF m
def cS(H:Dn h K mg mb):K.In (QD h [E0]):=λa o e=>H.up (H.1 a o e) λq=>nomatch (q▸e).symm.trans H.2
def sk{v:Aw}(a:(x,U v)∈Rr):(x,v)∈AaS:=Wh.mpr {_,a,rfl}
def jW(H:Dn h K mg mb){a:As}(b:a∈Kf.take 62++[484,59]):Pe K (.ref a)=Y:=H.gi<|CL _<|CL _<|BH _<|Po b
def jX(H:Dn h K mg mb){a:As}(b:a∈[110,117,131,138,84,103]):isFn K (.ref a)=Y:=H.gi<|CL _<|BH _<|Po b
def sl(H:Dn h K mg mb){C:As}(a:C∈[87,169])(hs:H4 K (.ref C) "__setattr__"=U (U<|.builtin "object.__setattr__")):Aa2 K C:=have q:=H.gi (CL _<|CL _<|CL _<|Po a)
 aC (bQ q) λb q=>aC (bQ q) λc q=>aC (bQ q) λd e=>{b,c,hs,d,e}
def jK(a:PyData.strOk x=Y):A9 Aa M h (.aZ x) (.str x t) []:={{{t,rfl},a},rfl}
def jZ:PyData.strOk "$end"=Y/\PyData.strOk "error"=Y/\PyData.strOk "$undefined"=Y:={Sort,Sort,Sort}
def agc(H:Dn h K mg mb):DY (SA w h K x W):=by
 clear h K mg mb w x W _ H;have j:(QD h [E0]).Ns Ed mg:=H.5.at' λo e=>H.up e ∅;have l:∀p∈Rr,mg p.1=p.2:=λp g=>by
  obtain⟨n,v⟩:=p;cases v with
  |none=>calc mg_none_of H.cS j<|H.jT g|some v=>exact mg_of H.cS j<|H.jT g
 have m:∀(i:Nat) {p},Rr[i]?=U p->mg p.1=p.2:=λi p s=>l p<|GK s;refine {H.cS,?_,?_,{mg,j,λy f=>l (y,Ai)<|CL _<|CL _<|Po f,λy v f=>ae (Wh.mp f) λp g e=>ae (bD e) λz AW A3=>?_,λy t f=>?_},{mb,H.6.at' λo e=>H.up e ∅,H.8},λc C e=>?_,λc C k e d=>?_}
 ·exact ae H.7 λu a b=>{u,a.at' λo e=>H.up e ∅,b}
 ·exact ak (Vc.mp<|H.gi<|BH _<|.head _) λo e=>{o,H.cS _ _ e}
 ·delta A3;exact l p g^AW
 ·rcases aK f with e|f
  ·delta e;exact {.int 0 262,m 15 rfl,λM Z=>{{262,rfl},rfl}}
  rcases aK f with e|f
  ·delta e;exact {.int 1 264,m 16 rfl,λM Z=>{{264,rfl},rfl}}
  ·cases aF f;exact {.ref 69,m 14 rfl,λM Z=>{{69,0,[.str "$end" 266,.str "error" 267,.str "$undefined" 268],[]},rfl,{_,H.cS _ _<|H.cC 3 rfl,rfl,0,rfl},{{_,_,[],[]},{rfl,rfl},jK jZ.1,{_,_,[],[]},{rfl,rfl},jK jZ.2.1,Bl.Cf<|jK jZ.2.2},rfl,az,λZ=>rfl}}
 ·have e:=BQ e;by_cases q:c%2=0;·rw[ao q] at e;exact e▸H.sl (.head _) (H.aR 0 rfl)
  ·rw[ai q] at e;exact e▸H.sl (.tail _<|.head _) (H.aR 1 rfl)
 ·have r:=cV<|(cW d).elim (λq=>DQ (aL<|fe q) ∅) λq=>aL<|fe q;have e:=BQ e;by_cases q:c%2=0
  ·rw[ao q] at e;have d:HM 0 k=Y:=by unfold HM at d;rw[q] at d;exact d
   exact e▸H.hM (CL _<|BH _<|Po<|c4 {r,d})
  ·rw[ai q] at e;have d:HM 1 k=Y:=by unfold HM at d;rw[(AjD c).resolve_left q] at d;exact d
   calc e▸H.hM (BH _<|Po<|c4 {r,d})
end Dn
end
section
namespace Dn
variable{K:Gd}
def agd(e:QW f=U (y,Ab)):(y,Ir<|I3 f)∈AaS:=ae (bD e) λn b a=>sk<|BH _<|dM {(n,f),c4 {di b,by rw[show decide (4<=f/\f<=7)=Ab from ah Qu a];rfl},ah (λu=>(u,U<|Ir<|I3 f))<|ah SR a}
def age(e:QW f=U u):f<62:=ae (bD e) λn b a=>(bK b)
def sm(H:Dn h K mg mb)(a:f<62):Pe K (.ref<|I3 f)=Y:=H.jW (CL _ (by
 have e:I3 f=(Kf.take 62)[f]'a:=by unfold I3;rw[CO,Dv<|I1 a,List.getElem_take];rfl
 calc e▸SW _))
def agf(H:Dn h K mg mb)(e:QW f=U (y,Y)):KG (SA w h K x W) 1 y (I3 f):=ae (bD e) λn Ag b=>by
 have a:=aL<|ah Qu b;have d:n=Ke.getD f "":=by rw[CO,Ag];rfl
 have i:y=Qo (Ke.getD f ""):=d▸(ah SR b).symm;have c:f∈[4,5,6,7]:=(by decide:∀g:Fin 8,4<=g.val->g.val∈[4,5,6,7]) {f,Iu a.2} a.1;calc {λC j=>?_,H.jX<|(by decide:∀g∈[4,5,6,7],I3 g∈[110,117,131,138,84,103]) f c,H.sm<|DG a.2 ∅};cases j;calc i▸H.hM (CL _<|CL _<|BH _<|Po c)
def so(H:Dn h K mg mb)(b:f∈WM):HS (SA w h K x W) (B6 f<|I3 f):=by
 have e:=H.agb b;calc aC (bQ<|Rl.mp af6 f b) λg a3=>?_;have ok:=eG (F:=B6 f<|I3 f) g;by_cases a:f=9
 ·subst a;exact eF (F:=B6 9<|I3 9) (p:=[12]) (d:=.ref 181) rfl H.cS e rfl rfl ok (af8<|H.cC 1 rfl)
 ·have q:=(cW a3).resolve_left λq=>a<|beq_iff_eq.mp q;have c:=bQ q;calc eF rfl H.cS (e.trans<|ah (QG<|Kg f)<|ai a) rfl rfl ok (jR c.1 (dH ok.2)<|tK.mp c.2)
def idx(Ag:f<62)(a:f<1\/3<f):f∈WM:=a.elim (λh=>kx.mp h▸.head _) λh=>.tail _<|XK.mpr {h,I1 Ag}
def bt(H:Dn h K mg mb):NX (SA w h K x W) I3:=⟨
 (H.agc),
 (λZ h=>h),
 (λf y e=>{H.sm<|age e,agd e}),
 (λf y e=>H.agf e),
 (λf b a=>H.so<|idx b a),
 ({rfl,rfl,rfl}),
 ({84,103,{eF (F:=B6 1 84) rfl H.cS (H.CG (i:=1) rfl) rfl rfl (eG (F:=B6 1 84) gh.1) (af9<|H.cC 0 rfl),eF (F:=B6 2 84) rfl H.cS (H.CG (i:=1) rfl) rfl rfl (eG (F:=B6 2 84) gh.2.1) (aga<|H.cC 0 rfl),eF (F:=B6 3 103) rfl H.cS (H.CG (i:=2) rfl) rfl rfl (eG (F:=B6 3 103) gh.2.2.1) (jR gh.2.2.2 (dH (eG (F:=B6 3 103) gh.2.2.1).2) rfl)},{H.aR 6 rfl,H.jX ∅},H.aR 7 rfl,H.jX ∅})⟩
end Dn
end
section
def agg:∃p:Nat->Pos,We.Eg=Abe p/\((p 1).endLine==(p 4).line)=Y:={λi=>[_,_,_,_,_,_,_,_,_,_,_,_,_,_].getD i default,rfl,rfl}
def agh:∃(p:Nat->Pos) (u:_),ZQ.Eg=Abg p u:={λi=>[_,_,_,_,_,_,_,_].getD i default,_,rfl}
def agi:∀y∈(["self","what","at"]:-Str),We.BN.names.lookup y=U .local:=by decide+kernel
def jY:We.BN.names.lookup ("Exception":Str)=U .globalImplicit/\ZQ.BN.names.lookup ("ask":Str)=U .local/\ZQ.BN.names.lookup ("GrammarError":Str)=U .globalImplicit:={Sort,Sort,Sort}
def AdR:WE:={name:="GrammarError",bases:=[.ref 46],mro:=[.ref 59,.ref 46,.type "Exception",.type "BaseException",.type "object"],ns:=58,qualname:="GrammarError",hasDict:=Y,slotNames:=[],subclasses:=[],abstract:=Ab,collection:=Ai,hasDel:=Ab}
namespace Dn
variable{K:Gd}
def agj(H:Dn h K mg mb){v:Bk}(e:v.Aa=SA w h K x W):Wc v ZQ We 59 46 AdR:=by
 have m:=H.sj;have a:=H.cC 5 rfl;calc⟨(e▸({{({_,_,_,_,_,_,_,_,_,_,_,_,_,_,_,a}),(by show clsIn K 59=_;unfold clsIn;rw[show K.lookup 59=U AaY from a];rfl),(rfl),(rfl),(H.aR 2 rfl),(ah (λu:S4=>u.2.2.2.1) m),(H.aR 3 rfl),(H.aR 4 rfl),(H.ns 10 rfl)},{(eF rfl H.cS (H.CG (i:=3) rfl) rfl rfl (eG jS.1) (af7<|H.cC 2 rfl)),(rfl),(rfl),(agi),(jY.1),(agg)},(H.aR 5 rfl),(ah (λu:S4=>u.1) m),(ah (λu:S4=>u.2.1) m),(ah (λu:S4=>u.2.2.1) m),(H.jW<|BH _<|.tail _<|.head _)}:QQ (SA w h K x W) 59 46 AdR We)),
  (e▸H.ns 11 rfl),
  (e▸{eF rfl H.cS (H.CG (i:=0) rfl) rfl rfl (eG jS.2.1) (jR jS.2.2 ∅ rfl),rfl,rfl,jY.2.1,jY.2.2,agh}),
  (e▸sk (GK (i:=13) rfl)),
  (e▸H.jW (BH _<|.head _))⟩
def agk(H:Dn h K mg mb):CodeHd (QD h [E0]) 517 E0:={_,_,_,_,_,_,_,_,_,H.cS _ _<|H.cC 6 rfl,rfl,rfl,rfl,rfl,rfl,rfl,rfl,rfl,∅}
def dF(H:Dn h K mg mb):∃mg bm a,(QD h [E0]).Ns Ed mg/\mg ("__builtins__":Str)=U (.ref bm)/\bm≠Ip/\bm≠Ed/\bm≠E0/\(QD h [E0]).get? bm=U a/\a.cls=.type "module"/\a.dict=U Ip/\a.data=.plain:=
 have b:=H.5.at' λo e=>H.up e ∅
 {mg,4,_,b,mg_of H.cS b<|H.ns 12 rfl,∅,∅,∅,H.cS _ _<|H.cC 4 rfl,rfl,rfl,rfl}
def agl(H:Dn h K mg mb)(e:h.get? 518=U o)(b:o.data=.func AF):AF.code=.ref 517:=ae (bD<|ah (λu:S4=>u.2.2.2.2) H.sj) λf h c=>ae (dh h) λg d a=>by cases BQ ((H.1 _ _ d).symm^e);rw[b] at a;delta a;calc c
end Dn
end
section
def YP(_:FH)(h:BX):Prop:=(∃K:Gd,K.In h/\K.lookup E0=Ai/\Kh K=VZ)/\h.get? E0=U (Qp #[])
def sr{K:Gd}(e:K.lookup a=U o):(a,o)∈K:=by
 cases K with
 |nil=>delta e|cons p K c=>
  obtain⟨b,d⟩:=p;by_cases q:a=b;·subst q;rw[SQ] at e;delta e;exact .head _
  ·rw[AiW,beq_eq_false_iff_ne.mpr q] at e;calc .tail _<|c e
def su(m:(a,o)∈Yj h):h.get? a=U o/\a≠E0:=by
 clear h a o _ m;calc ae (Wh.mp m) λb Z e=>?_;by_cases q:b=E0
 ·rw[ao q] at e;delta e
 ·rw[ai q] at e;calc ae (bD e) λc AW A3=>?_;delta A3;calc {AW,q}
def agm(e:Yl s=Ym w):YP w s.heap:=⟨⟨Yj s.heap,λa o e=>(su<|sr e).1,by
 cases q:(Yj s.heap).lookup E0 with
 |none=>rfl|some o=>calc ar rfl (su<|sr q).2,ah SR e⟩,ah Qu e⟩
def agn(y:YP w h)(k:∀b o,h.get? b=U o->Ay.get? b=U o):YP w Ay:=
 let⟨⟨K,a,b,c⟩,d⟩:=y;{{K,λx o e=>k _ _<|a x o e,b,c},k _ _ d}
def ago:FL 25 callerA:={rfl,∅,∅}
section
variable{K:Gd}{ns:-Int}{v:Aw}
def agp(H:Dn s.heap K mg mb)(g:J ns<=63)(W:Well w.params s.heap v (.list<|ns.map WData.int)):G9 (BK PySem.Challenge.pw_nn0376_01 w) callerA (.call (.ref 518) {[v],[]}) (λr a=>r=.ok (.ret<|.bool Y)/\OldK s.heap a.heap/\a.os=s.os/\a.gens=s.gens) s:=by
 have B:Lx (SA w s.heap K 0 λZ=>False) (·=E0) s:={λb o e=>of_hideAll _ e,λa (e:a=E0)=>⟨_,e▸H.3,λt=>let⟨_,Ae,n,q⟩:=t;(nomatch q)⟩,λe=>e.elim,λa (e:a=E0)=>e▸tr _ (.head _),λa (e:False)=>e.elim,Di<|hideAll_size _ _}
 refine ko (afV (Aa:=SA w s.heap K 0 λZ=>False) (xs:=ns) (λZ e=>e) H.bt (λx=>H.bt) (λx v e=>H.agj e) (H.so (f:=62) ∅) (λo a e h=>H.agl e h) H.agk H.dF ∅ B rfl ago H.3 (g\∅) (af2 W H.3)) λr s' y=>{y.1,?_,y.5,y.4}
 calc ak y.3 λAN i=>?_;have c:s.heap.get? 517=U AaU:=H.1 _ _<|H.cC 6 rfl;have up:∀b o,b≠E0->s.heap.get? b=U o->s'.heap.get? b=U o:=λb o n e=>y.2 b o<|H.up e n;have d:s.heap.TableAt 517 E0 #[]:={{_,_,c,rfl,rfl,rfl},H.3}
 have t1:s'.heap.TableAt 517 E0 (#[]++AN):={{_,_,up _ _ ∅ c,rfl,rfl,rfl},by rw[AiF];calc i}
 calc(OldK.refl s.heap).step_table d d t1 (λb o n e=>up b o n e) ∅
end
end
section
def agq:∃d kwd,defOf S5 "law"=U (d,kwd)/\d.name=("law":Str)/\PySem.Challenge.pw_nn0376_01.theDef "law"=U (d.params,d.body,d.scope)/\kwWritten? d.params.kwonlyargs d.params.kw_defaults=U kwd:={_,_,rfl,rfl,rfl,rfl}
def agr{d:DefRec}{kwd:-(Str×A2)}(h:d.name=("law":Str)):WalkO S5 Ki (λZ Z=>True) YP PySem.Challenge.rw_nn0376_01.row.toRowW d kwd λf Ae=>PySem.call f Ae:=by
 intro w Aky i mg mb G j a o F cd doc I C3 L M N EK e l args P as m Q R p S;obtain⟨⟨K,q,s,t⟩,u⟩:=j;have H:Dn i.heap K mg mb:={q,s,u,t,G.T.g,G.T.b,G.T.nolimit,G.T.builtins}
 have x:mg ("law":Str)=U (.ref 518):=mg_of H.1 H.5<|H.ns 17 rfl;rw[h] at e;cases BQ (e.symm^x);calc aC (pre_splitW m) λMA L1=>?_;calc a8 (hasAllW_cons MA) λW X c z A=>?_;subst c;cases hasAllW_nil A;calc ae (hasW_list z) λxs c B=>?_;subst c;calc ak (sg B) λns c=>?_;subst c;calc a8 (wellAll_cons_inv p) λv IE c C D=>?_;subst c;cases D;calc Ww<|ko (agp H (af3 L1) C) λr s' y=>?_;calc eH y λc k os gens=>?_;subst c;have E:PySem.Challenge.rw_nn0376_01.row.toRowW.claim.post [.list<|ns.map WData.int] (.bool Y) [.list<|ns.map WData.int]=Y:=postC_of ∅ (by
  show(WTm.eq .res<|.lit<|.bool Y).value _ _=_;simp [WTm.value]
  first|rfl|decide+kernel|kernel_rfl) rfl
 calc {.inl {.bool Y,.bool Y,[],rfl,λa=>rfl,.bool Y,E,λZ=>{.nil,az}},k,os,.of_eq<|gens^l}
def ew:chainsOk S5=Y:=Sort
def ags:(frees PySem.Challenge.rw_nn0376_01.row.toRowW&&PySem.Challenge.rw_nn0376_01.row.within.isEmpty)=Y:=Sort
def cN:opensWell PySem.Challenge.pw_nn0376_01=Y:=Sort
def agt:PySem.Challenge.rw_nn0376_01.row.prog.bare:=by
 refine {rfl,rfl,rfl,rfl,rfl,?_}
 kernel_rfl
def agu:PySem.Challenge.rw_nn0376_01.row.toRowW.promised:=by
 w_witness2
def agv(hQ:PySem.Challenge.rw_nn0376_01.row.wellSaid=Y):PySem.Challenge.rw_nn0376_01.row.Holds:=by calc dg agq λd kwd f a b c=>holds_open (q:=S5) (loose:=Ki) (Xt:=λZ=>Y) (XP:=λZ Z=>True) (Yf:=Yl) (Ya:=Ym) (YP:=YP) (d:=d) (kwd:=kwd) (N:=7000) ug (λw s e=>agm e) (λw h a y k=>agn y k) (λZ Z=>trivial) (λZ Z Z Z Z=>trivial) f b c (λs Z=>recFacts_nil rfl) rfl hQ (look_both (look_both ew cN) ags) agt agu (agr a)
end
end Mine.Internal
open PySem PySem.W PyProof.Rows PySem.Calls
set_option maxRecDepth 100000 in
set_option maxHeartbeats 8000000 in
theorem PySem.Challenge.cw_nn0376_01_holds : PySem.Challenge.rw_nn0376_01.Holds :=
 holds_law Mine.Internal.hQ Mine.Internal.agv
