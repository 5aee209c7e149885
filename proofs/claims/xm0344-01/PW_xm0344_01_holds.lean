import PyProof.Rows.All
import ObjForm.ListNI
import KE.KDictSum
import KE.KRevSl
import KE.LcTurns
import Open.Tops
import Lean
import PySem.Challenge.RW_xm0344_01
open PySem PySem.W PyProof.Rows
set_option Elab.async false
set_option maxRecDepth 100000
set_option maxHeartbeats 1000000
set_option linter.all false
set_option genSizeOf false
set_option genSizeOfSpec false
set_option genInjectivity false
set_option genCtorIdx false
set_option bootstrap.genMatcherCode false
namespace Mine.Internal
noncomputable section
open _root_.List renaming length->b?,getElem?_eq_some_iff->i?,mem_cons_self->o?,mem_cons_of_mem->q?,mem_singleton->B?,mem_cons->G?,getElem?_append_left->H?,length_append->I?,all_eq_true->L?,getElem?_set_ne->M?,mem_append->N?,length_cons->Q?,mem_append_left->V?,replicate->X?,getElem?_eq_getElem->Z?,getElem?_append_right->c!,mem_append_right->i!,range->l!,getElem?_set_self->B!,map_cons->C!,any_cons->M!,length_map->N!,append_nil->S!,mem_of_getElem?->U!,getElem?_map->X!,nodup_cons->c_,length_set->d_,nodup_append->f_,casesOn->i_,cons_append->m_,set_set->o_,zip_cons_cons->v_,mem_map->B_,lookup->E_,length_nil->J_,reverse_cons->S_,nodup_nil->V_,nil_append->Y_,length_singleton->Z_,pairwise_cons->ē,append_assoc->ę,length_reverse->ġ,take_of_length_le->Ģ,getElem?_concat_length->ģ,lookup_cons->Ĥ,getElem?_replicate->Ĵ,map_append->ļ,length_range->Ŀ,getElem?_of_mem->ń,not_mem_nil->Ň,all_cons->Ŏ,length_eq_zero_iff->Ś,mem_range->ť,length_replicate->Ū,getElem_mem->Ų,mem_reverse->ų,filterMap_cons->ž,getElem?_range->ſ,set_cons_succ->Î,getElem?_drop->Ï,length_erase_of_mem->å,any_eq_true->ñ,isEmpty_iff->ó,zipIdx_cons->ô,getElem?_cons_zero->ö,map_nil->ù,length_pos_of_mem->ν,mem_filter->Α,contains_iff_mem->Ζ,dropLast_eq_take->Θ,set_append_right->Ο,length_filter_le->Ρ,mem_erase_of_ne->aaj,reverse_reverse->aal,range_eq_range'->aam,replicate_succ->aaq,set_comm->aaJ,map_inj_left->abd,map_map->abh,any_nil->abm,take_length->abp,isEmpty_nil->abq,filter_cons->abG,reverse_nil->abH,any_append->abW,drop_nil->acu,take->acN,reverse->ac3,all_map->ac7,foldl->adl,tail->adr
open _root_.Option renaming some->d?,none->e?,bind_some->F?,map_eq_some_iff->K!,isSome_iff_exists->H_,isSome_some->Ĕ,bind_eq_some_iff->ė,casesOn->ĥ,map_some->ĸ,getD_none->ç,map->aaM
open _root_.Bool renaming false->f?,true->j?,and_eq_true_iff->t?,false_ne_true->O?,and_eq_true->Y?,false_or->G!,eq_false_iff->W_,or_eq_true->Ğ,or_eq_false_iff->Į,not_eq_true'->į,not_true->ŋ,or_false->Ő,false_eq_true->Œ,rec->Ç,true_or->ο,or_eq_true_iff->aas,and_false->acp,false_and->acq,and_true->acI,casesOn->acP
open _root_ renaming List->g?,Nat->m?,Option->p?,Int->C?,Bool->D?,if_neg->E?,true_and->K?,if_pos->P?,congrArg->R?,beq_iff_eq->U?,not_true_eq_false->A!,not_false_eq_true->F!,decide_eq_true_eq->O!,if_true->V!,False->a_,DecidableEq->u_,dif_neg->A_,beq_eq_false_iff_ne->D_,of_decide_eq_true->F_,beq_self_eq_true->K_,Array->O_,String->Q_,decide_eq_false->ě,decide_eq_true->Ħ,ne_eq->Ī,True->ŀ,Unit->ŝ,Decidable->ů,decide_eq_true_iff->aa1,if_false->aa9,or_false->abe,not_or->abr,propext->abY,cond->ab5,and_self->aco,and_true->acr,instOfNat->acO
open _root_.PySem renaming Expr->k?,wpAny_bind->l?,Value->s?,wpAny_pure->v?,Shared->y?,Addr->e!,wpAny_holding->h!,model->j!,Str->k!,wpAny->n!,wpAny_standAt->q!,World->u!,Around->D!,mainGlobals->I!,DictEntry->R!,Heap->Y!,Scope->t_,Params->y_,wpAny_call_entry->L_,wpAny_newObj_type->U_,wpAny_typeNameOfWhole_keyiter->ĕ,wpAny_callSpecial?_slot->Ę,assign->Ĝ,sizeLine->ğ,Stmt->Ĩ,intKind_is->ĩ,NameKind->ĭ,wpAny_typeNameOf_keyiter->Ĳ,Operator->Ĺ,starEach->Ļ,builtinsNs->Ł,wpAny_mono->ł,Comprehension->Ō,OsState->ő,wpAny_Constant_int->Ŕ,Pos->ś,eqIsQuiet_byValue->Ţ,backTo->ţ,slot_dict_getitem->Ť,execs->Ũ,treeTable->Ŭ,call->ŭ,assignEach->ű,valueAt->Ŵ,notedBy->ŵ,Stmt->Ź,rawInt->ż,Result->Ž,Obj->Æ,wpAny_Name->È,call_meets->É,wpAny_binaryOp_repeat_ref->Ò,Env->Ó,intKind->Ô,keywordEach->Ø,slot_list_getitem->Ù,wpAny_sequenceKey->Ú,getMethod_builtin->Û,wpAny_dictEntries->Ü,behindInMarks->â,methodCallPos->ã,wpAny_getItem_list_slice->ä,compareOp->ë,noFill_tuple_add->ì,evalEach->î,wpAny_getItem_of->ï,concat_meets->ú,sysModules->ü,IsPart->ý,importedModules->π,wpAny_specialOf->τ,letOwnedTupleGo->φ,wpAny_dictEpoch->χ,wpAny_notOrdered_dict->Ι,wpAny_storeName_local->Κ,exec->Λ,wpAny_isOneOf_keyiter->Μ,callEnvC->Υ,excClassObj->aaf,compEnvC->aai,allTrue->aao,callWith_type->aat,pairTrees_cons_walk->aau,wpAny_setItem_pairs->aax,wpAny_Assign_stores->aaz,mem_of_lookup->aaH,seq_tuple_add->aaI,eval->aaL,typeIs_int->aaO,strKind_is->aaP,wpAny_rule->aaR,clipAt->aaU,call_meetsIn->aaV,pairTrees_nil_walk->aaW,stored->aaX,wpAny_pyIter_range->aaY,FuncData->aa5,backToKw->abf,wpAny_truthy_bool->abg,slot_list_setitem->abi,slot_dict_setitem->abj,wpAny_pyIter_slot->abk,codeAny->abl,wpAny_forIn_list->abw,eqIsQuiet->abx,wpAny_isInstance->aby,wpAny_Dict_empty->abA,storeName->abE,swapsWith->abF,wpAny_field->abK,wpAny_Slice->abL,slicePick_plain->abT,wpAny_Dict_walk->abU,wpAny_execs_nil->abV,setItem->abZ,reduceHash->ab3,CmpOp->ab4,wpAny_notIn_of->ab8,atKey->ab9,methodCallForm->acb,boolOp->ace,pyNext->acj,wpAny_fieldsOf->ack,wpAny_setField->acm,firstArgMember->acn,Flow->acv,UnaryOp->acw,wpAny_in_heap->acz,arm_eval_Call->acC,wpAny_release->acE,assignInOrder->acF,wpAny_attempt->acG,cLine->acL,seqIndex?->acM,Program->acQ,hashInt->acW,Builtin->acX,pyHash->acZ,isTrue->ac1,getItem->ac2,bindL->ac9,bindC->ada,loadName->adb,Reads->adf,ReadsAll->adg
open _root_.PySem.Value renaming ref->n?,type->r?,int->z?,none->T?,casesOn->n_,isInt->abM
open _root_.Or renaming inr->u?,inl->x?,elim->ĵ
open _root_.Nat renaming le_of_ble_eq_true->w?,le_refl->J?,le_trans->S?,lt_of_le_of_lt->w!,add_le_add_right->L!,lt_of_lt_of_le->P!,ble->T!,zero_le->w_,le_add_right->z_,add_le_add_left->C_,add_assoc->P_,ne_of_beq_eq_false->X_,lt_succ_self->Ē,blt->Ė,not_succ_le_zero->Ĭ,lt_irrefl->İ,add_sub_cancel_left->ĳ,le_of_succ_le_succ->ķ,sub_succ_lt_self->Ņ,add_comm->ņ,succ_pos->ň,not_lt->œ,zero_add->Š,le_of_succ_le->ŧ,succ_le_succ->Ů,beq->À,le_of_lt->Ã,le_of_lt_succ->Ý,min_eq_right->æ,le_of_not_lt->í,not_le_of_gt->õ,ne_of_lt->þ,sub_self->ξ,min_le_left->ς,min_eq_left->σ,le_add_left->ψ,add_le_of_le_sub->aak,add_lt_add_left->aaA,mul_le_mul_left->aaC,add_sub_cancel->aaK,sub_add_cancel->aa0,mul_succ->aa7,sub_zero->aa8,lt_or_ge->abb,succ_ne_zero->abD,le_succ->abO,lt_trans->ac5,ne_of_gt->ac6,not_le->adk
open _root_.PySem.Str renaming ofString->A?
open _root_.Array renaming length_toList->W?,toList_push->Ö,mem_toList_iff->Τ,toList_append->aar,forIn_toList->aaQ
open _root_.PySem.NameKind renaming free->a!,cell->g!,casesOn->Ş,casesOn->abt
open _root_.PySem.ScopeKind renaming function->b!
open _root_.PySem.Data renaming fields->d!,seq->Z!,dict->r_,casesOn->aaS
open _root_.PySem.Operator renaming BitAnd->o!,Mod->p!,Add->v!,casesOn->û
open _root_.And renaming elim->r!
open _root_.PySem.Builtin.Slice renaming slicePlaces->t!,sliceAdjust->h_,slicePartIndex->abS,sliceApplied->acf
open _root_.PySem.Expr renaming Name->x!,casesOn->H!
open _root_.PySem.Heap renaming get?_push_size->y!,lt_size->b_,get?_push_of_some->T_,get?_update_self->Ľ,SameBut->Ŝ,size_push->aah
open _root_.Option.some renaming inj->z!,injEq->Þ
open _root_.PySem.CmpOp renaming NotIn->E!,NotEq->J!,In->W!,Eq->I_,Lt->M_,casesOn->adj
open _root_.Exists renaming elim->Q!
open _root_.PySem.Builtin.Tuple renaming tupleHashOf->g_,tupleExact->ı,tupleItemsOf->Ì
open _root_.PySem.F renaming slot_dict_keyiterator_next->j_,slot_dict_get->ī,args_dict_keyiterator_next_1->ŉ,args_tuple_add_2->ō,entry_dict_keyiterator_next->ŏ,entry_tuple_add->ŗ,plainAttrs_dict->ř,slot_tuple_add->ş,slot_tuple_hash->š,slot_tuple_iterator_iter->Ŧ,type_dict_get->ũ,slot_tuple_mul->Ű,slot_int_rmul->ź,args_tuple_mul_2->Ë,entry_tuple_mul->Õ,args_dict_get_3->ð,entry_dict_get->ÿ,slot_dict_iter->μ,args_int_rmul_2->abc,slot_int_index->abu,entry_int_rmul->abv,fills_int_mul->abR
open _root_.PySem.W renaming piece_app->s_,boot_heap->ū,abs_get->aan,readsAllW_cons_inv->aa2,topFrame->aa6,absHeap_size->aba,readsAllW_nil_inv->abn,boot_drawn->ab2,boot_toks->acJ,SharedT->acR
open _root_.False renaming elim->x_
open _root_.PySem.Flow renaming next->G_,casesOn->ħ
open _root_.Ne renaming symm->N_
open _root_.Int renaming toNat_natCast->R_,natCast_nonneg->Ķ,eq_ofNat_of_zero_le->Ř,ofNat_lt->Å,ofNat_le->ø,toNat_of_nonneg->aaw,ofNat->abB,mul_one->abI,toNat_lt->acS,lt_trans->acT,ne_of_gt->acU,zero_add->acV,le_of_lt->acY,not_lt->adm
open _root_.PySem.Challenge renaming rw_xm0344_01->Ě,pw_xm0344_01->abQ
open _root_.ForInStep renaming yield->ĝ
open _root_.PySem.Heap.SameBut renaming update->Ġ
open _root_.PySem.PyData renaming depthAll->ĺ,canLayAll0->ľ,eqv->Ń,strOk->Â,keyHash->ab1,canLay0->ab7,eqvAll->acy,depth->ac0
open _root_.PySem.Const renaming casesOn->Ŋ
open _root_.PyProof.Rows renaming slot_tuple_getitem->ŕ,IsTup->Ŗ,tail_any->Ÿ,Subscript_->aaT,wpAny_operate'->acd,loadName_read->acA,subscriptTail->acD,seqObj->ac4,add_str->ade
open _root_.Eq renaming trans->Ŷ,mp->aci,symm->adq
open _root_.PySem.Calls renaming callWith_function->ŷ,callWith_builtin->Ż,getMethod_list_append->aa4,call_function_entry->abo,loadGlobal_builtin->abz,loadGlobal_global->abJ,evalArgs_plain->aca,spliced_cons->acB
open _root_.PySem.W.Fast renaming tw17119622794617984870->Á,tw10110043849684766642->aaD,tw14364793385576792824->aaE,te10110043849684766642->aaF,te14364793385576792824->aaG
open _root_.PySem.Builtin.Range renaming rangeFitsLong->Ä,rangeSize->ò,small->aay
open _root_.PySem.Builtin.List renaming listFitsIndex->Ê,listSubscript?->ab0,listTooLong->acx
open _root_.PySem.Heap.IsSliceOf renaming new->Í
open _root_.PySem.Expr.Attribute renaming elim->Ð
open _root_.PySem.Expr.Subscript renaming elim->Ñ
open _root_.PySem.Expr.ListComp renaming elim->ß
open _root_.PySem.Expr.DictComp renaming elim->à
open _root_.PySem.Expr.Constant renaming elim->á
open _root_.PySem.Expr.UnaryOp renaming elim->è
open _root_.PySem.Expr.SetComp renaming elim->é
open _root_.PySem.Expr.Starred renaming elim->ê
open _root_.PySem.Heap.DictOf renaming new->υ
open _root_.List.cons renaming injEq->ω
open _root_.PySem.Expr.Tuple renaming elim->Β
open _root_.PySem.Expr.Slice renaming elim->Γ
open _root_.PySem.SeqAt renaming compareEq_reads->Δ,compareNe_reads->Ε
open _root_.PySem.Value.type renaming elim->Η,inj->adt
open _root_.PySem.Builtin.Dict renaming showsAll->Ν
open _root_.PySem.UnaryOp renaming casesOn->Ξ
open _root_.PySem.Expr.Dict renaming elim->Φ
open _root_.PySem.Expr.Call renaming elim->Χ
open _root_.PySem.Expr.Name renaming elim->Ψ
open _root_.PySem.Expr.List renaming elim->Ω
open _root_.PySem.Obj renaming data_mapDictKeys->aag,isFreed_of_dict->aav,data_mapFields->aaZ,data_mapDict->abC,mapFields->acH,mapSeq->adn
open _root_.PySem.Expr.Set renaming elim->aap
open _root_.Function renaming comp_apply->aaB
open _root_.PySem.Stmt renaming casesOn->aaN
open _root_.PySem.AutoListH renaming list___mul___list_int_3->aa3
open _root_.PySem.Walks renaming range->abN,list->ado
open _root_.OfNat renaming ofNat->abP
open _root_.PySem.Stmt.FunctionDef renaming elim->abX
open _root_.PySem.Builtin renaming bitAnd->ab6
open _root_.List.Perm renaming refl->acg,cons->ach,swap->adu
open _root_.PySem.Stmt.ClassDef renaming elim->acs
open _root_.PySem.Builtin.Str renaming occurrences->acK
open _root_.PySem.Value.str renaming elim->ac8
open _root_.PySem.Data.func renaming elim->adh
open _root_.PySem.BoolOp renaming casesOn->adi
open _root_.List.Pairwise renaming nil->adp
open _root_.Prod renaming ext->ads
open _root_.Int.ofNat renaming inj->adv
def so:=@acP
def aaa:=@ĥ
def aab:=@i_
def aac:=@Nat.casesOn
local macro_rules
  | `(command| $d:declaration) => do
    let s := d.raw
    if s.getPos?.isNone || s[0][1].getNumArgs != 0 && s[1].getKind == ``Lean.Parser.Command.definition then Lean.Macro.throwUnsupported
    let s := Lean.Syntax.rewriteBottomUp (·.setInfo .none) s
    let k := s[1].getKind
    if k == ``Lean.Parser.Command.definition || k == ``Lean.Parser.Command.abbrev then
      return s.modifyArg 0 (·.setArg 4 (Lean.mkNullNode #[Lean.mkNode ``Lean.Parser.Command.noncomputable #[Lean.mkAtom "noncomputable"]]))
    return s
section
set_option maxHeartbeats 0
abbrev pw:acQ:=abQ
def et:g? Ź:=behindTheImports pw
def uo {α:Type} (d:α):g? α->m?->α
 |[],_=>d
 |a::_,0=>a
 |_::r,n+1=>uo d r n
def Xe:g? (g? Æ)->m?->Æ
 |[],_=>default
 |l::r,i=>bif Ė i (b? l) then uo default l i else Xe r (i - b? l)
def zB (k:m?):Ź:=uo default et k
def zM (k j:m?):Ź:=if h:(zB k).ctorIdx=2 then acs (zB k) h λZ Z Z b Z Z Z Z Z Z Z=>uo default b j else zB k
def WJ {α:Type} (d:α) (f:k!->Arguments->g? Ź->t_->ś->α) (s:Ź):α:=if h:s.ctorIdx=0 then abX s h λn a b Z Z Z c Z Z p=>f n a b c p else d
def yS (s:Q_) (t:m?):s?:=.str (A? s) t
def yE (P:y_) (s:Q_) (t:m?) (v:s?):R!:=⟨ab1 P (A? s),yS s t,v⟩
def zH (h k:C?) (t:m?) (v:s?):R!:=⟨h,z? k t,v⟩
def zT (l:g? s?):Æ:={cls:=r? "tuple",data:=Z! l.toArray}
def XJ:g? k!->m?->g? s?
 |[],_=>[]
 |s::r,t=>.str s t::XJ r (t+1)
def X4:m?->g? C?->g? s?
 |_,[]=>[]
 |t,v::r=>z? v t::X4 (t+1) r
def Y3 (i t u:m?):g? C?->g? R!
 |[]=>[]
 |v::r=>zH i i t (z? v u)::Y3 (i+1) (t+2) (u+1) r
def Zk (i t u:m?):g? C?->g? R!
 |[]=>[]
 |v::r=>zH v v u (z? i t)::Zk (i+1) (t+2) (u+1) r
def zI (P:y_):m?->g? (Q_×C?)->g? R!
 |_,[]=>[]
 |t,(s,v)::r=>yE P s (t+1) (z? v t)::zI P (t+2) r
def zC (s:Q_) (t l r:m?):Æ:={cls:=r? "code",data:=d! #[yS s t,yS s (t+1),yS "/claim/cut.py" (t+2),z? l 0,z? 0 0,z? 0 0,z? 0 0,z? 0 0,n? r,.bool f?,z? 181 0,n? (r+1),T?,T?,T?,T?,z? ((t+3:m?):C?) 0,z? l 0,yS "/claim/cut.py" (t+4)]}
def zF (a b c:m?) (v:s?):Æ:={cls:=r? "frame",slots:=#[d? (n? a),d? (n? b),d? (n? c),none,d? v,none,d? (n? 0)]}
def zD (c:s?) (l:g? R!) (n:m?):Æ:={cls:=c,data:=r_ l.toArray n}
def zK (s:Q_) (a n t u:m?):Æ:={cls:=r? "type",data:=.cls {name:=A? s,bases:=[r? "object"],mro:=[n? a,r? "object"],ns:=n,qualname:=A? s},slots:=#[none,none,d? (yS s t),d? (yS s u),d? (.builtin "object.__new__"),d? (.bool j?)]}
def XC (s:Ź) (q:k!) (g:m?) (m c:s?):aa5:=WJ default (λnm a b sc Z=>{name:=nm,qualname:=q,params:=a,body:=.stmts b,scope:=sc,globals:=g,closure:=[],defaults:=T?,kwdefaults:=T?,pyModule:=m,code:=c}) s
def XA (s:Ź):m?:=WJ 0 (λZ Z Z Z p=>p.line) s
def Vn (s:Ź):k!:=WJ Str.empty (λn Z Z Z Z=>n) s
def ZO (s:Ź):m?:=WJ 0 (λZ a Z Z Z=>b? a.args) s
def Zu (s:Ź):g? k!:=WJ [] (λZ a Z c Z=>(a.args.map (·.arg)).filter (λx=>c.names.lookup x== d? .local)++(c.names.filter λp=>p.2== .local&&!(a.args.map (·.arg)).contains p.1).map (·.1)) s
def XI (k:m?) (s:Ź):m?:=bif À k 3 then 0 else(Zu s).length
def Y4 (k:m?) (s:Ź) (q:k!) (a t:m?) (l:g? s?):Æ:={cls:=r? "code",data:=d! (([.str (Vn s) t,.str q (t+1),yS "/claim/cut.py" (t+2),z? (XA s) 0,z? (ZO s) 0,z? 0 0,z? 0 0,z? 3 0,n? a,.bool j?,z? 181 0,n? (a+1),T?]++(l++[z? ((t+3+XI k s:m?):C?) 0,z? (XA s) 0,yS "/claim/cut.py" (t+4+XI k s)])).toArray)}
def zG (s:Ź) (q:k!) (a t:m?) (m:s?):g? Æ:=
 [zT [],{cls:=T?,data:=d! #[]},zT (XJ (Zu s) (t+3)),zT [],{cls:=T?,data:=.func (XC s q 0 T? T?)},Y4 5 s q a t [n? (a+2),n? (a+3),n? (a+4)],{cls:=r? "function",data:=.func (XC s q 3 m (n? (a+5)))}]
def ZZ (s:Ź) (q:k!) (a t:m?) (m:s?):g? Æ:=
 [zT [],{cls:=T?,data:=d! #[]},{cls:=T?,data:=.func (XC s q 0 T? T?)},Y4 3 s q a t [T?,T?,n? (a+2)],{cls:=r? "function",data:=.func (XC s q 3 m (n? (a+3)))}]
def Vx (k:m?) (s:Ź) (t:m?):m?:=t+6+XI k s
def zR (m:s?):m?->m?->m?->m?->g? (g? Æ)
 |0,_,_,_=>[]
 |n+1,i,a,t=>zG (zB i) (Vn (zB i)) a t m::zR m n (i+1) (a+7) (Vx 5 (zB i) t)
def Vp (m:s?):m?->m?->m?->m?->g? (g? Æ)
 |0,_,_,_=>[]
 |n+1,i,a,t=>ZZ (zB i) (Vn (zB i)) a t m::Vp m n (i+1) (a+5) (Vx 3 (zB i) t)
def yF (P:y_) (k:m?) (s:Ź) (a t:m?):R!:=⟨ab1 P (Vn s),.str (Vn s) (t+5+XI k s),n? a⟩
def yo (P:y_) (k:m?):m?->m?->m?->m?->g? R!
 |0,_,_,_=>[]
 |n+1,i,a,t=>yF P k (zB i) (a+k+1) t::yo P k n (i+1) (a+k+2) (Vx k (zB i) t)
def zL (k:m?):m?->m?->m?->g? (m?×m?)
 |0,_,_=>[]
 |n+1,i,a=>(XA (zB i),a+k)::zL k n (i+1) (a+k+2)
def Zi (s:Q_) (l:g? s?):Æ:={cls:=r? "builtin_function_or_method",data:=d! (.builtin s::l).toArray}
def XT:Æ:=Zi "type.__prepare__" [r? "type"]
def Zo (s:Q_) (t r:m?) (l:g? s?):Æ:={cls:=r? "getset_descriptor",data:=d! (yS s t::n? r::l).toArray}
def Y6 (t r:m?):Æ:=Zo "__weakref__" t r [.builtin "ExceptionGroup.__weakref__",T?]
def YL (r:m?):Æ:={cls:=r? "super",data:=d! #[n? r,n? r,n? r]}
def Yf (r:m?):Æ:=Zi "object.__init_subclass__" [n? r]
def Y1 (s:Q_) (x:Ź):k!:=⟨((A? s).cps.toList++46::(Vn x).cps.toList).toArray⟩
def Zm (j:m?):m?->m?->m?->m?
 |0,_,t=>t
 |n+1,i,t=>Zm j n (i+1) (Vx 5 (zM j i) t)
def V4 (P:y_) (j:m?) (l:g? R!):m?->m?->m?->m?->g? R!
 |0,_,_,_=>l
 |n+1,i,a,t=>yF P 5 (zM j i) (a+6) t::V4 P j l n (i+1) (a+7) (Vx 5 (zM j i) t)
def Yc (j:m?):m?->m?->m?->g? s?
 |0,_,_=>[]
 |n+1,i,a=>z? (XA (zM j i)) 0::z? 4 0::n? (a+5)::Yc j n (i+1) (a+7)
def ZC (j:m?) (s:Q_) (m:s?) (l:g? (g? Æ)):m?->m?->m?->m?->g? (g? Æ)
 |0,_,_,_=>l
 |n+1,i,a,t=>zG (zM j i) (Y1 s (zM j i)) a t m::ZC j s m l n (i+1) (a+7) (Vx 5 (zM j i) t)
def Vu (P:y_) (m:s?) (t ln:m?) (l r:g? R!):g? R!:=yE P "__module__" t m::(l++yE P "__firstlineno__" (t+4) (z? ln (t+3))::r)
def YW (P:y_) (t:m?) (s:Q_):g? R!:=[yE P "__qualname__" (t+2) (yS s (t+1))]
def VA (P:y_) (u c:m?) (l:g? R!):g? R!:=yE P "__static_attributes__" u (n? c)::l
def Z5 (P:y_) (j:m?) (s:Q_) (m:s?) (t ln a n:m?) (at_:g? k!) (u c:m?):g? (g? Æ):=
 [zT [],XT,zD (r? "dict") (Vu P m t ln (YW P t s) (V4 P j (VA P u c []) n 0 (a+7) (t+5))) (4+n),zT [],{cls:=T?,data:=d! (Yc j n 0 (a+7)).toArray},zC s (t - 5) ln (a+3),zF (a+5) 3 (a+2) m]::
 ZC j s m [[zT (XJ at_ (u - b? at_)),zD (r? "dict") (Vu P m t ln [] (V4 P j (VA P u c [yE P "__dict__" (u+2) (n? (c+3)),yE P "__weakref__" (u+4) (n? (c+4)),yE P "__doc__" (u+5) T?]) n 0 (a+7) (t+5))) 4,zK s (c+2) (c+1) (t - 7) (t+1),
  Zo "__dict__" (u+1) (c+2) [.builtin "function.__dict__",.builtin "function.__dict__#set"],Y6 (u+3) (c+2),YL (c+2),Yf (c+2)]] n 0 (a+7) (t+5)
def UR (P:y_) (j:m?) (s:Q_) (m:s?) (t ln a n:m?) (at_:g? k!):g? (g? Æ):=Z5 P j s m t ln a n at_ (Zm j n 0 (t+5)+b? at_) (a+7+7 * n)
def Sl:s?:=yS "framerune.faults" 187
def T7:s?:=yS "framerune.kinds" 246
def Oe:s?:=yS "framerune.store" 650
def Y0:s?:=yS "framerune.kindline" 919
def QB:s?:=yS "framerune.kindrel" 1033
def ZG:s?:=yS "framerune.bounds" 1335
def zm6:s?:=yS "framerune.loader" 1445
def Gw:s?:=yS "law_xm0344_01" 1522
def ZH (s:Q_) (b m:g? s?) (n q t u:m?) (l:g? s?):Æ:={cls:=r? "type",data:=.cls {name:=A? s,bases:=b,mro:=m,ns:=n,qualname:=A? s,subclasses:=l},slots:=#[d? (n? q),none,d? (yS s t),d? (yS s u),d? (.builtin "Exception.__new__"),d? (.bool j?)]}
def V1:g? s?:=[n? 31,r? "Exception",r? "BaseException",r? "object"]
def Zf (l:g? s?):Æ:=ZH "RuneError" [r? "Exception"] V1 30 15 199 207 l
def Zt:g? C?:=[20,9,10,11,12,13,14,15,16,17,18,19,1,4]
def YZ:m?->g? (g? C?)->g? Æ
 |_,[]=>[]
 |t,l::r=>zT (X4 t l)::YZ (t+2) r
def Z3 (P:y_):g? (g? Æ):=
 [[zT [r? "Exception"],XT,zD (r? "dict") (Vu P Sl 206 7 (YW P 206 "RuneError") (V4 P 6 (VA P 222 29 []) 1 0 22 211)) 5,zT [],{cls:=T?,data:=d! (Yc 6 1 0 22).toArray},zC "RuneError" 201 7 18,zF 20 3 17 Sl],zG (zM 6 0) (Y1 "RuneError" (zM 6 0)) 22 211 Sl,[zT (XJ ["at","code"] 220),zD (r? "dict") (Vu P Sl 206 7 [] (V4 P 6 (VA P 222 29 [yE P "__weakref__" 224 (n? 32),yE P "__doc__" 225 T?]) 1 0 22 211)) 3,Zf [n? 44],Y6 223 31,YL 31,Yf 31,zT [n? 31],XT,zD (r? "dict") (Vu P Sl 237 12 (YW P 237 "BadKind") (VA P 242 42 [])) 4,zT [],{cls:=T?,data:=d! #[]},zC "BadKind" 232 12 38,zF 40 3 37 Sl,zT [],zD (r? "dict") (Vu P Sl 237 12 [] (VA P 242 42 [yE P "__doc__" 243 T?])) 2,ZH "BadKind" [n? 31] (n? 44::V1) 43 35 230 238 []],[YL 44,Yf 44,zD (r? "dict") (Y3 0 248 308 Zt) 14,zD (r? "dict") (Zk 0 248 337 Zt) 14]]++(
 UR P 43 "KindTable" T7 377 49 49 3 ["depths","index","opens","rows","weights"]++(
 zR T7 25 44 84 427++(
 UR P 87 "TypeDef" Oe 693 263 259 1 ["asm","base","bounds","cctor","events","fields","finaliser","flags","home","ifaces","impls","methods","name","params","props","sort","tid","under","variances"]++(
 UR P 88 "FieldDef" Oe 747 289 280 1 ["access","fid","flags","kind","name","owner","value"]++(
 UR P 89 "MethodDef" Oe 787 299 301 1 ["access","body","flags","gbounds","gnames","mid","name","native","ngen","owner","params","pflags","pnames","ret"]++(
 UR P 90 "Store" Oe 835 316 322 1 ["asms","entry","fields_","kt","methods","names","types"]++(
 zR Oe 6 91 343 862++(
 [[zT [(z? 1 676),(z? 2 678),(z? 3 680)],zD (r? "dict") [zH 4 4 256 (z? 3 254),zH 6 6 260 (z? 5 258),zH 8 8 264 (z? 7 262),zH 10 10 268 (z? 9 266)] 4]]++(
 zR Y0 11 101 387 927++(
 UR P 113 "StoreHost" QB 1042 445 464 7 ["bases","bounds","gflags","ifaces","kt","news","sorts","store","unders","variances"]++(
 zR QB 5 114 527 1122++(
 Vp QB 1 119 562 1174++(
 UR P 121 "Book" QB 1189 539 567 1 ["listed","pairs","proved","strict"]++(
 zR QB 11 122 588 1214++(
 zR ZG 9 134 665 1337++(
 zR zm6 6 144 728 1447++(
 [[zT [],zT [yS "c" 1524,z? 64 1525,n? 770],zT [],zT [yS "c" 1527,z? 65 1528,n? 772],zT [],zT [yS "c" 1530,z? 66 1531,n? 774],zT [],zT [yS "v" 1533,z? 68 1534,n? 776],zT [yS "p" 1536,z? 7 1537],zT [yS "p" 1539,z? 13 1540],zT [yS "p" 1542,z? 0 1543]],YZ 1545 [[2,0],[64,0],[65,0],[66,0],[67,1],[68,0],[69,1],[70,1],[71,1],[72,1],[73,0]],[zT ((l! 11).map λi=>n? (781+i)),zT (X4 1568 [1,1,3,2,0,1,5,2,3,1,4,1,1,15,7,11,1,9,2,3,2,14,1,1,16,0,3,4,12,2,1,17,8])]]++(
 Vp Gw 2 160 794 1602++(
 zR Gw 3 162 804 1614++(
 Vp Gw 1 165 825 1637++(
 zR Gw 8 166 830 1643++(
 Vp Gw 3 174 886 1729++(
 zR Gw 7 177 901 1747++(
 Vp Gw 2 184 950 1811++(
 zR Gw 2 186 960 1823)))))))))))))))))))))))))
def ZK (P:y_):g? R!:=[yE P "__doc__" 166 T?,yE P "__package__" 167 T?,yE P "__loader__" 168 (.builtin "__main__.__loader__#opaque"),yE P "__spec__" 169 T?,yE P "__annotations__" 170 (n? 6),yE P "__builtins__" 171 (n? 4),yE P "__file__" 173 (yS "/claim/cut.py" 172),yE P "__cached__" 174 T?]++(zI P 189 [("LF_NOTYPE",1),("LF_CIRCLE",2),("LF_BOUND",8),("LF_COUNT",9),("LF_KIND",15)]++([yE P "RuneError" 229 (n? 31),yE P "BadKind" 245 (n? 44)]++(zI P 248 [("VOID",0),("BOOL",1),("CHAR",2),("I1",3),("U1",4),("I2",5),("U2",6),("I4",7),("U4",8),("I8",9),("U8",10),("NINT",11),("OBJECT",12),("STRING",13),("NULLK",14),("BAD",15),("PRIM_END",16),("R_PRIM",1),("R_CLASS",2),("R_VALUE",3),("R_ARRAY",4),("R_BYREF",5),("R_VAR",6),("R_MVAR",7),("R_BOXED",8),("R_ROREF",9),("R_FTN",10),("R_RAW",11),("DEEPEST_KIND",24),("HEAVIEST_KIND",4096)]++([yE P "PRIM_TID" 336 (n? 47),yE P "TID_PRIM" 365 (n? 48)]++(zI P 366 [("ARRAY_TID",5),("NULLABLE_TID",8)]++([yE P "KindTable" 426 (n? 79)]++(yo P 5 25 44 84 427++(zI P 652 [("S_CLASS",1),("S_STRUCT",2),("S_IFACE",3),("S_ENUM",5),("TF_ABSTRACT",1),("VA_NONE",0),("VA_IN",2),("GB_CLASS",1),("GB_STRUCT",2),("GB_NEW",4),("MF_STATIC",1),("MF_CTOR",32),("T_OBJECT",1),("T_VALUETYPE",2),("T_ENUM",3),("T_ARRAY",5),("T_NULLABLE",8)]++([yE P "TypeDef" 739 (n? 275),yE P "FieldDef" 779 (n? 296),yE P "MethodDef" 827 (n? 317),yE P "Store" 861 (n? 338)]++(yo P 5 6 91 343 862++(zI P 917 [("A_PUBLIC",6)]++([yE P "VALUE_ROOTS" 921 (n? 385),yE P "SIGNED_TWIN" 926 (n? 386)]++(yo P 5 11 101 387 927++([yE P "StoreHost" 1121 (n? 522)]++(yo P 5 5 114 527 1122++(yo P 3 1 119 562 1174++(zI P 1180 [("MOST_QUESTIONS",512)]++([yE P "Book" 1213 (n? 583)]++(yo P 5 11 122 588 1214++(yo P 5 9 134 665 1337++(yo P 5 6 144 728 1447++([yE P "_law_A" 1526 (n? 771),yE P "_law_B" 1529 (n? 773),yE P "_law_I" 1532 (n? 775),yE P "_law_S" 1535 (n? 777),yE P "_law_INT" 1538 (n? 778),yE P "_law_TEXT" 1541 (n? 779),yE P "_law_VOID" 1544 (n? 780),yE P "_law_COUNTS" 1567 (n? 792),yE P "_law_FIRST" 1601 (n? 793)]++(yo P 3 2 160 794 1602++(yo P 5 3 162 804 1614++(yo P 3 1 165 825 1637++(yo P 5 8 166 830 1643++(yo P 3 3 174 886 1729++(yo P 5 7 177 901 1747++(yo P 3 2 184 950 1811++(yo P 5 2 186 960 1823))))))))))))))))))))))))))))))
def ZY:g? (m?×m?):=[(7,20),(12,40),(49,54)]++(zL 5 25 44 84++([(263,264),(289,285),(299,306),(316,327)]++(zL 5 6 91 343++(zL 5 11 101 387++([(445,469)]++(zL 5 5 114 527++(zL 3 1 119 562++([(539,572)]++(zL 5 11 122 588++(zL 5 9 134 665++(zL 5 6 144 728++(zL 3 2 160 794++(zL 5 3 162 804++(zL 3 1 165 825++(zL 5 8 166 830++(zL 3 3 174 886++(zL 5 7 177 901++(zL 3 2 184 950++(zL 5 2 186 960)))))))))))))))))))
def Zn:g? (m?×m?)->g? s?
 |[]=>[]
 |(a,b)::r=>z? a 0::z? 0 0::n? b::Zn r
def XO {α:Type}:m?->g? α->g? α
 |0,_=>[]
 |_,[]=>[]
 |n+1,a::r=>a::XO n r
def zO (P:y_) (m q:m?) (nm:s?) (e f:D?) (i:m?):Æ:=
 @Ç (λZ=>Æ)
  (@Ç (λZ=>Æ) (@Ç (λZ=>Æ) (@Ç (λZ=>Æ)
   (uo default [PySem.W.boot_o_0 P,PySem.W.boot_o_1 P,default,default,PySem.W.boot_o_4 P,PySem.W.boot_o_5 P,PySem.W.boot_o_6 P,PySem.W.boot_o_7 P,PySem.W.boot_o_8 P,PySem.W.boot_o_9 P,PySem.W.boot_o_10 P,zT [],default,zC "<module>" 182 1 11,zF 13 3 3 (yS "__main__" 164)] i)
   (@Ç (λZ=>Æ) (zD (T?) [yE P "type.__subclasses__.Exception.0" 226 (z? 31 0),yE P "type.__subclasses__.Exception.n" 227 (z? 1 0)] 2) {cls:=T?,data:=r_ #[]} e) (À i 2))
   {cls:=T?,data:=d! (Zn (XO q ZY)).toArray} (À i 12))
   (zD (r? "dict") (yE P "__name__" 165 nm::XO m (ZK P)) (m+1)) (À i 3))
  (@Ç (λZ=>Æ) (Xe (Z3 P) (i - 15)) (Zf (@Ç (λZ=>g? s?) [n? 44] [] f)) (À i 31))
  (T! 15 i)
def X8 (n:m?) (f:m?->Æ):m?->m?->m?->BT
 |0,_,_=>.nil
 |k+1,a,b=>@Ç (λZ=>BT) .nil (.node (f b) (X8 n f k (2 * a) (a+b)) (X8 n f k (2 * a) (2 * a+b))) (Ė b n)
def Y9 (P:y_) (n m q:m?) (nm:s?) (e f:D?):BT:=X8 n (zO P m q nm e f) 11 1 0
def wq:Ó:={scope:=pw.main.scope,locals:=mainNs,globals:=mainNs,cells:=[],code:=n? 13,frame:=d? 14}
def Zv {α:Type}:m?->g? α->g? α
 |0,l=>l
 |_,[]=>[]
 |n+1,_::r=>Zv n r
def zs (a n:m?):g? Ź:=XO n (Zv a et)
def zX (P:y_) (n m q:m?) (nm:s?) (k:m?) (os:ő):acR:=⟨Y9 P n m q nm (À n 15) (T! n 35),n,{},#[],{},k,os⟩
abbrev cB:Code:=.body et wq
abbrev p0:ś:=⟨0,0,0,0⟩
abbrev R1 (n:m?) (s:acR) (w:u!) (p:ś) (l:g? Ź):=aaD aaE pw w 11 (d? (n? 6)) 1 n s (piecesOf l wq cB p [aa6 p0])
def zg (i:m?):m?×m?×m?×s?×m?×ś×m?:=uo default [(15,8,0,yS "__main__" 164,187,p0,0),(35,14,1,Sl,230,⟨7,0,11,20⟩,7),(47,34,2,T7,286,⟨33,0,33,7⟩,28),(48,46,2,T7,337,⟨45,0,45,8⟩,40),(49,49,2,T7,370,⟨48,0,48,12⟩,43),(105,53,6,T7,449,⟨111,0,116,12⟩,47),(196,66,19,T7,561,⟨182,0,186,13⟩,60),(259,86,28,Oe,674,⟨256,0,256,9⟩,81),(280,93,29,Oe,740,⟨263,0,288,21⟩,88),(301,94,30,Oe,780,⟨289,0,298,25⟩,89),(322,95,31,Oe,828,⟨299,0,315,23⟩,90),(378,101,37,Oe,910,⟨361,0,371,54⟩,96),(443,113,46,Y0,1008,⟨427,0,436,30⟩,109),(464,116,49,QB,1035,⟨444,0,444,8⟩,113),(527,117,50,QB,1122,⟨445,0,482,43⟩,114),(567,124,56,QB,1182,⟨538,0,538,14⟩,121),(623,130,62,QB,1262,⟨564,0,570,20⟩,127),(700,141,73,ZG,1393,⟨682,0,687,12⟩,139),(774,153,83,Gw,1530,⟨818,0,818,6⟩,153),(844,168,91,Gw,1660,⟨873,0,882,12⟩,168),(922,180,103,Gw,1775,⟨977,0,984,22⟩,180),(974,188,111,Gw,1848,⟨1056,0,1067,15⟩,188)] i
abbrev zY (i:m?) (w:u!) (os:ő):acR:=zX w.params (zg i).1 (zg i).2.1 (zg i).2.2.1 (zg i).2.2.2.1 (zg i).2.2.2.2.1 os
abbrev zP (i:m?):ś:=(zg i).2.2.2.2.2.1
abbrev zW (i:m?):g? Ź:=zs (zg i).2.2.2.2.2.2 ((zg (i+1)).2.2.2.2.2.2 - (zg i).2.2.2.2.2.2)
abbrev RN (i n:m?):Prop:=∀w:u!,(λos=>R1 n (zY i w os) w (zP i) (zW i))=λos=>d? (G_,zY (i+1) w os,cB,zP (i+1))
theorem YV:RN 0 285:=by intro w;kernel_rfl
theorem Ya:RN 1 394:=by intro w;kernel_rfl
theorem YF:RN 2 306:=by refine byRow2 "special-get-raises" (λw=>?_) (λw=>?_)<;>kernel_rfl
theorem Ye:RN 3 225:=by refine byRow2 "special-get-raises" (λw=>?_) (λw=>?_)<;>kernel_rfl
theorem Yq:RN 4 387:=by intro w;kernel_rfl
theorem Yi:RN 5 399:=by intro w;kernel_rfl
theorem Yo:RN 6 396:=by intro w;kernel_rfl
theorem XX:RN 7 302:=by intro w;kernel_rfl
theorem YI:RN 8 234:=by intro w;kernel_rfl
theorem Yw:RN 9 242:=by intro w;kernel_rfl
theorem W9:RN 10 386:=by intro w;kernel_rfl
theorem V8:RN 11 391:=by refine byRow2 "special-get-raises" (λw=>?_) (λw=>?_)<;>kernel_rfl
theorem VT:RN 12 101:=by intro w;kernel_rfl
theorem W0:RN 13 425:=by intro w;kernel_rfl
theorem VG:RN 14 198:=by intro w;kernel_rfl
theorem VU:RN 15 384:=by intro w;kernel_rfl
theorem VF:RN 16 381:=by intro w;kernel_rfl
theorem Xd:RN 17 394:=by intro w;kernel_rfl
theorem Wb:RN 18 390:=by intro w;kernel_rfl
theorem Wc:RN 19 374:=by intro w;kernel_rfl
theorem WD:RN 20 246:=by intro w;kernel_rfl
end
section
set_option maxHeartbeats 0
abbrev row:OpenRow:=Ě.row
def view:acQ:={pw with main:={pw.main with body:=pw.main.body.drop 187}}
def tD (P:y_):BT:=Y9 P 974 188 111 Gw f? f?
def H1 (P:y_):Y!:=absHeap (tD P) 974 {}
def fB:g? k!:=(pw.main.scope.names.map (·.1)).filter λn=>n != ("law":k!)&&!startupNames.contains n
def S0 (w:u!) (os:ő):y?:=⟨ū w.params,#[],ab2,acJ,os⟩
def Sb (w:u!) (os:ő):y?:=(zY 0 w os).abs
def Sk (w:u!) (os:ő):y?:=(zY 21 w os).abs
theorem pre (w:u!) (os:ő):topGo Ŭ pw w 11 (d? (n? 6)) 12 (S0 w os) (topStub pw)=
  d? (Sb w os,⟨denote Ŭ (.body et wq),.body et wq,p0,[aa6 p0]⟩):=by
 kernel_rfl
theorem ZN (w:u!) (os:ő):segRun Ŭ pw w 11 (d? (n? 6)) 1 1 (Sb w os) (blockOf et wq (.body et wq) p0 [aa6 p0])=
  d? (G_,Sb w os,.body et wq,p0):=by
 kernel_rfl
theorem Yg (w:u!) (os:ő):topRun Ŭ pw w 11 (d? (n? 6)) 2 (Sk w os) ⟨doneF G_,.body et wq,zP 21,[aa6 p0]⟩=d? (Sk w os):=by
 kernel_rfl
theorem O6:zW 0++(zW 1++(zW 2++(zW 3++(zW 4++(zW 5++(zW 6++(zW 7++(zW 8++(zW 9++(zW 10++(zW 11++(zW 12++(zW 13++(zW 14++(zW 15++(zW 16++(zW 17++(zW 18++(zW 19++(zW 20++[]))))))))))))))))))))=et:=by kernel_rfl
theorem bQ {n:m?} {s s':ő->acR} {w:u!} {p q:ś} {l:g? Ź} (h:(λos=>R1 n (s os) w p l)=λos=>d? (G_,s' os,cB,q)) (os:ő) :
  segRun Ŭ pw w 11 (d? (n? 6)) 1 n (s os).abs (piecesOf l wq cB p [aa6 p0])=d? (G_,(s' os).abs,cB,q):=by
 have h:=congrFun h os;refine segRun_of ?_;rw[aaF,aaG];exact h
theorem Z6 (w:u!) (os:ő):topRun Ŭ pw w 11 (d? (n? 6)) 6855 (S0 w os) (topStub pw)=d? (Sk w os):=by
 have h:=piece_nil (env:=wq) (Yg w os);have h:=s_ (bQ (WD w) os) h;have h:=s_ (bQ (Wc w) os) h;have h:=s_ (bQ (Wb w) os) h;have h:=s_ (bQ (Xd w) os) h;have h:=s_ (bQ (VF w) os) h;have h:=s_ (bQ (VU w) os) h;have h:=s_ (bQ (VG w) os) h;have h:=s_ (bQ (W0 w) os) h;have h:=s_ (bQ (VT w) os) h;have h:=s_ (bQ (V8 w) os) h;have h:=s_ (bQ (W9 w) os) h;have h:=s_ (bQ (Yw w) os) h;have h:=s_ (bQ (YI w) os) h;have h:=s_ (bQ (XX w) os) h;have h:=s_ (bQ (Yo w) os) h;have h:=s_ (bQ (Yi w) os) h;have h:=s_ (bQ (Yq w) os) h;have h:=s_ (bQ (Ye w) os) h;have h:=s_ (bQ (YF w) os) h;have h:=s_ (bQ (Ya w) os) h;have h:=s_ (bQ (YV w) os) h;rw[O6] at h;refine Ŷ (R? (λn=>topRun Ŭ pw w 11 (d? (n? 6)) n (S0 w os) (topStub pw)) ?_) (go_top (pre w os) (piece_block (ZN w os) h))
 decide
theorem opened:∀w:u!,(fencedOpening Ŭ pw w 7000).map (λs=>(s.heap,s.gens,s.drawn,s.toks))=d? (ū w.params,Array.mk [],ab2,acJ):=
 boot_open (by kernel_rfl) (by decide) (λs=>by kernel_rfl)
theorem V6:∀w:u!,((ū w.params).isNs I!&&(#[]:O_ GenState).size== 0,(ū w.params).objs.size,(ū w.params).nsMap I! "__annotations__")=(j?,11,d? (n? 6)):=by
 intro w
 kernel_rfl
theorem Xm (w:u!) (os:ő):(staticsOk (π pw.main.body) (ū w.params) (H1 w.params)&&namesBound pw (H1 w.params)&&gensDone ⟨H1 w.params,#[],{},1848,os⟩&&laidKept (ū w.params) (H1 w.params))=j?:=by
 kernel_rfl
theorem Xc (w:u!) (os:ő):openSeen view fB (π pw.main.body) (λ_=>j?) j? ⟨H1 w.params,#[],{},1848,os⟩=openGood view fB:=by
 kernel_rfl
theorem VK:LeftO pw view fB (λ_=>j?) (λs=>s.heap) (λw=>H1 w.params) 7000 j?:=
 LeftO.of_pieces (H₀:=ū) (H₁:=H1) (gs₀:=#[]) (gs₁:=#[]) (d₀:=ab2) (d₁:={}) (k₀:=acJ) (k₁:=1848) (m₀:=11) (ann:=d? (n? 6)) (M:=6855)
  opened V6 (λw os=>Z6 w os) (by decide)
  (λw=>funext λos=>ads (Xm w os) (ads (Xc w os) rfl))
def iw:DefRec:=(recsOf view).headD ⟨"",default,[],default,default⟩
theorem YE:defOf view row.name=d? (iw,[]):=by kernel_rfl
theorem hp:row.prog.theDef row.name=d? (iw.params,iw.body,iw.scope):=by kernel_rfl
theorem hk:kwWritten? iw.params.kwonlyargs iw.params.kw_defaults=d? []:=by kernel_rfl
theorem ZX:(chainsOk view&&opensWell row.prog&&(frees row.toRowW&&row.within.isEmpty))=j?:=by kernel_rfl
theorem QE:row.prog.bare:=⟨rfl,rfl,rfl,rfl,rfl,by kernel_rfl⟩
theorem wK:row.toRowW.promised:=⟨[.list []],by decide+kernel,by decide+kernel⟩
def YP (w:u!) (h:Y!):Prop:=∀b o,(H1 w.params).get? b=d? o->h.get? b=d? o
abbrev Walk:Prop:=WalkO view fB (λ_ _=>ŀ) YP row.toRowW iw [] λf vs=>ŭ f vs
abbrev DM:OpenLaw:=Ě
theorem w1:namesResolve DM.row.prog=j?:=by kernel_rfl
theorem w2:Fast.tw8326940854005059898 {strict:=!(π DM.row.prog.main.body).all cThrough.contains,foot:=none,bare:=(["vars","dir","locals"]:g? k!).filter (readsOut DM.row.prog DM.row.prog.main.body)} DM.row.prog.main.body=j?:=by kernel_rfl
theorem w3:(Á DM.row.prog DM.row.prog.main.body λ_ n=>attrL n)=j?:=by kernel_rfl
theorem w4:(Á DM.prog DM.above λ_ n=>!DM.own.contains n)=j?:=by kernel_rfl
theorem w5:(DM.bound'.all λn=>!Fast.qNamed n||DM.about== [n]||!DM.reads n)=j?:=by kernel_rfl
theorem well:DM.wellSaid=j?:=by
 delta OpenLaw.wellSaid OpenRow.wellSaid OpenRow.partSaid looksOpen
 rw[Fast.te8326940854005059898,Fast.te17119622794617984870,Fast.te8179353310426384613,Fast.te9558739934217749035,Fast.te16286561074155671207,Fast.te10501279942588096481,Fast.named_eq]
 repeat' with_reducible refine look_both ?_ ?_
 all_goals first|with_reducible exact w1|with_reducible exact w2|with_reducible exact w3|with_reducible exact w4|with_reducible exact w5|kernel_rfl
theorem UZ (walk:Walk):Ě.Holds:=by
 exact holds_law well λsaid=>PySem.W.holds_open (r:=row) (q:=view) (loose:=fB) (Xt:=λ_=>j?) (XP:=λ_ _=>ŀ) VK (λw s e=>λb o h=>by rw[show s.heap=H1 w.params from e];exact h) (λw h h' y k b o e=>k _ _ (y b o e))
  (λ_ _=>trivial) (λ_ _ _ _ _=>trivial) YE hp hk (λs _=>recFacts_nil rfl) (by rfl) said ZX QE wK walk
end
theorem nS {α:Type} {a:α} {P:Prop} (h:e?=d? a):P:=nomatch h
theorem nB {P:Prop} (h:f?=j?):P:=nomatch h
theorem Ni {P:Prop} (h:∀G:Prop,(P->G)->G):P:=h P id
theorem Ug {a d n c j:m?} (h:a+c * (d+1)<n) (e:T! j c=j?):a+j+c * d<n:=w! (by rw[aa7,ņ _ c,<- P_];exact L! (C_ (w? e) _) _) h
theorem Xg {a d n c j:m?} (hd:1<=d) (h:a+c * d<n) (e:T! j c=j?):a+j+c * (d - 1)<n:=by
 induction d using aac with
 |zero=>exact absurd hd (Ĭ _)
 |succ d=>exact Ug h e
theorem Xs {a x n k:m?} (h:a+x<n) (e:T! n k=j?):a<k:=P! (w! (z_ _ _) h) (w? e)
theorem PZ {u c x d m n:m?} (h:x<=m) (g:u+n<c) (e:T! m n=j?):u+min x d<c:=w! (C_ (S? (S? (ς _ _) h) (w? e)) _) g
theorem Yk {u c x d m n:m?} (h:x<=m) (g:u+n<c) (e:T! (m+1) n=j?):u+min (x+1) (d+1)<c:=PZ (Ů h) g e
theorem VH {u c x d m n:m?} (h:d<=m) (g:u+n<c) (e:T! (m+1) n=j?):u+1+min x d<c:=w! (by rw[P_,ņ 1];exact C_ (S? (Ů (S? (Nat.min_le_right _ _) h)) (w? e)) _) g
theorem VX {a n m c k:m?} (h:n<=k) (g:a<m) (e:T! (m+k) c=j?):a+n<c:=P! (Nat.add_lt_add_of_lt_of_le g h) (w? e)
theorem WG {u c n:m?} (h:u+n<c) {m:m?} (e:T! m n=j?):u+m<c:=w! (C_ (w? e) _) h
theorem ny {j n:m?} (h:j<=n) (e:n - j=0):j=n:=Nat.le_antisymm h (Nat.le_of_sub_eq_zero e)
theorem TH {k:C?} {n m:m?} (h:0<=k) (g:k<n) (e:n=m):k.toNat<m:=e▸(acS h).mpr g
theorem Wy {x:C?} (h:x<100000):x<2 ^ 64:=acT h (by decide)
theorem VV {x:C?} (h:0<=x):-2 ^ 64<x:=Int.lt_of_lt_of_le (by decide) h
theorem WB {y:C?} (h:0<y):¬y=0:=acU h
theorem YS {n k:m?} (h:k<n):(((n:C?) - 1)+(k:C?) * (-1)).toNat=n - 1 - k:=by
 obtain⟨r,rfl⟩:=Nat.exists_eq_add_of_lt h;rw[Int.mul_neg,abI,aaK,ĳ];show(((k+r:m?):C?)+1 - 1+ -(k:C?)).toNat=r;rw[Int.add_sub_cancel,Int.natCast_add,Int.add_comm (k:C?),Int.add_neg_cancel_right,R_]
theorem YM {k:m?}:((0:C?)+(k:C?) * 1).toNat=k:=by rw[acV,abI,R_]
theorem ZS {b n:m?}:min (b:C?) n=((min b n:m?):C?):=by
 rcases Nat.le_total b n with h|h
 ·rw[σ h,Int.min_eq_left (ø.mpr h)]
 ·rw[æ h,Int.min_eq_right (ø.mpr h)]
theorem fP {A B C P:Prop} (h:A/\B/\C) (k:A->B->C->P):P:=by obtain⟨a,b,c⟩:=h;exact k a b c
theorem U9 {A B C D P:Prop} (h:A/\B/\C/\D) (k:A->B->C->D->P):P:=by obtain⟨a,b,c,d⟩:=h;exact k a b c d
theorem X9 {A B C D E P:Prop} (h:A/\B/\C/\D/\E) (k:A->B->C->D->E->P):P:=by obtain⟨a,b,c,d,e⟩:=h;exact k a b c d e
theorem bf {α:Type} {A B:α->Prop} {P:Prop} (h:∃x,A x/\B x) (k:∀x,A x->B x->P):P:=by obtain⟨x,a,b⟩:=h;exact k x a b
theorem jU {α:Type} {A B C:α->Prop} {P:Prop} (h:∃x,A x/\B x/\C x) (k:∀x,A x->B x->C x->P):P:=by obtain⟨x,a,b,c⟩:=h;exact k x a b c
theorem Lw {α:Type} {A B C D:α->Prop} {P:Prop} (h:∃x,A x/\B x/\C x/\D x) (k:∀x,A x->B x->C x->D x->P):P:=by obtain⟨x,a,b,c,d⟩:=h;exact k x a b c d
theorem XZ {α:Type} {A B C D E:α->Prop} {P:Prop} (h:∃x,A x/\B x/\C x/\D x/\E x) (k:∀x,A x->B x->C x->D x->E x->P):P:=by obtain⟨x,a,b,c,d,e⟩:=h;exact k x a b c d e
theorem Vy {α:Type} {A B C D E F:α->Prop} {P:Prop} (h:∃x,A x/\B x/\C x/\D x/\E x/\F x) (k:∀x,A x->B x->C x->D x->E x->F x->P):P:=by obtain⟨x,a,b,c,d,e,f⟩:=h;exact k x a b c d e f
theorem zp {α β:Type} {A:α->β->Prop} {P:Prop} (h:∃x y,A x y) (k:∀x y,A x y->P):P:=by obtain⟨x,y,a⟩:=h;exact k x y a
theorem pq {α β:Type} {A B:α->β->Prop} {P:Prop} (h:∃x y,A x y/\B x y) (k:∀x y,A x y->B x y->P):P:=by obtain⟨x,y,a,b⟩:=h;exact k x y a b
theorem fL {α β:Type} {A B C:α->β->Prop} {P:Prop} (h:∃x y,A x y/\B x y/\C x y) (k:∀x y,A x y->B x y->C x y->P):P:=by obtain⟨x,y,a,b,c⟩:=h;exact k x y a b c
theorem DI {α β:Type} {A B C D:α->β->Prop} {P:Prop} (h:∃x y,A x y/\B x y/\C x y/\D x y) (k:∀x y,A x y->B x y->C x y->D x y->P):P:=by obtain⟨x,y,a,b,c,d⟩:=h;exact k x y a b c d
theorem Mk {α β:Type} {A B C D E:α->β->Prop} {P:Prop} (h:∃x y,A x y/\B x y/\C x y/\D x y/\E x y) (k:∀x y,A x y->B x y->C x y->D x y->E x y->P):P:=by obtain⟨x,y,a,b,c,d,e⟩:=h;exact k x y a b c d e
theorem ZU {α β γ:Type} {A:α->β->γ->Prop} {P:Prop} (h:∃x y z,A x y z) (k:∀x y z,A x y z->P):P:=by obtain⟨x,y,z,a⟩:=h;exact k x y z a
theorem Hv {α β γ:Type} {A B:α->β->γ->Prop} {P:Prop} (h:∃x y z,A x y z/\B x y z) (k:∀x y z,A x y z->B x y z->P):P:=by obtain⟨x,y,z,a,b⟩:=h;exact k x y z a b
theorem Pc {α β γ:Type} {A B C:α->β->γ->Prop} {P:Prop} (h:∃x y z,A x y z/\B x y z/\C x y z) (k:∀x y z,A x y z->B x y z->C x y z->P):P:=by obtain⟨x,y,z,a,b,c⟩:=h;exact k x y z a b c
theorem Z0 {α β γ:Type} {A B C D:α->β->γ->Prop} {P:Prop} (h:∃x y z,A x y z/\B x y z/\C x y z/\D x y z) (k:∀x y z,A x y z->B x y z->C x y z->D x y z->P):P:=by obtain⟨x,y,z,a,b,c,d⟩:=h;exact k x y z a b c d
theorem ZJ {α β γ:Type} {A B C D E:α->β->γ->Prop} {P:Prop} (h:∃x y z,A x y z/\B x y z/\C x y z/\D x y z/\E x y z) (k:∀x y z,A x y z->B x y z->C x y z->D x y z->E x y z->P):P:=by obtain⟨x,y,z,a,b,c,d,e⟩:=h;exact k x y z a b c d e
theorem Zh {α β γ δ:Type} {A:α->β->γ->δ->Prop} {P:Prop} (h:∃x y z u,A x y z u) (k:∀x y z u,A x y z u->P):P:=by obtain⟨x,y,z,u,a⟩:=h;exact k x y z u a
theorem XN {α β γ δ:Type} {A B C D:α->β->γ->δ->Prop} {P:Prop} (h:∃x y z u,A x y z u/\B x y z u/\C x y z u/\D x y z u) (k:∀x y z u,A x y z u->B x y z u->C x y z u->D x y z u->P):P:=by obtain⟨x,y,z,u,a,b,c,d⟩:=h;exact k x y z u a b c d
set_option tactic.hygienic false
local macro_rules
  | `(tactic| show $x) => `(tactic| refine $x)
local macro_rules
  | `(tactic| cases $x using $e:ident $a:inductionAlts) => `(tactic| induction $x using $e:ident $a:inductionAlts)
  | `(tactic| cases $x using $e:ident) => `(tactic| induction $x using $e:ident)
local macro_rules
  | `(tactic| cases $h:ident) => `(tactic| first | exact nS $h | exact nB $h | subst $h | (replace $h := Option.some.inj $h; cases $h:ident) | exact nS (Eq.symm $h) | exact nB (Eq.symm $h) | (injection $h with e1 e2 e3; cases e1; cases e2; cases e3) | (injection $h with e1 e2; cases e1; cases e2) | (injection $h with e1; cases e1) | cases ($h))
inductive V where
 |none|bool (b:D?)|int (i:C?)|str (s:k!)|tup (l:g? V)|ref (n:m?)|glob (a:e!)
def aad:=@V.casesOn
def V.ctorIdx (v:V):m?:=V.casesOn v 0 (λZ=>1) (λZ=>2) (λZ=>3) (λZ=>4) (λZ=>5) (λZ=>6)
mutual
noncomputable def V.beq (a b:V):D?:=match a with
 |.none=>V.casesOn b j? (λZ=>f?) (λZ=>f?) (λZ=>f?) (λZ=>f?) (λZ=>f?) (λZ=>f?)
 |.bool a=>V.casesOn b f? (λb=>a== b) (λZ=>f?) (λZ=>f?) (λZ=>f?) (λZ=>f?) (λZ=>f?)
 |.int a=>V.casesOn b f? (λZ=>f?) (λb=>a== b) (λZ=>f?) (λZ=>f?) (λZ=>f?) (λZ=>f?)
 |.str a=>V.casesOn b f? (λZ=>f?) (λZ=>f?) (λb=>a== b) (λZ=>f?) (λZ=>f?) (λZ=>f?)
 |.tup a=>V.casesOn b f? (λZ=>f?) (λZ=>f?) (λZ=>f?) (λb=>V.pJ a b) (λZ=>f?) (λZ=>f?)
 |.ref a=>V.casesOn b f? (λZ=>f?) (λZ=>f?) (λZ=>f?) (λZ=>f?) (λb=>a== b) (λZ=>f?)
 |.glob a=>V.casesOn b f? (λZ=>f?) (λZ=>f?) (λZ=>f?) (λZ=>f?) (λZ=>f?) (λb=>a== b)
noncomputable def V.pJ (l m:g? V):D?:=match l with
 |[]=>m.isEmpty
 |a::l=>i_ m f? λb m=>V.beq a b&&V.pJ l m
end
theorem V.Mg (b:V):V.none.beq b=b.casesOn j? (λ(Z:D?)=>f?) (λ(Z:C?)=>f?) (λ(Z:k!)=>f?) (λ(Z:g? V)=>f?) (λ(Z:m?)=>f?) λ(Z:e!)=>f?:=rfl
theorem V.AF (b:V) (a:D?):(V.bool a).beq b=b.casesOn f? (λ(b:D?)=>a== b) (λ(Z:C?)=>f?) (λ(Z:k!)=>f?) (λ(Z:g? V)=>f?) (λ(Z:m?)=>f?) λ(Z:e!)=>f?:=rfl
theorem V.rx (b:V) (a:C?):(V.int a).beq b=b.casesOn f? (λ(Z:D?)=>f?) (λ(b:C?)=>a== b) (λ(Z:k!)=>f?) (λ(Z:g? V)=>f?) (λ(Z:m?)=>f?) λ(Z:e!)=>f?:=rfl
theorem V.Mf (b:V) (a:k!):(V.str a).beq b=b.casesOn f? (λ(Z:D?)=>f?) (λ(Z:C?)=>f?) (λ(b:k!)=>a== b) (λ(Z:g? V)=>f?) (λ(Z:m?)=>f?) λ(Z:e!)=>f?:=rfl
theorem V.CC (b:V) (a:g? V):(V.tup a).beq b=b.casesOn f? (λ(Z:D?)=>f?) (λ(Z:C?)=>f?) (λ(Z:k!)=>f?) (λ(b:g? V)=>V.pJ a b) (λ(Z:m?)=>f?) λ(Z:e!)=>f?:=rfl
theorem V.Me (b:V) (a:m?):(V.ref a).beq b=b.casesOn f? (λ(Z:D?)=>f?) (λ(Z:C?)=>f?) (λ(Z:k!)=>f?) (λ(Z:g? V)=>f?) (λ(b:m?)=>a== b) λ(Z:e!)=>f?:=rfl
theorem V.KJ (b:V) (a:e!):(V.glob a).beq b=b.casesOn f? (λ(Z:D?)=>f?) (λ(Z:C?)=>f?) (λ(Z:k!)=>f?) (λ(Z:g? V)=>f?) (λ(Z:m?)=>f?) λ(b:e!)=>a== b:=rfl
mutual
theorem V.beq_eq:∀a b:V,V.beq a b=j?->a=b
 |.none,b=>λh=>by cases b using aad<;>first|rfl|exact nB h
 |.bool a,b=>λh=>by cases b using aad<;>first|exact R? V.bool (U?.mp h)|exact nB h
 |.int a,b=>λh=>by cases b using aad<;>first|exact R? V.int (U?.mp h)|exact nB h
 |.str a,b=>λh=>by cases b using aad<;>first|exact R? V.str (U?.mp h)|exact nB h
 |.tup a,b=>λh=>by cases b using aad<;>first|exact R? V.tup (V.vn _ _ h)|exact nB h
 |.ref a,b=>λh=>by cases b using aad<;>first|exact R? V.ref (U?.mp h)|exact nB h
 |.glob a,b=>λh=>by cases b using aad<;>first|exact R? V.glob (U?.mp h)|exact nB h
theorem V.vn:∀a b:g? V,V.pJ a b=j?->a=b
 |[],b=>λh=>by cases b using aab<;>first|rfl|exact nB h
 |a::l,b=>λh=>by
  cases b using aab with
  |nil=>exact nB h
  |cons b m=>rw[V.beq_eq a b (t?.mp h).1,V.vn l m (t?.mp h).2]
end
mutual
theorem V.iC:∀a:V,V.beq a a=j?
 |.none=>rfl
 |.bool a=>K_ a
 |.int a=>K_ a
 |.str a=>K_ a
 |.tup a=>V.qI a
 |.ref a=>K_ a
 |.glob a=>K_ a
theorem V.qI:∀a:g? V,V.pJ a a=j?
 |[]=>rfl
 |a::l=>t?.mpr ⟨V.iC a,V.qI l⟩
end
theorem V.beq_iff (a b:V):V.beq a b=j?↔a=b:=⟨V.beq_eq a b,λh=>h▸V.iC a⟩
theorem V.xS (a b:g? V):V.pJ a b=j?↔a=b:=⟨V.vn a b,λh=>h▸V.qI a⟩
@[reducible] noncomputable def V.decEq:u_ V:=λa b=>decidable_of_iff _ (V.beq_iff a b)
theorem V.BY (a b:V):V.beq a b= @decide (a=b) (V.decEq a b):=by
 cases h:V.beq a b
 ·exact(@ě _ (V.decEq a b) (λe=>by rw[(V.beq_iff a b).mpr e] at h;cases h)).symm
 ·exact(@Ħ _ (V.decEq a b) ((V.beq_iff a b).mp h)).symm
def V.pl:m?->V->D?
 |0,v=>V.casesOn v f? (λZ=>f?) (λZ=>j?) (λs=>Â s) (λZ=>f?) (λZ=>f?) (λZ=>f?)
 |n+1,v=>V.casesOn v f? (λZ=>f?) (λZ=>j?) (λs=>Â s) (λl=>l.all (V.pl n)) (λZ=>f?) (λZ=>f?)
inductive Pl:m?->V->Prop
 |int (n i):Pl n (.int i)
 |str (n) {s:k!}:Â s=j?->Pl n (.str s)
 |tup {n:m?} {l:g? V}:l.all (V.pl n)=j?->Pl (n+1) (.tup l)
theorem Pl.of {n:m?} {v:V} (h:V.pl n v=j?):Pl n v:=by
 cases n using aac<;>cases v using aad<;>first|exact(O? h).elim|exact .int _ _|exact .str _ h|exact .tup h
def V.plain (v:V):D?:=V.pl 60 v
def V.cO (l:g? V):D?:=l.all V.plain
inductive ā where
 |list (xs:g? V)
 |dictI (kvs:g? (C?×V))
 |dictS (kvs:g? (k!×V))
 |dJ (kvs:g? (V×V))
 |inst (c:e!) (fs:g? (k!×V))
 |dead
def ā.ctorIdx (c:ā):m?:=ā.casesOn c (λZ=>0) (λZ=>1) (λZ=>2) (λZ=>3) (λZ Z=>4) 5
abbrev Hp:=g? ā
abbrev ć:=g? (e!×e!)
abbrev Ă:=g? (p? V)
mutual
inductive VR (ι:ć) (h:Y!):V->s?->Prop
 |none:VR ι h .none T?
 |bool (b:D?):VR ι h (.bool b) (.bool b)
 |int (i:C?) (t:Tok):VR ι h (.int i) (z? i t)
 |str (s:k!) (t:Tok):VR ι h (.str s) (.str s t)
 |tup {l:g? V} {vs:O_ s?} {a:e!}:Ŗ h a vs->bJ ι h l vs.toList->VR ι h (.tup l) (n? a)
 |ref {n:m?} {a d:e!}:ι[n]? = d? (a,d)->VR ι h (.ref n) (n? a)
 |glob (a:e!):VR ι h (.glob a) (n? a)
inductive bJ (ι:ć) (h:Y!):g? V->g? s?->Prop
 |nil:bJ ι h [] []
 |cons {v:V} {v':s?} {l:g? V} {l':g? s?}:VR ι h v v'->bJ ι h l l'->bJ ι h (v::l) (v'::l')
end
theorem VR.none_inv {ι:ć} {h:Y!} {v:s?} (x:VR ι h .none v):v=T?:=by cases x;rfl
theorem VR.bool_inv {ι:ć} {h:Y!} {b:D?} {v:s?} (x:VR ι h (.bool b) v):v= .bool b:=by cases x;rfl
theorem VR.int_inv {ι:ć} {h:Y!} {i:C?} {v:s?} (x:VR ι h (.int i) v):∃t,v=z? i t:=by cases x;exact⟨_,rfl⟩
theorem VR.str_inv {ι:ć} {h:Y!} {i:k!} {v:s?} (x:VR ι h (.str i) v):∃t,v= .str i t:=by cases x;exact⟨_,rfl⟩
theorem VR.mi {ι:ć} {h:Y!} {a:e!} {v:s?} (x:VR ι h (.glob a) v):v=n? a:=by cases x;rfl
theorem VR.jY {ι:ć} {h:Y!} {n:m?} {v:s?} (x:VR ι h (.ref n) v):∃a d,ι[n]? = d? (a,d)/\v=n? a:=by cases x with|ref e=>exact⟨_,_,e,rfl⟩
theorem VR.Qv {ι:ć} {h:Y!} {n:m?} {v:V} {b:s?} {P:V->s?->Prop} (H:V.pl n v=j?) (r:VR ι h v b) (ki:∀i t,P (.int i) (z? i t)) (ks:∀s t,P (.str s) (.str s t))
  (k:∀m l a vs,n=m+1->l.all (V.pl m)=j?->Ŗ h a vs->bJ ι h l vs.toList->P (.tup l) (n? a)):P v b:=by
 cases r with
 |int i t=>exact ki i t
 |str s t=>exact ks s t
 |tup t c=>
  clear ki ks;cases n with
  |zero=>exact absurd H O?
  |succ m=>exact k m _ _ _ rfl H t c
 |_=>clear ki ks k;cases n<;>exact absurd H O?
theorem VR.gH {ι:ć} {h:Y!} {n:m?} {v:s?} {P:Prop} (x:VR ι h (.ref n) v) (k:∀a d,ι[n]? = d? (a,d)->v=n? a->P):P:=let⟨a,d,e,f⟩:=VR.jY x;k a d e f
theorem bJ.oW {ι:ć} {h:Y!} {v:V} {l:g? V} {L:g? s?} {P:Prop} (x:bJ ι h (v::l) L) (k:∀c r,L=c::r->VR ι h v c->bJ ι h l r->P):P:=by
 cases x with|cons a b=>exact k _ _ rfl a b
def aP (h h':Y!):Prop:=∀a vs,Ŗ h a vs->Ŗ h' a vs
def ĉ (ι a:ć):Prop:=∀(n:m?) (p:e!×e!),ι[n]? = d? p->a[n]? = d? p
theorem ĉ.refl (ι:ć):ĉ ι ι:=λZ Z e=>e
theorem ĉ.trans {a b c:ć} (x:ĉ a b) (y:ĉ b c):ĉ a c:=λn p e=>y n p (x n p e)
theorem aP.refl (h:Y!):aP h h:=λZ Z e=>e
theorem aP.trans {a b c:Y!} (x:aP a b) (y:aP b c):aP a c:=λn p e=>y n p (x n p e)
theorem VR.mono {ι c:ć} {h h':Y!} (e:ĉ ι c) (k:aP h h') {v:V} {d:s?} (x:VR ι h v d):VR c h' v d:=
 VR.rec (motive_1:=λv d Z=>VR c h' v d) (motive_2:=λl L Z=>bJ c h' l L) .none .bool .int .str (λt Z i=>.tup (k _ _ t) i) (λn=>.ref (e _ _ n)) .glob .nil (λZ Z a b=>.cons a b) x
theorem bJ.mono {ι c:ć} {h h':Y!} (e:ĉ ι c) (k:aP h h') {l:g? V} {L:g? s?} (x:bJ ι h l L):bJ c h' l L:=
 bJ.rec (motive_1:=λv d Z=>VR c h' v d) (motive_2:=λl L Z=>bJ c h' l L) .none .bool .int .str (λt Z i=>.tup (k _ _ t) i) (λn=>.ref (e _ _ n)) .glob .nil (λZ Z a b=>.cons a b) x
theorem bJ.ind {ι:ć} {h:Y!} {P:g? V->g? s?->Prop} (n:P [] []) (c:∀{v d l L},VR ι h v d->bJ ι h l L->P l L->P (v::l) (d::L)) {l:g? V} {L:g? s?} (x:bJ ι h l L):P l L:=
 bJ.rec (motive_1:=λZ Z Z=>ŀ) (motive_2:=λl L Z=>P l L) trivial (λZ=>trivial) (λZ Z=>trivial) (λZ Z=>trivial) (λZ Z Z=>trivial) (λZ=>trivial) (λZ=>trivial) n (λa b Z i=>c a b i) x
theorem bJ.length {ι:ć} {h:Y!} {l:g? V} {L:g? s?} (x:bJ ι h l L):b? l=b? L:=
 bJ.ind (P:=λl L=>b? l=b? L) rfl (λZ Z i=>R? (λZ=>Z+1) i) x
theorem bJ.append {ι:ć} {h:Y!} {l:g? V} {L:g? s?} {m M} (x:bJ ι h l L) (y:bJ ι h m M):bJ ι h (l++m) (L++M):=
 bJ.ind (P:=λl L=>bJ ι h (l++m) (L++M)) y (λa Z i=>.cons a i) x
theorem bJ.get {ι:ć} {h:Y!} {l:g? V} {L:g? s?} (x:bJ ι h l L):∀{i:m?} {v:V},l[i]? = d? v->∃b,L[i]? = d? b/\VR ι h v b:=
 bJ.ind (P:=λl L=>∀{i:m?} {v:V},l[i]? = d? v->∃b,L[i]? = d? b/\VR ι h v b) (λ{i v} e=>by cases e) (λ{v b l L} a Z I i u e=>by
  cases i using aac with
  |zero=>cases e;exact⟨_,rfl,a⟩
  |succ i=>exact I (i:=i) e) x
theorem bJ.rev {ι:ć} {h:Y!} {l:g? V} {L:g? s?} (x:bJ ι h l L):bJ ι h l.reverse L.reverse:=
 bJ.ind (P:=λl L=>bJ ι h l.reverse L.reverse) .nil (λa Z i=>by rw[S_,S_];exact bJ.append i (.cons a .nil)) x
theorem bJ.take {ι:ć} {h:Y!} {l:g? V} {L:g? s?} (x:bJ ι h l L):∀n,bJ ι h (l.take n) (L.take n):=
 bJ.ind (P:=λl L=>∀n,bJ ι h (l.take n) (L.take n)) (λn=>by cases n using aac<;>exact .nil) (λa Z i n=>by
  cases n using aac with
  |zero=>exact .nil
  |succ n=>exact .cons a (i n)) x
theorem bJ.drop {ι:ć} {h:Y!} {l:g? V} {L:g? s?} (x:bJ ι h l L):∀n,bJ ι h (l.drop n) (L.drop n):=
 bJ.ind (P:=λl L=>∀n,bJ ι h (l.drop n) (L.drop n)) (λn=>by cases n using aac<;>exact .nil) (λa b i n=>by
  cases n using aac with
  |zero=>exact .cons a b
  |succ n=>exact i n) x
theorem bJ.set {ι:ć} {h:Y!} {v:V} {c:s?} (H:VR ι h v c) {l:g? V} {L:g? s?} (x:bJ ι h l L):∀n,bJ ι h (l.set n v) (L.set n c):=
 bJ.ind (P:=λl L=>∀n,bJ ι h (l.set n v) (L.set n c)) (λn=>.nil) (λa b i n=>by
  cases n using aac with
  |zero=>exact .cons H b
  |succ n=>exact .cons a (i n)) x
def eN (ι:ć) (b:e!):Prop:=∃(n:m?) (p:e!×e!),ι[n]? = d? p/\(b=p.1\/b=p.2)
inductive uU (ι:ć) (h:Y!) {κ:Type}:g? (κ×V)->g? (κ×s?)->Prop
 |nil:uU ι h [] []
 |cons {k:κ} {v:V} {v':s?} {l:g? (κ×V)} {l':g? (κ×s?)}:VR ι h v v'->uU ι h l l'->uU ι h ((k,v)::l) ((k,v')::l')
theorem uU.mono {ι a:ć} {h h':Y!} {b:Type} (e:ĉ ι a) (k:aP h h') {l:g? (b×V)} {L:g? (b×s?)} (x:uU ι h l L):uU a h' l L:=by
 induction x with
 |nil=>exact .nil
 |cons H _ i=>exact .cons (H.mono e k) i
mutual
noncomputable def hV (w:u!):V->C?
 |.int i=>acW i
 |.str s=>hashStr w s
 |.tup l=>ab3 (g_ (Ip w l))
 |_=>0
noncomputable def Ip (w:u!):g? V->g? C?
 |[]=>[]
 |a::l=>hV w a::Ip w l
end
theorem Za (w:u!) (i:C?):hV w (V.int i)=acW i:=rfl
theorem ZF (w:u!) (s:k!):hV w (V.str s)=hashStr w s:=rfl
theorem W3 (w:u!) (l:g? V):hV w (V.tup l)=ab3 (g_ (Ip w l)):=rfl
inductive qL (w:u!) (ι:ć) (h:Y!):g? (V×V)->g? R!->Prop
 |nil:qL w ι h [] []
 |cons {k v:V} {a:e!} {e:R!} {l:g? (V×V)} {es:g? R!}:V.pl 8 k=j?->e.key=n? a->VR [] h k (n? a)->e.hash=hV w k->VR ι h v e.val->qL w ι h l es->qL w ι h ((k,v)::l) (e::es)
theorem qL.mono {w:u!} {ι a:ć} {h h':Y!} (e:ĉ ι a) (k:aP h h') {l:g? (V×V)} {L:g? R!} (x:qL w ι h l L):qL w a h' l L:=by
 induction x with
 |nil=>exact .nil
 |cons b H c hh d _ i=>exact .cons b H (c.mono (ĉ.refl _) k) hh (d.mono e k) i
def Ii (ι:ć) (h:Y!) (a:p? V) (b:p? s?):Prop:=ĥ a (ĥ b ŀ λZ=>a_) λv=>ĥ b a_ λw=>VR ι h v w
theorem Ii.mono {ι a:ć} {h h':Y!} (e:ĉ ι a) (k:aP h h') {l:p? V} {L:p? s?} (x:Ii ι h l L):Ii a h' l L:=by
 cases l using aaa<;>cases L using aaa<;>first|trivial|exact x.elim|exact VR.mono e k x
def cq (c:e!):g? k!:=
 if c=79 then["rows","index","depths","weights","opens"]
 else if c=275 then["tid","name","sort","flags","base","ifaces","params","variances","bounds","fields","methods","asm","cctor","under","impls","props","events","finaliser","home"]
 else if c=296 then["fid","owner","name","kind","access","flags","value"]
 else if c=317 then["mid","owner","name","access","flags","ngen","gnames","gbounds","ret","params","pnames","pflags","body","native"]
 else if c=338 then["kt","types","fields_","methods","names","asms","entry"]
 else if c=522 then["kt","bases","ifaces","sorts","variances","unders","bounds","gflags","news","store"]
 else if c=583 then["strict","pairs","listed","proved"]
 else[]
def CR (w:u!) (ι:ć) (h:Y!) (p:e!×e!):ā->Prop
 |.list xs=>∃(vs:O_ s?) (n:m?),h.get? p.1=d? {cls:=r? "list",data:=Z! vs n}/\bJ ι h xs vs.toList
 |.dictI kvs=>∃k:g? (C?×s?),h.DictOf (Ô pw w) p.1 k/\uU ι h kvs k
 |.dictS kvs=>∃k:g? (k!×s?),h.DictOf (strKind pw w) p.1 k/\uU ι h kvs k
 |.dJ kvs=>∃o e,h.get? p.1=d? o/\o.ExactDict/\o.data=r_ e (b? kvs)/\qL w ι h kvs e.toList/\(kvs.map (λZ=>Z.1)).Nodup
 |.inst c fs=>∃o m,h.get? p.1=d? o/\o.cls=n? c/\(∀c,o.data≠.cls c)/\o.dict=d? p.2/\p.2≠p.1/\h.Ns1 p.2 m/\(∀x,Ii ι h (fs.lookup x) (m x))/\(c∈[79,275,296,317,338,522,583])/\∀x v,fs.lookup x=d? v->x∈cq c
 |.dead=>∃o,h.get? p.1=d? o/\o.cls≠r? "tuple"
theorem CR.mono {w:u!} {ι f:ć} {h h':Y!} {p:e!×e!} {c:ā} (e:ĉ ι f) (t:aP h h') (k:∀b o,(b=p.1\/b=p.2)->h.get? b=d? o->h'.get? b=d? o) (x:CR w ι h p c):CR w f h' p c:=by
 have a:∀o,h.get? p.1=d? o->h'.get? p.1=d? o:=λo=>k _ _ (x? rfl);have q:∀o,h.get? p.2=d? o->h'.get? p.2=d? o:=λo=>k _ _ (u? rfl);cases c using ā.casesOn with
 |list xs=>
  show pq x λvs n H d=>?_;try clear x
  exact⟨vs,n,a _ H,d.mono e t⟩
 |dictI kvs=>
  show bf x λK R d=>?_;try clear x
  show Hv R λo E g H r=>?_;try clear R
  exact⟨K,⟨o,E,g,a _ H,r⟩,d.mono e t⟩
 |dictS kvs=>
  show bf x λK R d=>?_;try clear x
  show Hv R λo E g H r=>?_;try clear R
  exact⟨K,⟨o,E,g,a _ H,r⟩,d.mono e t⟩
 |dJ kvs=>
  show Mk x λo E H i j l m=>?_;try clear x
  exact⟨o,E,a _ H,i,j,l.mono e t,m⟩
 |inst c fs=>
  obtain⟨o,M,H,i,j,l,m,s,u,v,z⟩:=x;exact⟨o,M,a _ H,i,j,l,m,s.at q,λy=>(u y).mono e t,v,z⟩
 |dead=>obtain⟨o,H,r⟩:=x;exact⟨o,a _ H,r⟩
theorem Lx {h:Y!} {p:e!} {o O:Æ} (d:h.get? p=d? o) (H:h.get? p=d? O) (g:o.cls=r? "tuple") (n:¬O.cls=r? "tuple"):a_:=n (z! (H.symm.trans d)▸g)
theorem Tt {s:Q_} {v:s?} (e:v=r? s) (n:s≠"tuple"):¬v=r? "tuple":=λf=>n (adt (e.symm.trans f))
theorem Y8 {h:Y!} {α:Type} [u_ α] {P:acQ} {W:u!} {K:PySem.KeyKind P W α} {l:g? (α×s?)} {o:Æ} (D:h.DictOf K p l) (d:h.get? p=d? o) (g:o.cls=r? "tuple"):a_:=by
 obtain⟨O,E,k,H,a,_⟩:=D;exact Lx d H g (Tt a.1 (by decide))
theorem CR.uH {w:u!} {ι:ć} {h:Y!} {p:e!×e!} {c:ā} (x:CR w ι h p c) (b:e!) (m:b=p.1\/(b=p.2/\p.2=p.1)\/(b=p.2/\∃C fs,c= .inst C fs)) {vs:O_ s?} (t:Ŗ h b vs):a_:=by
 obtain⟨o,d,g,n,q⟩:=t;have l:h.get? p.1=d? o->a_:=by
  intro d;cases c using ā.casesOn with
  |list xs=>obtain⟨_,_,H,_⟩:=x;exact Lx d H g (Tt rfl (by decide))
  |dictI kvs=>obtain⟨_,D,_⟩:=x;exact Y8 D d g
  |dictS kvs=>obtain⟨_,D,_⟩:=x;exact Y8 D d g
  |dJ kvs=>obtain⟨O,E,H,a,_⟩:=x;exact Lx d H g (Tt a.1 (by decide))
  |inst c fs=>obtain⟨O,M,H,a,_⟩:=x;exact Lx d H g (λf=>absurd (a.symm.trans f) (by simp))
  |dead=>obtain⟨O,H,a⟩:=x;exact Lx d H g a
 rcases m with rfl| ⟨rfl,e⟩| ⟨rfl,C,fs,rfl⟩
 ·exact l d
 ·exact l (e▸d)
 ·obtain⟨O,M,_,_,_,_,_,⟨r,E,k,j,i,_⟩,_⟩:=x;rw[d] at j;cases j;rw[q] at i;cases i
structure SR (w:u!) (ι:ć) (H:Hp) (h:Y!):Prop where
 base:∀b o,(H1 w.params).get? b=d? o->h.get? b=d? o
 len:b? ι=b? H
 cells:∀(n:m?) (c:ā) (p:e!×e!),H[n]? = d? c->ι[n]? = d? p->CR w ι h p c
 two:∀(n:m?) (c:ā) (p:e!×e!),H[n]? = d? c->ι[n]? = d? p->p.2=p.1\/∃C fs,c= .inst C fs
 sep:∀(n m:m?) (p q:e!×e!),ι[n]? = d? p->ι[m]? = d? q->(p.1=q.1\/p.1=q.2\/p.2=q.1\/p.2=q.2)->n=m
 above:∀b,eN ι b->974<=b
theorem SR.cell {w:u!} {ι:ć} {H:Hp} {h:Y!} (S:SR w ι H h) {n:m?} {p:e!×e!} (e:ι[n]? = d? p):∃c,H[n]? = d? c/\CR w ι h p c:=by
 have a:n<b? ι:=(i?.mp e).1;rw[S.len] at a;exact⟨H[n],Z? a,S.cells n _ p (Z? a) e⟩
theorem SR.uH {w:u!} {ι:ć} {H:Hp} {h:Y!} (S:SR w ι H h) {b:e!} {vs:O_ s?} (t:Ŗ h b vs):¬eN ι b:=by
 rintro q;show pq q λn p e d=>?_;try clear q
 show bf (S.cell e) λc f X=>X.uH b ?_ t;rcases d with rfl|rfl
 ·exact x? rfl
 ·show ĵ (S.two n c p f e) (λa=>?_) λa=>?_
  ·exact u? (x? ⟨rfl,a⟩)
  ·exact u? (u? ⟨rfl,a⟩)
structure ą (ι:ć) (h:Y!) (ι':ć) (h':Y!):Prop where
 ext:ĉ ι ι'
 fresh:∀b,eN ι' b->eN ι b\/h.get? b=none
 keep:∀b o,¬eN ι b->h.get? b=d? o->h'.get? b=d? o
theorem ą.refl (ι:ć) (h:Y!):ą ι h ι h:=⟨ĉ.refl _,λZ m=>x? m,λZ Z Z e=>e⟩
theorem ą.trans {a b c:ć} {h h' H:Y!} (x:ą a h b h') (y:ą b h' c H):ą a h c H where
 ext:=x.ext.trans y.ext
 fresh:=λd m=>by
  show ĵ (y.fresh d m) (λm=>?_) λn=>?_
  ·exact x.fresh d m
  ·by_cases M:eN a d
   ·exact x? M
   ·show u? ?_;cases e:h.get? d using aaa with
    |none=>rfl
    |some o=>rw[x.keep d o M e] at n;cases n
 keep:=λd o M e=>by
  show y.keep d o (λm=>?_) (x.keep d o M e);show ĵ (x.fresh d m) (λm=>?_) λn=>?_
  ·exact M m
  ·rw[e] at n;cases n
theorem ą.mut {ι a:ć} {h h':Y!} (x:ą ι h a h') {b:e!} {o:Æ} (n:¬eN ι b) (e:h.get? b=d? o):¬eN a b:=λm=>by
 show ĵ (x.fresh b m) (λm=>?_) λk=>?_
 ·exact n m
 ·rw[e] at k;cases k
theorem ą.tup {w:u!} {ι b:ć} {H:Hp} {h h':Y!} (S:SR w ι H h) (x:ą ι h b h'):aP h h':=λa vs t=>by
 have n:=S.uH t;show bf t λo c r=>?_;try clear t
 exact⟨o,x.keep a o n c,r⟩
structure LR (ι:ć) (h:Y!) (env:Ó) (nm:g? k!) (ρ:Ă):Prop where
 ns:∃m,h.Ns env.locals m/\∀(i:m?) (x:k!) (v:V),nm[i]? = d? x->ρ[i]? = d? (d? v)->env.kindOf x=d? .local->∃v',m x=d? v'/\VR ι h v v'
 held:∀(i:m?) (x:k!) (v:V),nm[i]? = d? x->ρ[i]? = d? (d? v)->(env.kindOf x=d? g!\/env.kindOf x=d? a!)->∃c v',env.cells.lookup x=d? c/\h.IsCell c (d? v')/\VR ι h v v'
 cells:∀x,env.kindOf x=d? g!->∃c v₀,env.cells.lookup x=d? c/\h.IsCell c v₀
 apart:∀x y c,env.cells.lookup x=d? c->env.cells.lookup y=d? c->x=y
 notMut:¬eN ι env.locals
 cellsMut:∀x c,env.cells.lookup x=d? c->¬eN ι c/\974<=c/\∃v₀,h.IsCell c v₀
 high:974<=env.locals
theorem LR.step {w:u!} {ι j:ć} {H:Hp} {h h':Y!} {env:Ó} {nm:g? k!} {ρ:Ă} (S:SR w ι H h) (x:ą ι h j h') (R:LR ι h env nm ρ):LR j h' env nm ρ:=by
 obtain⟨m,g,u⟩:=R.ns;show Hv g λo t E b r=>?_;try clear g
 have K:∀c a,¬eN ι c->h.IsCell c a->h'.IsCell c a:=λc a n ⟨o,b,k⟩=>⟨o,x.keep c o n b,k⟩
 show⟨⟨m,⟨o,t,E,x.keep _ o R.notMut b,r⟩,λi y v f p l=>?_⟩,λi y v f p l=>?_,λy z=>?_,R.apart,x.mut R.notMut b,λy c d=>?_,R.high⟩
 ·exact bf (u i y v f p l) λs e q=>⟨s,e,q.mono x.ext (x.tup S)⟩
 ·exact fL (R.held i y v f p l) λc s e d q=>⟨c,s,e,K c _ (R.cellsMut y c e).1 d,q.mono x.ext (x.tup S)⟩
 ·exact pq (R.cells y z) λc a e d=>⟨c,a,e,K c _ (R.cellsMut y c e).1 d⟩
 ·obtain⟨n,f,a,o,b,k⟩:=R.cellsMut y c d;exact⟨x.mut n b,f,a,o,x.keep c o n b,k⟩
structure cK (sc:t_) (env:Ó):Prop where
 scope:env.scope=sc
 kind:sc.kind=b!
 globals:env.globals=I!
 builtins:env.builtins=Ł
def cJ (A:D!) (d:m?):Prop:=A.depth+2 * d<900/\A.units+20 * d<9000/\A.handled=none
def bR (s s':y?):Prop:=s'.gens=s.gens/\s'.os=s.os
theorem bR.refl (s:y?):bR s s:=⟨rfl,rfl⟩
theorem bR.trans {a b c:y?} (x:bR a b) (y:bR b c):bR a c:=⟨y.1.trans x.1,y.2.trans x.2⟩
def gy (w:u!) (ι:ć) (s:y?) (Q:V->Hp->Prop) (K:s?->y?->Prop):Prop:=
 ∀v H' a b s',Q v H'->bR s s'->ą ι s.heap a s'.heap->SR w a H' s'.heap->VR a s'.heap v b->K b s'
def El (w:u!) (ι:ć) (s:y?) (Q:g? V->Hp->Prop) (K:g? s?->y?->Prop):Prop:=
 ∀v H' a b s',Q v H'->bR s s'->ą ι s.heap a s'.heap->SR w a H' s'.heap->bJ a s'.heap v b->K b s'
def EV (sc:t_) (nm:g? k!) (d:m?) (e:k?) (ρ:Ă) (H:Hp) (Q:V->Hp->Prop):Prop:=
 ∀(w:u!) (A:D!) (env:Ó) (ι:ć) (s:y?) (K:s?->y?->Prop) (E:s?->y?->Prop),
  cK sc env->cJ A d->SR w ι H s.heap->LR ι s.heap env nm ρ->gy w ι s Q K->n! (j! pw w) A (aaL e env) K E s
structure aG (d:m?) (f:e!) (args:g? V) (H:Hp) (Q:V->Hp->Prop):Prop where
 run:∀(w:u!) (A:D!) (ι:ć) (s:y?) (args':g? s?) (K:s?->y?->Prop) (E:s?->y?->Prop),
  cJ A d->SR w ι H s.heap->bJ ι s.heap args args'->gy w ι s Q K->n! (j! pw w) A (ŭ (n? f) args') K E s
theorem EV.mono {sc:t_} {nm:g? k!} {d:m?} {e:k?} {ρ:Ă} {H:Hp} {Q b:V->Hp->Prop} (x:EV sc nm d e ρ H Q) (h:∀v H',Q v H'->b v H'):EV sc nm d e ρ H b:=
 λw A env ι s K E o r S R T=>x w A env ι s K E o r S R (λv H' a c s' q=>T v H' a c s' (h v H' q))
theorem aG.mono {d:m?} {f:e!} {args:g? V} {H:Hp} {Q c:V->Hp->Prop} (x:aG d f args H Q) (h:∀v H',Q v H'->c v H'):aG d f args H c:=
 ⟨λw A ι s a K E r S R T=>x.run w A ι s a K E r S R (λv H' b e s' q=>T v H' b e s' (h v H' q))⟩
open Mine.Internal.V renaming ref->ϊ,int->ϋ,tup->ύ,str->Ϗ,bool->ϑ,casesOn->ϔ,none->ϖ,glob->ϩ
open ā renaming list->ό,dictI->ώ,inst->ϕ,dictS->Ϛ,dJ->Ϝ,casesOn->Ϸ
open Mine.Internal.bJ renaming cons->ϧ,nil->ϫ
section
variable {Q:V->Hp->Prop} {E:s?->y?->Prop}
theorem rm {c:Type}:∀{P:g? k!} {vs:g? c} {i:m?} {x:k!} {v:c},P.Nodup->P[i]? = d? x->vs[i]? = d? v->(P.zip vs).lookup x=d? v
 |[],_,i=>λZ e Z=>by rename_i x v;simp at e
 |p::P,[],i=>λZ Z e=>by rename_i x v;simp at e
 |p::P,u::vs,0=>λZ a b=>by
  rename_i x v;simp at a b;subst a;subst b;simp[E_]
 |p::P,u::vs,i+1=>λd a b=>by
  rename_i x v;simp at a b;show r! (λh H=>?_) (c_.mp d);have f:(x== p)=f?:=D_.mpr (λe=>h (e▸U! a));simp only[v_,E_,f];exact rm H a b
theorem pY {d:Type} {p:g? k!} {vs:g? d} (b:p.Nodup) (a:b? vs=b? p) (c:x∈p):∃v,(p.zip vs).lookup x=d? v:=by
 show Q! (List.mem_iff_getElem?.mp c) λi H=>?_;have h:i<b? vs:=by rw[a];exact(i?.mp H).1
 exact⟨vs[i],rm b H (Z? h)⟩
theorem tx {b:Type}:∀{P:g? k!} {vs:g? b},P.Nodup->b? vs=b? P->∀{l:g? (k!×b)},(∀x∈P,l.lookup x=(P.zip vs).lookup x)->P.filterMap (λn=>(l.lookup n).map (n,·))=P.zip vs:=by
 intro L;induction L with
 |nil=>
  rintro vs;exact λZ Z l Z=>by simp
 |cons p P i=>
  intro y;cases y using aab with
  |nil=>
   exact λZ h l Z=>by simp at h
  |cons u vs=>
   exact λg h l a=>by
    show r! (λd f=>?_) (c_.mp g);have c:l.lookup p=d? u:=by rw[a p o?];simp[E_]
    have I:=i f (by simpa using h) (l:=l) (λx H=>by
     rw[a x (q? _ H)];have:(x== p)=f?:=D_.mpr (λe=>d (e▸H));simp only[v_,E_,this])
    simp only[ž,c,ĸ,v_,I]
def eF (ps:g? Arg):Arguments:={posonlyargs:=[],args:=ps,vararg:=none,kwonlyargs:=[],kw_defaults:=[],kwarg:=none,defaults:=[]}
theorem C3 (f:fd.params=eF ps) (b:fd.defaults=T?) (H:(ps.map (λZ=>Z.arg)).Nodup) (d:b? vals=b? ps) :
  bindArgs fd ⟨vals,[]⟩=pure ((ps.map (λZ=>Z.arg)).zip vals):=by
 have h:b? vals=b? (ps.map (λZ=>Z.arg)):=by simpa using d
 have k:(ps.map (λZ=>Z.arg)).filterMap (λn=>(((ps.map (λZ=>Z.arg)).zip vals).lookup n).map (n,·))=(ps.map (λZ=>Z.arg)).zip vals:=tx H h (λZ Z=>rfl);have m:(ps.map (λZ=>Z.arg)).filter (λn=>(((ps.map (λZ=>Z.arg)).zip vals).lookup n).isNone)=[]:=by
  rw[List.filter_eq_nil_iff];intro x g;show Q! (pY H h g) λv e=>?_;simp[e]
 unfold bindArgs;rw[f,b];have a:seqItems? T?=pure none:=rfl;have c:¬(b? (ps.map (λZ=>Z.arg)))<b? vals:=by lia
 rw[a];change(if(decide (b? vals > b? (ps.map (λZ=>Z.arg)))&&j?)=j? then _ else _)=_;rw[E? (by rw[ě c];exact O?)];show Ŷ (E? ?_) ?_
 ·simp only[eF,ù,Y_,ç,J_,acu,aa8,abp,m,abq,ŋ,Œ,F!]
 ·simp only[eF,ù,Y_,S!,List.forIn_nil,pure_bind,a,ç,J_,acu,aa8,abp,List.drop_length,List.zip_nil_left,List.zip_nil_right,k,List.filter_nil,abq,ŋ,Œ,aa9]
theorem SR.size (S:SR w ι H h):974<=h.objs.size:=by
 obtain⟨o,a⟩:∃o,(H1 w.params).get? 973=d? o:=⟨((tD w.params).get 973).getD default,by
  show(aan (o:=((tD w.params).get 973).getD default) (by decide) ?_).trans ?_<;>kernel_rfl⟩
 exact b_ (S.base _ _ a)
theorem SR.iq (S:SR w ι H h) (m:eN ι b):∃o,h.get? b=d? o:=by
 show pq m λn p e k=>?_;try clear m
 show bf (S.cell e) λc l X=>?_;have i:∃o,h.get? p.1=d? o:=by
  cases c using Ϸ with
  |list xs=>obtain⟨_,_,a,_⟩:=X;exact⟨_,a⟩
  |dictI kvs=>obtain⟨_,⟨o,d,g,a,_⟩,_⟩:=X;exact⟨o,a⟩
  |dictS kvs=>obtain⟨_,⟨o,d,g,a,_⟩,_⟩:=X;exact⟨o,a⟩
  |dJ kvs=>obtain⟨o,d,a,_⟩:=X;exact⟨o,a⟩
  |inst c fs=>obtain⟨o,M,a,_⟩:=X;exact⟨o,a⟩
  |dead=>obtain⟨o,a,_⟩:=X;exact⟨o,a⟩
 rcases k with rfl|rfl
 ·exact i
 ·rcases S.two n c p l e with j| ⟨C,fs,rfl⟩
  ·rw[j];exact i
  ·obtain⟨o,M,a,_,_,_,_,⟨O,d,g,f,_⟩,_⟩:=X;exact⟨O,f⟩
theorem SR.RY (S:SR w ι H h) (m:eN ι b):b<h.objs.size:=let⟨_,e⟩:=S.iq m;b_ e
theorem aP.of (k:∀b o,h.get? b=d? o->h'.get? b=d? o):aP h h':=λa vs ⟨o,H,r⟩=>⟨o,k _ _ H,r⟩
theorem SR.keeps (S:SR w ι H h) (k:∀b o,h.get? b=d? o->h'.get? b=d? o):SR w ι H h' where
 base:=λb o e=>k _ _ (S.base b o e)
 len:=S.len
 cells:=λn c p a e=>(S.cells n c p a e).mono (ĉ.refl _) (aP.of k) (λb o Z e=>k b o e)
 two:=S.two
 sep:=S.sep
 above:=S.above
theorem ą.keeps (k:∀b o,h.get? b=d? o->h'.get? b=d? o):ą ι h ι h':=⟨ĉ.refl _,λZ m=>x? m,λb o Z e=>k b o e⟩
theorem SR.sameBut (S:SR w ι H h) (g:Ŝ L h h') (l:974<=L) (q:¬eN ι L) (s:∀vs,¬Ŗ h L vs):SR w ι H h' where
 base:=λb o e=>by
  have d:b≠L:=by
   rintro rfl;have j:=b_ e;have k:(H1 w.params).objs.size=974:=aba _ _ _;exact absurd (P! (k▸j) l) (İ _)
  rw[g.2 b d];exact S.base b o e
 len:=S.len
 cells:=λn c p m e=>(S.cells n c p m e).mono (ĉ.refl _) (λa vs t=>by
   have d:a≠L:=by rintro rfl;exact s _ t
   exact bf t λo f r=>⟨o,(g.2 a d).trans f,r⟩) (λb o d f=>(g.2 b (λi=>q ⟨n,p,e,i▸d⟩)).trans f)
 two:=S.two
 sep:=S.sep
 above:=S.above
inductive Fl where
 |next|brk|cont|ret (v:V)
def Fl.ctorIdx (f:Fl):m?:=Fl.casesOn f 0 1 2 (λZ=>3)
def FR (ι:ć) (h:Y!):Fl->acv->Prop
 |.next,G_=>ŀ
 |.brk,.brk=>ŀ
 |.cont,.cont=>ŀ
 |.ret v,.ret a=>VR ι h v a
 |_,_=>a_
def Fl.val:Fl->V
 |.ret v=>v
 |_=>ϖ
structure cg (env:Ó) (ι:ć) (h:Y!) (ι':ć) (h':Y!):Prop where
 ext:ĉ ι ι'
 fresh:∀b,eN ι' b->eN ι b\/h.get? b=none
 keep:∀b o,¬eN ι b->b≠env.locals->(∀x,env.cells.lookup x≠d? b)->h.get? b=d? o->h'.get? b=d? o
theorem ą.toF (x:ą ι h a h'):cg env ι h a h':=⟨x.ext,x.fresh,λb o m Z Z e=>x.keep b o m e⟩
theorem cg.refl (env:Ó) (ι:ć) (h:Y!):cg env ι h ι h:=(ą.refl ι h).toF
def oP (w:u!) (env:Ó) (nm:g? k!) (ι:ć) (s:y?) (Q:Fl->Ă->Hp->Prop) (K:acv->y?->Prop):Prop:=
 ∀f b H' a F s',Q f b H'->bR s s'->cg env ι s.heap a s'.heap->SR w a H' s'.heap->LR a s'.heap env nm b->FR a s'.heap f F->K F s'
def ST (sc:t_) (nm:g? k!) (d:m?) (t:Ó->Sem acv) (ρ:Ă) (H:Hp) (Q:Fl->Ă->Hp->Prop):Prop:=
 ∀(w:u!) (A:D!) (env:Ó) (ι:ć) (s:y?) (K:acv->y?->Prop) (E:s?->y?->Prop),
  cK sc env->cJ A d->SR w ι H s.heap->LR ι s.heap env nm ρ->oP w env nm ι s Q K->n! (j! pw w) A (t env) K E s
inductive ZE (h:Y!) (a:e!) (ps:g? Arg) (sc:t_) (body:g? Ź):Prop
 |mk (o:Æ) (fd:aa5):h.get? a=d? o->o.cls=r? "function"->o.data= .func fd->fd.params=eF ps->fd.defaults=T?->fd.scope=sc->fd.body= .stmts body->fd.globals=I!->
  fd.closure=[]->fd.builtins=Ł->h.CodeRec fd.code fd.qualname->ZE h a ps sc body
structure FnAt (a:e!) (ps:g? Arg) (sc:t_) (body:g? Ź):Prop where
 low:a<974
 at_:∀P,ZE (H1 P) a ps sc body
 co:sc.isCoroutine=f?
 gen:sc.isGenerator=f?
 kind:sc.kind=b!
 nodup:(ps.map (λZ=>Z.arg)).Nodup
 locs:∀x∈ps.map (λZ=>Z.arg),sc.names.lookup x=d? .local\/sc.names.lookup x=d? g!
def Wx:Data->O_ R!
 |Data.dict e _=>e
 |_=>#[]
def Ze:Data->m?
 |Data.dict _ n=>n
 |_=>0
def IL (e:R!):D?:=e.key.ctorIdx== 6
theorem CN (h:a.toList.all IL=j?):StrKeys a:=λe H=>by
 have:=L?.mp h e (Τ.mpr H);exact ac8 (motive:=λk=>∃x t,k=Value.str x t) e.key (U?.mp this) λs t=>⟨s,t,rfl⟩
def de (P:y_) (a:m?):Æ:=((tD P).get a).getD default
theorem qh (h:Ė a 974=j?) (g:(tD P).get a=d? (de P a)) (f:alive (de P a)=d? (de P a)):(H1 P).get? a=d? (de P a):=
 (aan (w? h) g).trans f
def gA (P:y_) (a:m?) (x:k!):p? s?:=nsFind (Wx (de P a).data) x
theorem qk (h:Ė a 974=j?) (g:(tD P).get a=d? (de P a)) (f:alive (de P a)=d? (de P a))
  (H:(de P a).data=r_ (Wx (de P a).data) (Ze (de P a).data)) (b:(Wx (de P a).data).toList.all IL=j?):(H1 P).Ns a (gA P a):=
 ⟨_,_,_,qh h g f,H,CN b,λZ=>rfl⟩
theorem w0 (P:y_):(H1 P).NoLimit:=⟨_,qk (a:=cStatics) rfl (by kernel_rfl) (by kernel_rfl) (by kernel_rfl) (by kernel_rfl),by kernel_rfl⟩
theorem ig (P:y_):(H1 P).Ns I! (gA P I!):=qk rfl (by kernel_rfl) (by kernel_rfl) (by kernel_rfl) (by kernel_rfl)
theorem tE (P:y_):(H1 P).Ns Ł (gA P Ł):=qk rfl (by kernel_rfl) (by kernel_rfl) (by kernel_rfl) (by kernel_rfl)
theorem uS {k:k!->p? ĭ}:∀{P:g? k!} {vs:g? s?} {m:k!->p? s?} {i:m?} {x:k!} {v:s?},P.Nodup->P[i]? = d? x->vs[i]? = d? v->k x=d? .local->ac9 k (P.zip vs) m x=d? v
 |[],_,_,i=>λZ e Z Z=>by rename_i x v;simp at e
 |p::P,[],_,i=>λZ Z e Z=>by rename_i x v;simp at e
 |p::P,u::vs,m,0=>λH a b h=>by
  rename_i x v;simp at a b;subst a;subst b;simp only[v_,ac9,h,V!];have:∀{P:g? k!} {vs:g? s?} {m:k!->p? s?},p∉P->ac9 k (P.zip vs) m p=m p:=by
   intro P;induction P with
   |nil=>intro vs m Z;simp[ac9]
   |cons q P I=>
    intro vs m c;cases vs using aab with
    |nil=>simp[ac9]
    |cons u vs=>
     simp only[G?,abr] at c;simp only[v_,ac9];rw[I c.2];split
     ·change(if p=q then _ else _)=_;rw[E? c.1]
     ·rfl
  rw[this (c_.mp H).1];simp
 |p::P,u::vs,m,i+1=>λH a b h=>by
  rename_i x v;simp only[v_];exact uS (c_.mp H).2 a b h
theorem tY {k:k!->p? ĭ}:∀{P:g? k!} {vs:g? s?} {m:k!->p? s?} {i:m?} {x:k!} {v:s?},P.Nodup->P[i]? = d? x->vs[i]? = d? v->k x≠d? .local->ada k (P.zip vs) m x=d? v
 |[],_,_,i=>λZ e Z Z=>by rename_i x v;simp at e
 |p::P,[],_,i=>λZ Z e Z=>by rename_i x v;simp at e
 |p::P,u::vs,m,0=>λH a b h=>by
  rename_i x v;simp at a b;subst a;subst b;simp only[v_,ada,h,aa9];have:∀{P:g? k!} {vs:g? s?} {m:k!->p? s?},p∉P->ada k (P.zip vs) m p=m p:=by
   intro P;induction P with
   |nil=>intro vs m Z;simp[ada]
   |cons q P I=>
    intro vs m c;cases vs using aab with
    |nil=>simp[ada]
    |cons u vs=>
     simp only[G?,abr] at c;simp only[v_,ada];rw[I c.2];split
     ·rfl
     ·change(if p=q then _ else _)=_;rw[E? c.1]
  rw[this (c_.mp H).1];simp
 |p::P,u::vs,m,i+1=>λH a b h=>by
  rename_i x v;simp only[v_];exact tY (c_.mp H).2 a b h
set_option tactic.hygienic true in
theorem gn:∀(names:g? (k!×ĭ)) (n:m?) (acc:g? (k!×e!)) (x:k!),names.lookup x=d? g!\/(acc.lookup x).isSome=j?->((cellsFrom n names acc).lookup x).isSome=j?:=by
 intro l;induction l with
 |nil=>
  exact λZ Z x h=>h.elim (λh=>by simp at h) id
 |cons p r i=>
  obtain⟨y,k⟩:=p;exact λn acc x h=>by
   unfold cellsFrom;by_cases H:x=y
   ·subst H;split
    ·exact i _ _ x (u? (by simp))
    ·rename_i b;show i _ _ x ?_;rcases h with h|h
     ·simp at h;subst h;exact absurd rfl b
     ·exact u? h
   ·have a:(x== y)=f?:=D_.mpr H;have h':r.lookup x=d? g!\/(acc.lookup x).isSome=j?:=by
     show ĵ h (λh=>?_) λh=>?_
     ·simp only[E_,a] at h;exact x? h
     ·exact u? h
    split
    ·show i _ _ x<|ĵ h' (λh=>?_) λh=>?_<;>try clear h'
     ·exact x? h
     ·exact u? (by simp only[E_,a];exact h)
    ·exact i _ _ x h'
theorem cJ.deeper (r:cJ A (d+1)):cJ (A.deeper env) d:=by
 show fP r λh H a=>⟨?_,?_,a⟩
 ·exact Ug h rfl
 ·exact Ug H rfl
theorem yr (F:FnAt a ps sc body) (hl:b? args=b? ps)
  (Y:∀(i:m?) (x:k!) (v:V),nm[i]? = d? x->ρ[i]? = d? (d? v)->(ps.map (λZ=>Z.arg))[i]? = d? x/\args[i]? = d? v)
  {K:s?->y?->Prop} (D:cJ A (d+1)) (S:SR w ι H s.heap) (R:bJ ι s.heap args l) (T:gy w ι s Q K)
  (h:∀(A:D!) (env:Ó) (j:y?) (K:acv->y?->Prop),cK sc env->cJ A d->SR w ι H j.heap->LR ι j.heap env nm ρ->(∀b o,s.heap.get? b=d? o->j.heap.get? b=d? o)->oP w env nm ι j (λf Z H'=>Q f.val H') K->
   n! (j! pw w) A (Ũ body env) K (λZ Z=>a_) j):n! (j! pw w) A (ŭ (n? a) l) K E s:=by
 obtain⟨o,fd,ho,O,hd,hp,hdf,p,hb,hg,hcl,hbu,hcd⟩:=F.at_ w.params;have ho':=S.base _ _ ho;have W:b? l=b? ps:=by rw[<- R.length];exact hl
 have I:=C3 (vals:=l) hp hdf F.nodup W;show wpAny_call (codeAny_call_cells (body:=body) (binds:=(ps.map (λZ=>Z.arg)).zip l) (Xs (k:=recursionLimit) D.1 rfl) ho' hd ((w0 w.params).keeps S.base) (hcd.keeps S.base) hb I hcl ?_ ?_
  (by rw[p];exact F.co) (by rw[p];exact F.gen) (by rw[p];exact F.kind))
 ·intro x B;have hx1:x.1∈ps.map (λZ=>Z.arg):=(List.of_mem_zip B).1;rw[p];show ĵ (F.locs x.1 hx1) (λC=>?_) λC=>?_
  ·exact x? C
  ·exact u? ⟨C,gn _ _ _ _ (x? C)⟩
 ·intro j X;show zp X.toInCall.same λh₁ tk q_2=>?_;subst q_2;have M:=X.toInCall.keep;have N:SR w ι H h₁:=S.keeps M;have t:s.heap.objs.size<=(Υ fd s.heap.objs.size a).locals:=X.toInCall.fresh;have u:∀b,s.heap.objs.size<=b->¬eN ι b:=λb hb m=>absurd (S.RY m) (œ.mpr hb);have g:∀x c,(Υ fd s.heap.objs.size a).cells.lookup x=d? c->s.heap.objs.size<=c:=λx c e=>Ã (w! t (X.above x c (aaH e)));have hk:∀x,(Υ fd s.heap.objs.size a).kindOf x=sc.names.lookup x:=λx=>by rw[<- p];rfl
  show ł (h (A.deeper (Υ fd s.heap.objs.size a)) (Υ fd s.heap.objs.size a) _ (λf s'=>K (match f with| .ret v=>v| _=>T?) s') ⟨p,F.kind,hg,hbu⟩ D.deeper N ⟨?_,?_,?_,?_,u _ t,λx c e=>⟨u _ (g x c e),S? S.size (g x c e),_,X.cell x c e⟩,S? S.size t⟩ M ?_) (λZ Z x=>x) (λZ Z x=>x.elim)
  ·show⟨_,X.toInCall.ns,λi x v hi hv hkl=>?_⟩;show r! (λe1 e2=>?_) (Y i x v hi hv);exact bf (R.get e2) λv' e3 r=>⟨v',uS F.nodup e1 e3 hkl,r.mono (ĉ.refl _) (aP.of M)⟩
  ·intro i x v hi hv J;show r! (λe1 e2=>?_) (Y i x v hi hv);show bf (R.get e2) λv' e3 r=>?_;have B:x∈ps.map (λZ=>Z.arg):=U! e1;have z:sc.names.lookup x=d? g!:=by
    rw[hk] at J;show ĵ (F.locs x B) (λC=>?_) λC=>?_
    ·rw[C] at J;rcases J with h|h<;>cases h
    ·exact C
   obtain⟨c,O⟩:=H_.mp (gn fd.scope.names (s.heap.objs.size+1) [] x (x? (by rw[p];exact z)));have P:(Υ fd s.heap.objs.size a).cells.lookup x=d? c:=O;show⟨c,v',P,?_,r.mono (ĉ.refl _) (aP.of M)⟩;have:=X.cell x c P
   rwa [tY F.nodup e1 e3 (by rw[hk,z];decide)] at this
  ·intro x B;obtain⟨c,O⟩:=H_.mp (gn fd.scope.names (s.heap.objs.size+1) [] x (x? (by rw[p,<- hk];exact B)));exact⟨c,_,O,X.cell x c O⟩
  ·intro x y c B hy;exact name_of_addr X.apart (aaH B) (aaH hy)
  ·intro f ρ' H' L f' s' q sm st S' Z fr;have sm':bR s s':=⟨sm.1,sm.2⟩
   have st':ą ι s.heap L s'.heap:=by
    show⟨st.ext,λb m=>?_,λb o n e=>st.keep b o n ?_ ?_ (M _ _ e)⟩
    ·show ĵ (st.fresh b m) (λm=>?_) λn=>?_
     ·exact x? m
     ·show u? ?_;cases e:s.heap.get? b using aaa with
      |none=>rfl
      |some o=>rw[M _ _ e] at n;cases n
    ·rintro rfl;exact absurd (b_ e) (œ.mpr t)
    ·intro x B;exact absurd (b_ e) (œ.mpr (g x b B))
   cases f using Fl.casesOn<;>cases f' using ħ<;>first|exact fr.elim|exact T _ H' L _ s' q sm' st' S' .none|exact T _ H' L _ s' q sm' st' S' fr
theorem QM (F:FnAt a ps sc body) (g:b? args=b? ps)
  (c:∀(i:m?) (x:k!) (v:V),nm[i]? = d? x->ρ[i]? = d? (d? v)->(ps.map (λZ=>Z.arg))[i]? = d? x/\args[i]? = d? v)
  (h:ST sc nm d (λenv=>Ũ body env) ρ H (λf Z H'=>Q f.val H')):aG (d+1) a args H Q:=
 ⟨λw Z ι Z Z Z Z b S R T=>yr F g c b S R T λA env s K e r S L Z T=>h w A env ι s K _ e r S L T⟩
open Mine.Internal.Fl renaming next->ϒ,ret->ϣ,cont->Ϭ,brk->ϲ,casesOn->ϸ
section
inductive ME where
 |none|bool (b:D?)|int (i:C?)|str (s:k!)
 |var (i:m?)
 |gv (v:V)
 |attr (e:ME) (a:k!)
 |bin (op:Ĺ) (a b:ME)
 |cmp (op:ab4) (a b:ME)
 |and (a b:ME)|or (a b:ME)|not (a:ME)
 |ite (c a b:ME)
 |tup (es:ME)|list (es:ME)|nil|cons (e es:ME)
 |dictI|dictI1 (k e:ME)|dictS (ks:g? k!) (es:ME)|dJ
 |idx (a i:ME)
 |rev (a:ME)|take (a n:ME)
 |call (f:e!) (es:ME)
 |meth (o:ME) (m:k!) (es:ME)
 |new (c:e!) (es:ME)
 |len (e:ME)|tuple (e:ME)|listOf (e:ME)|strOf (e:ME)|sorted (e:ME)|range (e:ME)
 |append (o e:ME)|pop (o:ME)|get (o k d:ME)
 |comp (caps:g? (p? m?)) (tg:g? m?) (elt it ab5:ME)
 |compR (caps:g? (p? m?)) (tg:g? m?) (elt n ab5:ME)
 |bad
inductive MT where
 |var (i:m?)|tup (is:g? m?)|attr (e:ME) (a:k!)|sub (e k:ME)
inductive MS where
 |skip|seq (a b:MS)|expr (e:ME)|assign (t:MT) (e:ME)|augAdd (i:m?) (e:ME)
 |ite (c:ME) (a b:MS)|whil (c:ME) (b:MS)|fors (t:MT) (it:ME) (b:MS)|forR (t:MT) (n:ME) (b:MS)|ret (e:ME)|cont|tryx (b:MS)|bad
inductive ok {α:Type}:p? α->(α->Prop)->Prop
 |mk {a:α} {P:α->Prop}:P a->ok (d? a) P
def Aq {b:Type}:p? b->(b->Prop)->Prop
 |some a,P=>P a
 |Option.none,_=>a_
def dG (t:D?) (A B:ŝ->Prop):Prop:=acP t (B ()) (A ())
theorem dG.t {A B:ŝ->Prop} (h:A ()):dG j? A B:=h
theorem dG.f {A B:ŝ->Prop} (h:B ()):dG f? A B:=h
def look:Ă->m?->p? V
 |[],_=>e?
 |o::_,0=>o
 |_::r,n+1=>look r n
theorem Ej (x:m?):look [] x=none:=rfl
theorem E4 (o:p? V) (t:g? (p? V)):look (o::t) 0=o:=rfl
theorem Eo (h:p? V) (r:g? (p? V)) (n:m?):look (h::r) n.succ=look r n:=rfl
def put (v:V):Ă->m?->Ă
 |[],_=>[]
 |_::r,0=>d? v::r
 |o::r,n+1=>o::put v r n
theorem NL (v:V) (x:m?):put v [] x=[]:=rfl
theorem Mx (v:V) (o:p? V) (t:g? (p? V)):put v (o::t) 0=d? v::t:=rfl
theorem By (v:V) (h:p? V) (r:g? (p? V)) (n:m?):put v (h::r) n.succ=h::put v r n:=rfl
def lg (a:e!):g? (C?×V):=
 if a=48 then[(20,ϋ 0),(9,ϋ 1),(10,ϋ 2),(11,ϋ 3),(12,ϋ 4),(13,ϋ 5),(14,ϋ 6),(15,ϋ 7),(16,ϋ 8),(17,ϋ 9),(18,ϋ 10),(19,ϋ 11),(1,ϋ 12),(4,ϋ 13)]
 else if a=47 then[(0,ϋ 20),(1,ϋ 9),(2,ϋ 10),(3,ϋ 11),(4,ϋ 12),(5,ϋ 13),(6,ϋ 14),(7,ϋ 15),(8,ϋ 16),(9,ϋ 17),(10,ϋ 18),(11,ϋ 19),(12,ϋ 1),(13,ϋ 4)]
 else[]
section
variable {α:Type}
def vI (v:V) (f:C?->p? α):p? α:=ϔ v e? (λZ=>e?) f (λZ=>e?) (λZ=>e?) (λZ=>e?) (λZ=>e?)
def vS (v:V) (f:k!->p? α):p? α:=ϔ v e? (λZ=>e?) (λZ=>e?) f (λZ=>e?) (λZ=>e?) (λZ=>e?)
def vT (v:V) (f:g? V->p? α):p? α:=ϔ v e? (λZ=>e?) (λZ=>e?) (λZ=>e?) f (λZ=>e?) (λZ=>e?)
def vR (v:V) (f:m?->p? α):p? α:=ϔ v e? (λZ=>e?) (λZ=>e?) (λZ=>e?) (λZ=>e?) f (λZ=>e?)
def nQ (o:p? ā) (f:g? V->p? α):p? α:=o.bind λc=>Ϸ c f (λZ=>e?) (λZ=>e?) (λZ=>e?) (λZ Z=>e?) e?
def LL (o:p? ā) (f:e!->g? (k!×V)->p? α):p? α:=o.bind λc=>Ϸ c (λZ=>e?) (λZ=>e?) (λZ=>e?) (λZ=>e?) f e?
variable {v:V} {o:p? ā} {r:α} {P:Prop}
theorem HY {f:C?->p? α} (h:vI v f=d? r) (k:∀i,v=ϋ i->f i=d? r->P):P:=by
 cases v using ϔ<;>first|exact nS h|exact k _ rfl h
theorem Zq {f:k!->p? α} (h:vS v f=d? r) (k:∀i,v=Ϗ i->f i=d? r->P):P:=by
 cases v using ϔ<;>first|exact nS h|exact k _ rfl h
theorem XU {f:g? V->p? α} (h:vT v f=d? r) (k:∀i,v=ύ i->f i=d? r->P):P:=by
 cases v using ϔ<;>first|exact nS h|exact k _ rfl h
theorem Vz {f:m?->p? α} (h:vR v f=d? r) (k:∀i,v=ϊ i->f i=d? r->P):P:=by
 cases v using ϔ<;>first|exact nS h|exact k _ rfl h
theorem rp {f:g? V->p? α} (h:nQ o f=d? r) (k:∀xs,o=d? (ό xs)->f xs=d? r->P):P:=by
 cases o using aaa with
 |none=>exact nS h
 |some c=>cases c using Ϸ<;>first|exact nS h|exact k _ rfl h
theorem UH {f:e!->g? (k!×V)->p? α} (h:LL o f=d? r) (k:∀c fs,o=d? (ϕ c fs)->f c fs=d? r->P):P:=by
 cases o using aaa with
 |none=>exact nS h
 |some c=>cases c using Ϸ<;>first|exact nS h|exact k _ _ rfl h
theorem jf {c:Prop} [ů c] {a b:α} (h:(if c then d? a else e?)=d? b) (k:c->a=b->P):P:=by
 by_cases H:c
 ·exact k H (z! ((P? H).symm.trans h))
 ·exact nS ((E? H).symm.trans h)
theorem VL {c:Prop} [ů c] {a:p? α} {b:α} (h:(if c then a else e?)=d? b) (k:c->a=d? b->P):P:=by
 by_cases H:c
 ·exact k H ((P? H).symm.trans h)
 ·exact nS ((E? H).symm.trans h)
theorem Qc {b:Type} {o:p? b} {f:b->p? α} (h:o.bind f=d? r) (k:∀a,o=d? a->f a=d? r->P):P:=by
 cases o using aaa with
 |none=>exact nS h
 |some a=>exact k a rfl h
end
def fO {e:Type} (o:p? ā) (a:g? V->p? e) (b:g? (C?×V)->p? e) (c:g? (k!×V)->p? e) (d:g? (V×V)->p? e):p? e:=o.bind λx=>Ϸ x a b c d (λZ Z=>e?) e?
inductive WU {α:Type} (o:p? ā) (a:g? V->p? α) (b:g? (C?×V)->p? α) (c:g? (k!×V)->p? α) (d:g? (V×V)->p? α) (r:α):Prop
 |list (xs:g? V):o=d? (ό xs)->a xs=d? r->WU o a b c d r
 |dictI (xs:g? (C?×V)):o=d? (ώ xs)->b xs=d? r->WU o a b c d r
 |dictS (xs:g? (k!×V)):o=d? (Ϛ xs)->c xs=d? r->WU o a b c d r
 |dJ (xs:g? (V×V)):o=d? (Ϝ xs)->d xs=d? r->WU o a b c d r
theorem hZ {e:Type} {o:p? ā} {a:g? V->p? e} {b:g? (C?×V)->p? e} {c:g? (k!×V)->p? e} {d:g? (V×V)->p? e} {r:e} (h:fO o a b c d=d? r):WU o a b c d r:=by
 cases o using aaa with
 |none=>exact nS h
 |some x=>cases x using Ϸ<;>first|exact nS h|exact .list _ rfl h|exact .dictI _ rfl h|exact .dictS _ rfl h|exact .dJ _ rfl h
def bT (H:Hp) (v:V):p? D?:=ϔ v (d? f?) (λb=>d? b) (λi=>d? (decide (i≠0))) (λZ=>e?)
 (λl=>if(b? l)<10000000 then d? (!l.isEmpty) else e?) (λn=>nQ H[n]? λxs=>if(b? xs)<10000000 then d? (!xs.isEmpty) else e?) (λZ=>e?)
def aA (H:Hp) (a:k!) (v:V):p? V:=vR v λn=>LL H[n]? λZ fs=>fs.lookup a
def aJ:m?:=10000000
def binI (op:Ĺ) (x y:C?):p? C?:=match op with
 |Operator.Add=>d? (x+y)
 |.Sub=>d? (x - y)
 |.Mult=>if 0<=x/\x<100000/\0<=y/\y<100000 then d? (x * y) else e?
 |Operator.Mod=>if 0<y/\y<100000 then d? (x % y) else e?
 |.FloorDiv=>if 0<y/\y<100000/\0<=x/\x<100000 then d? (x / y) else e?
 |Operator.BitAnd=>if 0<=x/\x<100000/\0<=y/\y<100000 then d? ((x.toNat &&& y.toNat:m?):C?) else e?
 |_=>e?
def listAt (H:Hp) (n:m?):p? (g? V):=match H[n]? with
 |some c=>match c with
  |ό xs=>d? xs
  |_=>e?
 |Option.none=>e?
theorem jB {H:Hp} {n:m?} {xs:g? V} (h:listAt H n=d? xs):H[n]? = d? (ό xs):=by
 unfold listAt at h;cases e:H[n]? using aaa with
 |none=>rw[e] at h;cases h
 |some c=>rw[e] at h;cases c using Ϸ<;>cases h;rfl
theorem uK {H:Hp} {n:m?} {xs:g? V} (h:H[n]? = d? (ό xs)):listAt H n=d? xs:=by
 unfold listAt;rw[h]
def cY (op:Ĺ) (a b:V) (H:Hp):p? (V×Hp):=match a with
 |ϋ x=>match b with
  |ϋ y=>(binI op x y).map λz=>(ϋ z,H)
  |_=>e?
 |ύ x=>match b with
  |ύ y=>if op=v!/\b? x+b? y<aJ then d? (ύ (x++y),H) else e?
  |ϋ y=>if op= .Mult/\(y=0\/y=1\/y=2)/\b? x=1 then d? (ύ ((X? y.toNat x).flatten),H) else e?
  |_=>e?
 |Ϗ x=>match b with
  |Ϗ y=>if op=v!/\x.length+y.length<aJ then d? (Ϗ (x++y),H) else e?
  |_=>e?
 |ϊ n=>match b with
  |ϊ m=>(listAt H n).bind λx=>(listAt H m).bind λy=>if op=v!/\b? x+b? y<aJ then d? (ϊ (b? H),H++[ό (x++y)]) else e?
  |ϋ y=>(listAt H n).bind λx=>if op= .Mult/\0<=y/\y<100000/\b? x=1 then d? (ϊ (b? H),H++[ό ((X? y.toNat x).flatten)]) else e?
  |_=>e?
 |_=>e?
theorem fc {op:Ĺ} {x y z:C?} {H:Hp} (h:binI op x y=d? z):cY op (ϋ x) (ϋ y) H=d? (ϋ z,H):=by
 change(binI op x y).map _=_;rw[h];rfl
def aH (H:Hp) (v:V):p? (g? V):=ϔ v e? (λZ=>e?) (λZ=>e?) (λZ=>e?)
 (λl=>if(b? l)<aJ then d? l else e?) (λn=>fO H[n]? (λxs=>if(b? xs)<aJ then d? xs else e?) (λZ=>e?) (λZ=>e?) (λkvs=>if(b? kvs)<aJ then d? (kvs.map (λZ=>Z.1)) else e?)) (λZ=>e?)
def iT (H:Hp) (v:V):p? (g? V):=ϔ v e? (λZ=>e?) (λZ=>e?) (λZ=>e?)
 (λl=>if(b? l)<aJ then d? l else e?) (λn=>nQ H[n]? λxs=>if(b? xs)<aJ then d? xs else e?) (λZ=>e?)
def dU (H:Hp) (v:V):p? (g? V):=ϔ v e? (λZ=>e?) (λZ=>e?) (λZ=>e?)
 (λl=>if V.cO l then d? l else e?) (λn=>nQ H[n]? λxs=>if V.cO xs then d? xs else e?) (λZ=>e?)
def Gk (H:Hp) (a b:V):p? D?:=ϔ a e? (λZ=>e?) (λk=>vR b λn=>fO H[n]? (λZ=>e?) (λkvs=>d? (kvs.any λK=>K.1== k)) (λZ=>e?) (λZ=>e?)) (λZ=>e?)
 (λl=>vR b λn=>fO H[n]? (λZ=>e?) (λZ=>e?) (λZ=>e?) (λkvs=>if V.pl 8 (ύ l) then d? (kvs.any λK=>V.beq K.1 (ύ l)) else e?)) (λZ=>e?) (λZ=>e?)
def eD (H:Hp) (a b:V):p? D?:=ĥ (dU H b) (Gk H a b) (λxs=>if V.plain a then d? (xs.any λy=>V.beq y a) else e?)
def uR (H:Hp) (a b:V):p? D?:=ϔ a (eD H a b) (λZ=>eD H a b)
 (λk=>ϔ b (eD H a b) (λZ=>eD H a b) (λZ=>eD H a b) (λZ=>eD H a b) (λZ=>eD H a b) (λZ=>eD H a b) (λg=>if g=47\/g=48 then d? ((lg g).any λK=>K.1== k) else e?))
 (λx=>ϔ b (eD H a b) (λZ=>eD H a b) (λZ=>eD H a b) (λy=>if x.length=1 then d? (!(acK y x 0 y.length 1).isEmpty) else e?) (λZ=>eD H a b) (λZ=>eD H a b) (λZ=>eD H a b))
 (λZ=>eD H a b) (λZ=>eD H a b) (λZ=>eD H a b)
def ql (v:V):p? D?:=ϔ v (d? j?) (λZ=>e?) (λZ=>d? f?) (λZ=>e?) (λZ=>d? f?) (λZ=>d? f?) (λZ=>e?)
def Bx (a b:V):p? D?:=if V.plain a&&V.plain b then d? (V.beq a b) else e?
def Gv (a b:V):p? D?:=if V.plain a&&V.plain b then d? (!V.beq a b) else e?
def MW (f:C?->C?->D?) (a b:V):p? D?:=vI a λx=>vI b λy=>d? (f x y)
def bZ (op:ab4) (a b:V) (H:Hp):p? D?:=match op with
 |CmpOp.Eq=>ϔ a (Bx a b) (λZ=>Bx a b) (λZ=>Bx a b) (λZ=>Bx a b) (λZ=>Bx a b) (λn=>ϔ b (Bx a b) (λZ=>Bx a b) (λZ=>Bx a b) (λZ=>Bx a b) (λZ=>Bx a b) (λm=>(dU H (ϊ n)).bind λx=>(dU H (ϊ m)).bind λy=>d? (V.pJ x y)) (λZ=>Bx a b)) (λZ=>Bx a b)
 |CmpOp.NotEq=>ϔ a (Gv a b) (λx=>ϔ b (Gv a b) (λy=>d? (x != y)) (λZ=>Gv a b) (λZ=>Gv a b) (λZ=>Gv a b) (λZ=>Gv a b) (λZ=>Gv a b)) (λZ=>Gv a b) (λZ=>Gv a b) (λZ=>Gv a b) (λZ=>Gv a b) (λZ=>Gv a b)
 |CmpOp.Lt=>MW (λx y=>decide (x<y)) a b
 |.LtE=>MW (λx y=>decide (x<=y)) a b
 |.Gt=>MW (λx y=>decide (y<x)) a b
 |.GtE=>MW (λx y=>decide (y<=x)) a b
 |CmpOp.In=>uR H a b
 |CmpOp.NotIn=>(uR H a b).map (!·)
 |.Is=>ϔ b (ql a) (λZ=>e?) (λZ=>e?) (λZ=>e?) (λZ=>e?) (λZ=>e?) (λZ=>e?)
 |.IsNot=>ϔ b ((ql a).map (!·)) (λZ=>e?) (λZ=>e?) (λZ=>e?) (λZ=>e?) (λZ=>e?) (λZ=>e?)
def Ď (n:m?) (i:C?):p? m?:=if 0<=i then(if i<n/\i<10000000 then d? i.toNat else e?) else if -(n:C?)<=i/\-10000000<i then d? (i+n).toNat else e?
def bx {a:Type} [u_ a] (k:a):g? (a×V)->p? V
 |[]=>e?
 |(K,v)::r=>if K=k then d? v else bx k r
theorem jv {a:Type} [i:u_ a] (k:a):bx k []=none:=rfl
theorem eG {a:Type} [i:u_ a] (k K:a) (v:V) (r:g? (a×V)):bx k ((K,v)::r)=if K=k then d? v else bx k r:=rfl
def ea (k:V):g? (V×V)->p? V
 |[]=>e?
 |(K,v)::r=>if V.beq K k then d? v else ea k r
theorem rH (k:V):ea k []=none:=rfl
theorem md (k K v:V) (r:g? (V×V)):ea k ((K,v)::r)=if K.beq k=j? then d? v else ea k r:=rfl
def au {a:Type} [u_ a] (k:a) (v:V):g? (a×V)->g? (a×V)
 |[]=>[(k,v)]
 |(K,b)::r=>if K=k then(K,v)::r else(K,b)::au k v r
theorem gW {a:Type} [i:u_ a] (k:a) (v:V):au k v []=[(k,v)]:=rfl
theorem fq {b:Type} [i:u_ b] (k:b) (v:V) (K:b) (a:V) (r:g? (b×V)):au k v ((K,a)::r)=if K=k then(K,v)::r else(K,a)::au k v r:=rfl
def dE (k v:V):g? (V×V)->g? (V×V)
 |[]=>[(k,v)]
 |(K,a)::r=>if V.beq K k then(K,v)::r else(K,a)::dE k v r
theorem Vt (k v:V):dE k v []=[(k,v)]:=rfl
theorem Gn (k v K a:V) (r:g? (V×V)):dE k v ((K,a)::r)=if K.beq k=j? then(K,v)::r else(K,a)::dE k v r:=rfl
theorem DA {a:Type} [u_ a] {k K:a} {v:V} {r:g? (a×V)}:bx k ((K,v)::r)=if K=k then d? v else bx k r:=rfl
theorem Ep {k K v:V} {r:g? (V×V)}:ea k ((K,v)::r)=if V.beq K k then d? v else ea k r:=rfl
theorem yg {a:Type} [u_ a] {k K:a} {v b:V} {r:g? (a×V)}:au k v ((K,b)::r)=if K=k then(K,v)::r else(K,b)::au k v r:=rfl
theorem rU {k K v a:V} {r:g? (V×V)}:dE k v ((K,a)::r)=if V.beq K k then(K,v)::r else(K,a)::dE k v r:=rfl
def bN (a i:V) (H:Hp):p? V:=ϔ a e? (λZ=>e?) (λZ=>e?) (λZ=>e?)
 (λl=>vI i λk=>(Ď (b? l) k).bind λj=>l[j]?)
 (λn=>fO H[n]? (λxs=>vI i λk=>(Ď (b? xs) k).bind λj=>xs[j]?) (λkvs=>vI i λk=>bx k kvs) (λkvs=>vS i λk=>bx k kvs) (λkvs=>vT i λl=>if V.pl 8 (ύ l) then ea (ύ l) kvs else e?))
 (λg=>vI i λk=>if g=47\/g=48 then bx k (lg g) else e?)
def jb (a k d:V) (H:Hp):p? V:=ϔ a e? (λZ=>e?) (λZ=>e?) (λZ=>e?) (λZ=>e?)
 (λn=>fO H[n]? (λZ=>e?) (λkvs=>vI k λk=>d? ((bx k kvs).getD d)) (λZ=>e?) (λkvs=>vT k λl=>if V.pl 8 (ύ l) then d? ((ea (ύ l) kvs).getD d) else e?))
 (λg=>vI k λk=>if g=47\/g=48 then d? ((bx k (lg g)).getD d) else e?)
def cG (a i v:V) (H:Hp):p? Hp:=vR a λn=>fO H[n]?
 (λxs=>vI i λk=>if 0<=k/\k<b? xs/\k<10000000 then d? (H.set n (ό (xs.set k.toNat v))) else e?)
 (λkvs=>vI i λk=>if(b? kvs)<aJ then d? (H.set n (ώ (au k v kvs))) else e?)
 (λkvs=>vS i λk=>if(b? kvs)<aJ then d? (H.set n (Ϛ (au k v kvs))) else e?)
 (λkvs=>vT i λl=>if V.pl 8 (ύ l)/\b? kvs<aJ then d? (H.set n (Ϝ (dE (ύ l) v kvs))) else e?)
def ck (a:V) (x:k!) (v:V) (H:Hp):p? Hp:=vR a λn=>LL H[n]? λc fs=>if(cq c).contains x then d? (H.set n (ϕ c (au x v fs))) else e?
def intsOf:g? V->p? (g? C?)
 |[]=>d? []
 |ϋ i::r=>(intsOf r).map (i::·)
 |_=>e?
def gE (H:Hp) (v:V):p? C?:=ϔ v e? (λZ=>e?) (λZ=>e?) (λZ=>e?)
 (λl=>if(b? l)<aJ then d? (b? l:C?) else e?) (λn=>nQ H[n]? λxs=>if(b? xs)<aJ then d? (b? xs:C?) else e?) (λZ=>e?)
def tV (v:V) (H:Hp):p? (V×Hp):=ϔ v e? (λZ=>e?) (λZ=>e?) (λZ=>e?)
 (λl=>if(b? l)<aJ then d? (ύ l.reverse,H) else e?) (λn=>nQ H[n]? λxs=>if(b? xs)<aJ then d? (ϊ (b? H),H++[ό xs.reverse]) else e?) (λZ=>e?)
def mF (v n:V) (H:Hp):p? (V×Hp):=ϔ v e? (λZ=>e?) (λZ=>e?) (λZ=>e?)
 (λl=>vI n λk=>if(b? l)<aJ/\0<=k/\k<100000 then d? (ύ (l.take k.toNat),H) else e?)
 (λm=>vI n λk=>nQ H[m]? λxs=>if(b? xs)<aJ/\0<=k/\k<100000 then d? (ϊ (b? H),H++[ό (xs.take k.toNat)]) else e?) (λZ=>e?)
def dY (a v:V) (H:Hp):p? Hp:=vR a λn=>nQ H[n]? λxs=>if(b? xs)<aJ then d? (H.set n (ό (xs++[v]))) else e?
def zr (a:V) (H:Hp):p? (V×Hp):=vR a λn=>nQ H[n]? λxs=>if(b? xs)<aJ then(xs.getLast?).map λv=>(v,H.set n (ό xs.dropLast)) else e?
def dB (H:Hp) (v:V):D?:=ϔ v f? (λZ=>f?) (λZ=>f?) (λZ=>f?) (λZ=>f?) (λn=>(nQ H[n]? λZ=>d? ()).isSome) (λZ=>f?)
def ao (H:Hp) (v:V):D?:=ϔ v f? (λZ=>f?) (λZ=>f?) (λZ=>f?) (λZ=>f?) (λn=>(fO H[n]? (λZ=>e?) (λZ=>d? ()) (λZ=>e?) (λZ=>d? ())).isSome) (λg=>g== 47||g== 48)
def jz (H:Hp) (v:V):p? e!:=vR v λn=>LL H[n]? λc Z=>d? c
def fG (x:C?):g? C?->g? C?
 |[]=>[x]
 |y::r=>if x<=y then x::y::r else y::fG x r
theorem uz (x:C?):fG x []=[x]:=rfl
theorem nJ (x y:C?) (r:g? C?):fG x (y::r)=if x<=y then x::y::r else y::fG x r:=rfl
def bz:g? C?->g? C?
 |[]=>[]
 |x::r=>fG x (bz r)
structure WL where
 init:e!->p? e!
 meth:e!->k!->p? e!
def aT (is:g? m?) (v:V) (ρ:Ă) (P:Ă->Prop):Prop:=ϔ v a_ (λZ=>a_) (λZ=>a_) (λZ=>a_) (λl=>if(b? l)=b? is then P ((is.zip l).foldl (λρ p=>put p.2 ρ p.1) ρ) else a_) (λZ=>a_) (λZ=>a_)
def cA (t:g? m?) (v:V) (ρ:Ă) (P:Ă->Prop):Prop:=i_ t (aT [] v ρ P) λi r=>i_ r (P (put v ρ i)) λj s=>aT (i::j::s) v ρ P
section
variable (step:Ă->Hp->(Fl->Ă->Hp->Prop)->Prop) (asg:V->Ă->Hp->(Ă->Hp->Prop)->Prop) (chk:Hp->Prop)
def bG:g? V->Ă->Hp->(Fl->Ă->Hp->Prop)->Prop
 |[],ρ,H,Q=>chk H/\Q ϒ ρ H
 |x::xs,ρ,H,Q=>chk H/\asg x ρ H λb H₁=>step b H₁ λf a h=>match f with
  |ϒ=>bG xs a h Q
  |Ϭ=>bG xs a h Q
  |ϲ=>Q ϒ a h
  |ϣ v=>Q (ϣ v) a h
theorem bC (s:Ă->Hp->(Fl->Ă->Hp->Prop)->Prop) (A:V->Ă->Hp->(Ă->Hp->Prop)->Prop) (chk:Hp->Prop) (x:Ă) (X:Hp) (a:Fl->Ă->Hp->Prop):bG s A chk [] x X a=(chk X/\a ϒ x X):=rfl
theorem cz (s:Ă->Hp->(Fl->Ă->Hp->Prop)->Prop) (A:V->Ă->Hp->(Ă->Hp->Prop)->Prop) (chk:Hp->Prop) (x:Ă) (b:Hp) (X:Fl->Ă->Hp->Prop) (d:V) (xs:g? V):bG s A chk (d::xs) x b X=(chk b/\A d x b λ(c:Ă) (H₁:Hp)=>s c H₁ λ(f:Fl) (a:Ă) (H:Hp)=>match f with| ϒ=>bG s A chk xs a H X| Ϭ=>bG s A chk xs a H X| ϲ=>X ϒ a H| ϣ v=>X (ϣ v) a H):=rfl
end
section
variable (tg:g? m?) (ab5:Ă->Hp->(D?->Hp->Prop)->Prop) (elt:Ă->Hp->(V->Hp->Prop)->Prop) (chk:Hp->Prop) (r:m?)
def cC:g? V->Ă->Hp->(Hp->Prop)->Prop
 |[],_,H,Q=>chk H/\Q H
 |x::xs,ρ,H,Q=>chk H/\cA tg x ρ λa=>ab5 a H λb H₁=>dG b (λZ=>elt a H₁ λv h=>ok (dY (ϊ r) v h) λc=>cC xs a c Q) (λZ=>cC xs a H₁ Q)
end
def fin (m:D?) (v:V) (H:Hp) (Q:V->Hp->Prop):Prop:=match m with
 |false=>Q v H
 |true=>ok (bT H v) λt=>Q (ϑ t) H
def jg (Q:D?->Hp->Prop) (v:V) (H:Hp):Prop:=match v with
 |ϑ b=>Q b H
 |_=>a_
variable (T:WL)
def XE (m:D?) (ρ:Ă) (H:Hp) (Q:V->Hp->Prop):Prop:=a_
def iQ (ρ:Ă) (H:Hp) (Q:g? V->Hp->Prop):Prop:=a_
def Zg (d:m?) (e:ME):(D?->Ă->Hp->(V->Hp->Prop)->Prop)×(Ă->Hp->(g? V->Hp->Prop)->Prop):=ME.rec (motive:=λZ=>(D?->Ă->Hp->(V->Hp->Prop)->Prop)×(Ă->Hp->(g? V->Hp->Prop)->Prop))
 (λm Z H Q=>fin m ϖ H Q,iQ)
 (λb=>(λZ Z H Q=>Q (ϑ b) H,iQ))
 (λi=>(λm Z H Q=>fin m (ϋ i) H Q,iQ))
 (λs=>(λm Z H Q=>fin m (Ϗ s) H Q,iQ))
 (λi=>(λm ρ H Q=>Aq (look ρ i) λv=>fin m v H Q,iQ))
 (λv=>(λm Z H Q=>fin m v H Q,iQ))
 (λZ a g=>(λm ρ H Q=>g.1 f? ρ H λv H=>ok (aA H a v) λu=>fin m u H Q,iQ))
 (λop Z Z A B=>(λm ρ H Q=>A.1 f? ρ H λx H=>B.1 f? ρ H λy H=>ok (cY op x y H) λr=>fin m r.1 r.2 Q,iQ))
 (λop Z Z A B=>(λZ ρ H Q=>A.1 f? ρ H λx H=>B.1 f? ρ H λy H=>ok (bZ op x y H) λr=>Q (ϑ r) H,iQ))
 (λZ Z A B=>(λm ρ H Q=>match m with
  |true=>A.1 j? ρ H (jg λt H=>dG t (λZ=>B.1 j? ρ H Q) (λZ=>Q (ϑ f?) H))
  |false=>A.1 f? ρ H λx H=>ok (bT H x) λt=>dG t (λZ=>B.1 f? ρ H Q) (λZ=>Q x H),iQ))
 (λZ Z A B=>(λm ρ H Q=>match m with
  |true=>A.1 j? ρ H (jg λt H=>dG t (λZ=>Q (ϑ j?) H) (λZ=>B.1 j? ρ H Q))
  |false=>A.1 f? ρ H λx H=>ok (bT H x) λt=>dG t (λZ=>Q x H) (λZ=>B.1 f? ρ H Q),iQ))
 (λZ A=>(λm ρ H Q=>match m with
  |true=>A.1 j? ρ H (jg λt H=>Q (ϑ !t) H)
  |false=>A.1 f? ρ H λx H=>ok (bT H x) λt=>Q (ϑ !t) H,iQ))
 (λZ Z Z c' A B=>(λm ρ H Q=>c'.1 j? ρ H (jg λt H=>dG t (λZ=>A.1 m ρ H Q) (λZ=>B.1 m ρ H Q)),iQ))
 (λZ E=>(λm ρ H Q=>E.2 ρ H λvs H=>fin m (ύ vs) H Q,iQ))
 (λZ E=>(λm ρ H Q=>E.2 ρ H λvs H=>fin m (ϊ (b? H)) (H++[ό vs]) Q,iQ))
 (XE,λρ H Q=>Q [] H)
 (λZ Z g E=>(XE,λρ H Q=>g.1 f? ρ H λv H=>E.2 ρ H λvs H=>Q (v::vs) H))
 (λm Z H Q=>fin m (ϊ (b? H)) (H++[ώ []]) Q,iQ)
 (λZ Z K g=>(λm ρ H Q=>K.1 f? ρ (H++[ώ []]) λx w=>g.1 f? ρ w λy F=>match x with
  |ϋ i=>F[b? H]? = d? (ώ [])/\fin m (ϊ (b? H)) (F.set (b? H) (ώ [(i,y)])) Q
  |_=>a_,iQ))
 (λks Z E=>(λm ρ H Q=>E.2 ρ (H++[Ϛ []]) λvs w=>w[b? H]? = d? (Ϛ [])/\fin m (ϊ (b? H)) (w.set (b? H) (Ϛ ((ks.zip vs).foldl (λl p=>au p.1 p.2 l) []))) Q,iQ))
 (λm Z H Q=>fin m (ϊ (b? H)) (H++[Ϝ []]) Q,iQ)
 (λZ Z A J=>(λm ρ H Q=>A.1 f? ρ H λx H=>J.1 f? ρ H λy H=>ok (bN x y H) λr=>fin m r H Q,iQ))
 (λZ A=>(λm ρ H Q=>A.1 f? ρ H λx H=>ok (tV x H) λr=>fin m r.1 r.2 Q,iQ))
 (λZ Z A N=>(λm ρ H Q=>A.1 f? ρ H λx H=>N.1 f? ρ H λy H=>ok (mF x y H) λr=>fin m r.1 r.2 Q,iQ))
 (λf Z E=>(λm ρ H Q=>E.2 ρ H λvs H=>aG d f vs H λv H=>fin m v H Q,iQ))
 (λZ x Z O E=>(λm ρ H Q=>O.1 f? ρ H λv H=>ok (jz H v) λc=>ok (T.meth c x) λf=>aA H x v=e?/\E.2 ρ H λvs H=>aG d f (v::vs) H λv H=>fin m v H Q,iQ))
 (λc Z E=>(λm ρ H Q=>E.2 ρ H λvs H=>ok (T.init c) λf=>1<=d/\aG (d - 1) f (ϊ (b? H)::vs) (H++[ϕ c []]) λr H'=>r=ϖ/\fin m (ϊ (b? H)) H' Q,iQ))
 (λZ g=>(λm ρ H Q=>g.1 f? ρ H λx H=>ok (gE H x) λn=>fin m (ϋ n) H Q,iQ))
 (λZ g=>(λm ρ H Q=>g.1 f? ρ H λx H=>ok (iT H x) λl=>fin m (ύ l) H Q,iQ))
 (λZ g=>(λm ρ H Q=>g.1 f? ρ H λx H=>ok (iT H x) λl=>fin m (ϊ (b? H)) (H++[ό l]) Q,iQ))
 (λZ g=>(λm ρ H Q=>g.1 f? ρ H λx H=>match x with| ϋ i=>0<=i/\i<100/\fin m (Ϗ (A? (toString i))) H Q| _=>a_,iQ))
 (λZ g=>(λm ρ H Q=>g.1 f? ρ H λx H=>match x with
  |ϊ n=>match H[n]? with
   |some (ώ kvs)=>b? kvs<64/\fin m (ϊ (b? H)) (H++[ό ((bz (kvs.map (λZ=>Z.1))).map ϋ)]) Q
   |_=>a_
  |_=>a_,iQ))
 (λZ Z=>(XE,iQ))
 (λZ Z O g=>(λm ρ H Q=>O.1 f? ρ H λx H=>dB H x=j?/\g.1 f? ρ H λy H=>ok (dY x y H) λH=>fin m ϖ H Q,iQ))
 (λZ O=>(λm ρ H Q=>O.1 f? ρ H λx H=>ok (zr x H) λr=>fin m r.1 r.2 Q,iQ))
 (λZ Z Z O K g=>(λm ρ H Q=>O.1 f? ρ H λx H=>ao H x=j?/\K.1 f? ρ H λy H=>g.1 f? ρ H λz H=>ok (jb x y z H) λr=>fin m r H Q,iQ))
 (λh D Z Z Z q I C=>(λm ρ H Q=>I.1 f? ρ H λx H=>ok (aH H x) λxs=>cC D (λρ H Q=>C.1 j? ρ H (jg Q)) (q.1 f?) (λH'=>aH H' x=d? xs/\ao H' x=ao H x) (b? H) xs (h.map λo=>o.bind (look ρ)) (H++[ό []]) λH'=>fin m (ϊ (b? H)) H' Q,iQ))
 (λh D Z Z Z q N C=>(λm ρ H Q=>N.1 f? ρ H λx H=>match x with
   |ϋ k=>0<=k/\k<100000/\cC D (λρ H Q=>C.1 j? ρ H (jg Q)) (q.1 f?) (λZ=>ŀ) (b? H) ((l! k.toNat).map λ(j:m?)=>ϋ (j:C?)) (h.map λo=>o.bind (look ρ)) (H++[ό []]) λH'=>fin m (ϊ (b? H)) H' Q
   |_=>a_,iQ))
 (XE,iQ) e
def bh (d:m?) (m:D?) (e:ME) (ρ:Ă) (H:Hp) (Q:V->Hp->Prop):Prop:=(Zg T d e).1 m ρ H Q
def i7 (d:m?) (e:ME) (ρ:Ă) (H:Hp) (Q:g? V->Hp->Prop):Prop:=(Zg T d e).2 ρ H Q
def Yr (d:m?) (e:ME) (ρ:Ă) (H:Hp) (Q:D?->Hp->Prop):Prop:=bh T d j? e ρ H (jg Q)
def d6 (d:m?):MT->V->Ă->Hp->(Ă->Hp->Prop)->Prop
 |.var i,v,ρ,H,Q=>Q (put v ρ i) H
 |.tup is,v,ρ,H,Q=>2<=b? is/\cA is v ρ λρ=>Q ρ H
 |.attr e a,v,ρ,H,Q=>bh T d f? e ρ H λx H=>ok (ck x a v H) λH=>Q ρ H
 |.sub e k,v,ρ,H,Q=>bh T d f? e ρ H λx H=>bh T d f? k ρ H λy H=>ok (cG x y v H) λH=>Q ρ H
def bu (d:m?):MS->Ă->Hp->(Fl->Ă->Hp->Prop)->Prop
 |.skip,ρ,H,Q=>Q ϒ ρ H
 |.seq a b,ρ,H,Q=>bu d a ρ H λf ρ H=>match f with| ϒ=>bu d b ρ H Q| ϲ=>Q ϲ ρ H| Ϭ=>Q Ϭ ρ H| ϣ v=>Q (ϣ v) ρ H
 |.expr e,ρ,H,Q=>bh T d f? e ρ H λZ H=>Q ϒ ρ H
 |.assign t e,ρ,H,Q=>bh T d f? e ρ H λv H=>d6 T d t v ρ H λρ H=>Q ϒ ρ H
 |.augAdd i e,ρ,H,Q=>Aq (look ρ i) λx=>bh T d f? e ρ H λy H=>match x,y with
  |ϋ a,ϋ b=>Q ϒ (put (ϋ (a+b)) ρ i) H
  |_,_=>a_
 |.ite c a b,ρ,H,Q=>Yr T d c ρ H λt H=>dG t (λZ=>bu d a ρ H Q) (λZ=>bu d b ρ H Q)
 |.whil c b,ρ,H,Q=>∃(I:m?->Ă->Hp->Prop) (n:m?),I n ρ H/\∀n ρ H,I n ρ H->Yr T d c ρ H λt H=>dG t (λZ=>bu d b ρ H λf ρ H=>match f with| ϒ=>∃k,k<n/\I k ρ H| Ϭ=>∃k,k<n/\I k ρ H| ϲ=>Q ϒ ρ H| ϣ v=>Q (ϣ v) ρ H) (λZ=>Q ϒ ρ H)
 |.forR t n b,ρ,H,Q=>bh T d f? n ρ H λx H=>match x with
  |ϋ k=>0<=k/\k<100000/\bG (bu d b) (d6 T d t) (λZ=>ŀ) ((l! k.toNat).map λ(j:m?)=>ϋ (j:C?)) ρ H Q
  |_=>a_
 |.fors t g b,ρ,H,Q=>bh T d f? g ρ H λx H=>ok (aH H x) λxs=>bG (bu d b) (d6 T d t) (λH'=>aH H' x=d? xs/\ao H' x=ao H x) xs ρ H Q
 |.ret e,ρ,H,Q=>bh T d f? e ρ H λv H=>Q (ϣ v) ρ H
 |.cont,ρ,H,Q=>Q Ϭ ρ H
 |.tryx b,ρ,H,Q=>bu d b ρ H Q
 |.bad,_,_,_=>a_
end
open Mine.Internal.ME renaming cons->ϓ,var->Ϙ,gv->ϛ,bad->ϟ,bin->ϡ,nil->Ϥ,dictI->ϭ,call->Ϯ,ite->ϯ,int->ϰ,comp->ϵ,none->϶,tuple->Ϻ
open Mine.Internal.MT renaming var->ϝ,tup->Ϩ
open Mine.Internal.MS renaming bad->Ϟ,seq->Ϣ,fors->ϥ,ite->Ϧ,assign->Ϫ,forR->ϴ,skip->Ϲ,augAdd->ϻ
inductive GK where
 |fn (a:e!)|cls (a:e!)|val (v:V)|blt (id:Q_)
def gF (k:m?):m?->g? k!->g? (k!×GK)
 |_,[]=>[]
 |a,x::r=>(x,.fn a)::gF k (a+k) r
def G:g? (k!×GK):=([("LF_NOTYPE",1),("LF_CIRCLE",2),("LF_BOUND",8),("LF_COUNT",9),("LF_KIND",15),("VOID",0),("BOOL",1),("CHAR",2),("I1",3),("U1",4),("I2",5),("U2",6),("I4",7),("U4",8),("I8",9),("U8",10),("NINT",11),("OBJECT",12),("STRING",13),("NULLK",14),("BAD",15),("PRIM_END",16),("R_PRIM",1),("R_CLASS",2),("R_VALUE",3),("R_ARRAY",4),("R_BYREF",5),("R_VAR",6),("R_MVAR",7),("R_BOXED",8),("R_ROREF",9),("R_FTN",10),("R_RAW",11),("DEEPEST_KIND",24),("HEAVIEST_KIND",4096),("ARRAY_TID",5),("NULLABLE_TID",8),("S_CLASS",1),("S_STRUCT",2),("S_IFACE",3),("S_ENUM",5),("TF_ABSTRACT",1),("VA_NONE",0),("VA_IN",2),("GB_CLASS",1),("GB_STRUCT",2),("GB_NEW",4),("MF_STATIC",1),("MF_CTOR",32),("T_OBJECT",1),("T_VALUETYPE",2),("T_ENUM",3),("T_ARRAY",5),("T_NULLABLE",8),("A_PUBLIC",6),("MOST_QUESTIONS",512)]:g? (Q_×C?)).map (λp=>(A? p.1,GK.val (ϋ p.2)))++(
 gF 7 90 ["inner_kinds","row_level","row_length","check_kind_row","check_named","check_args","may_stand","class_kind","prim_kind","var_kind","mvar_kind","boxed_kind","kind_sort","elem_of","tid_of","args_of","is_value","is_ref","is_var","close","close_in","with_inner","box_of","pick_arg","close_all"]++(
 gF 7 349 ["plain_names","type_of","base_of","base_of_prim","ifaces_of","is_ctor"]++(
 gF 7 393 ["bound_kinds","param_is_value","param_has_new","surely_class","is_iface","base_chain","all_ifaces","add_ifaces","stands_for_ref","reduced","is_nullable"]++(
 gF 7 533 ["store_under","store_variance","store_has_new","set_context","loose_base"]++(
 gF 7 566 ["loose_ifaces"]++(
 gF 7 594 ["ref_assignable","source_assignable","assign_settled","settle_book","has_proof","assign_within","assign_look","param_within","var_within","inner_within","elems_within","surely_value","bound_met","goes_to_bound","fits_bound","bounds_kept","check_kind","check_definition","check_arguments","check_margs","put_fault","rule_kinds","rule_signature","rule_bounds","bound_circle","named_fault"]++(
 gF 5 798 ["_law_kind","_law_reach"]++(
 gF 7 810 ["_law_is_class","_law_is_value","_law_values"]++(
 gF 7 829 ["_law_met","_law_parts","_law_odd","_law_count","_law_named","_law_tell","_law_tell_kind","_law_tell_bounds","_law_want"]++(
 gF 5 890 ["_law_bounds","_law_asked","_law_right"]++(
 gF 7 907 ["_law_one","_law_known","_law_any","_law_param","_law_breach","_law_spot","_law_term"]++(
 gF 5 954 ["_law_params","_law_drawn"]++(
 gF 7 966 ["_law_store","law"]++(
 ([("KindTable",.cls 79),("TypeDef",.cls 275),("FieldDef",.cls 296),("MethodDef",.cls 317),("Store",.cls 338),("StoreHost",.cls 522),("Book",.cls 583),("PRIM_TID",.val (ϩ 47)),("TID_PRIM",.val (ϩ 48)),("VALUE_ROOTS",.val (ύ [ϋ (1),ϋ (2),ϋ (3)])),("_law_A",.val (ύ [Ϗ "c",ϋ (64),ύ []])),("_law_B",.val (ύ [Ϗ "c",ϋ (65),ύ []])),("_law_I",.val (ύ [Ϗ "c",ϋ (66),ύ []])),("_law_S",.val (ύ [Ϗ "v",ϋ (68),ύ []])),("_law_INT",.val (ύ [Ϗ "p",ϋ (7)])),("_law_TEXT",.val (ύ [Ϗ "p",ϋ (13)])),("_law_VOID",.val (ύ [Ϗ "p",ϋ (0)])),("_law_COUNTS",.val (ύ [ύ [ϋ (2),ϋ (0)],ύ [ϋ (64),ϋ (0)],ύ [ϋ (65),ϋ (0)],ύ [ϋ (66),ϋ (0)],ύ [ϋ (67),ϋ (1)],ύ [ϋ (68),ϋ (0)],ύ [ϋ (69),ϋ (1)],ύ [ϋ (70),ϋ (1)],ύ [ϋ (71),ϋ (1)],ύ [ϋ (72),ϋ (1)],ύ [ϋ (73),ϋ (0)]])),("_law_FIRST",.val (ύ [ϋ (1),ϋ (1),ϋ (3),ϋ (2),ϋ (0),ϋ (1),ϋ (5),ϋ (2),ϋ (3),ϋ (1),ϋ (4),ϋ (1),ϋ (1),ϋ (15),ϋ (7),ϋ (11),ϋ (1),ϋ (9),ϋ (2),ϋ (3),ϋ (2),ϋ (14),ϋ (1),ϋ (1),ϋ (16),ϋ (0),ϋ (3),ϋ (4),ϋ (12),ϋ (2),ϋ (1),ϋ (17),ϋ (8)]))]:g? (k!×GK))++((["len","range","tuple","list","str","sorted"]:g? Q_).map λs=>(A? s,GK.blt s))))))))))))))))
def Ā:WL where
 init:=λc=>([(79,62),(275,272),(296,293),(317,314),(338,335),(522,477),(583,580)]:g? (e!×e!)).lookup c
 meth:=λc m=>if c=79 then([("row",69),("put",76)]:g? (k!×e!)).lookup m
  else if c=522 then([("base",484),("ifaces_at",491),("sort",498),("variance",505),("under",512),("has_new",519)]:g? (k!×e!)).lookup m
  else e?
structure Cx where
 sc:t_
 nm:g? k!
def č (x:k!):g? k!->p? m?
 |[]=>e?
 |y::r=>if y== x then d? 0 else(č x r).map (λZ=>Z+1)
theorem Ck (x:k!):č x []=none:=rfl
theorem US (x y:k!) (r:g? k!):č x (y::r)=if(y== x)=j? then d? 0 else aaM (λ(x:m?)=>x+1) (č x r):=rfl
def nk {α:Type} (o:p? ĭ) (l c f g:p? α):p? α:=o.bind λk=>abt k l c f e? g
theorem Vv {α:Type} {o:p? ĭ} {l c f g:p? α} {r:α} (h:nk o l c f g=d? r):(o=d? .local/\l=d? r)\/(o=d? g!/\c=d? r)\/(o=d? a!/\f=d? r)\/(o=d? .globalImplicit/\g=d? r):=by
 cases o using aaa with
 |none=>exact nS h
 |some k=>cases k using Ş<;>first|exact nS h|exact x? ⟨rfl,h⟩|exact u? (x? ⟨rfl,h⟩)|exact u? (u? (x? ⟨rfl,h⟩))|exact u? (u? (u? ⟨rfl,h⟩))
def Cx.slot (cx:Cx) (x:k!):p? m?:=nk (cx.sc.names.lookup x) (č x cx.nm) (č x cx.nm) (č x cx.nm) e?
def Cx.eL (cx:Cx) (x:k!):p? m?:=nk (cx.sc.names.lookup x) (č x cx.nm) (č x cx.nm) e? e?
def Cx.glob (cx:Cx) (x:k!):p? GK:=nk (cx.sc.names.lookup x) e? e? e? (G.lookup x)
def p8:g? ME->ME
 |[]=>ϟ
 |[a]=>a
 |a::r=>.and a (p8 r)
def vt:g? ME->ME
 |[]=>ϟ
 |[a]=>a
 |a::r=>.or a (vt r)
def gL:g? ME->ME
 |[]=>Ϥ
 |e::r=>ϓ e (gL r)
def KV {α:Type} (d:α) (f:UnaryOp->k?->ś->α) (e:k?):α:=if h:e.ctorIdx=3 then è e h f else d
theorem IG {C:k?->Prop} (e:k?) (hit:∀a b c,C (.UnaryOp a b c)) (bt:∀e,e.ctorIdx≠3->C e):C e:=if h:e.ctorIdx=3 then è e h hit else bt e h
def Xj {α:Type} (d:α) (f:g? (p? k?)->g? k?->ś->α) (e:k?):α:=if h:e.ctorIdx=6 then Φ e h f else d
theorem WV {C:k?->Prop} (e:k?) (hit:∀a b c,C (.Dict a b c)) (bt:∀e,e.ctorIdx≠6->C e):C e:=if h:e.ctorIdx=6 then Φ e h hit else bt e h
def YN {α:Type} (d:α) (f:g? k?->m?->ś->α) (e:k?):α:=if h:e.ctorIdx=7 then aap e h f else d
theorem Yu {C:k?->Prop} (e:k?) (hit:∀a b c,C (.Set a b c)) (bt:∀e,e.ctorIdx≠7->C e):C e:=if h:e.ctorIdx=7 then aap e h hit else bt e h
def oj {α:Type} (d:α) (f:k?->g? Ō->t_->ś->α) (e:k?):α:=if h:e.ctorIdx=8 then ß e h f else d
theorem tW {C:k?->Prop} (e:k?) (hit:∀a b c d,C (.ListComp a b c d)) (bt:∀e,e.ctorIdx≠8->C e):C e:=if h:e.ctorIdx=8 then ß e h hit else bt e h
def Nd {α:Type} (d:α) (f:k?->g? Ō->t_->ś->α) (e:k?):α:=if h:e.ctorIdx=9 then é e h f else d
theorem KM {C:k?->Prop} (e:k?) (hit:∀a b c d,C (.SetComp a b c d)) (bt:∀e,e.ctorIdx≠9->C e):C e:=if h:e.ctorIdx=9 then é e h hit else bt e h
def GW {α:Type} (d:α) (f:k?->k?->g? Ō->t_->ś->α) (e:k?):α:=if h:e.ctorIdx=10 then à e h f else d
theorem F3 {C:k?->Prop} (e:k?) (hit:∀a b c d e,C (.DictComp a b c d e)) (bt:∀e,e.ctorIdx≠10->C e):C e:=if h:e.ctorIdx=10 then à e h hit else bt e h
def SA {α:Type} (d:α) (f:k?->g? k?->g? Keyword->ś->α) (e:k?):α:=if h:e.ctorIdx=16 then Χ e h f else d
theorem VJ {C:k?->Prop} (e:k?) (hit:∀a b c d,C (.Call a b c d)) (bt:∀e,e.ctorIdx≠16->C e):C e:=if h:e.ctorIdx=16 then Χ e h hit else bt e h
def n9 {α:Type} (d:α) (f:Const->m?->ś->α) (e:k?):α:=if h:e.ctorIdx=19 then á e h f else d
theorem oq {C:k?->Prop} (e:k?) (hit:∀a b c,C (.Constant a b c)) (bt:∀e,e.ctorIdx≠19->C e):C e:=if h:e.ctorIdx=19 then á e h hit else bt e h
def ir {α:Type} (d:α) (f:k?->k!->ś->α) (e:k?):α:=if h:e.ctorIdx=20 then Ð e h f else d
theorem sH {C:k?->Prop} (e:k?) (hit:∀a b c,C (.Attribute a b c)) (bt:∀e,e.ctorIdx≠20->C e):C e:=if h:e.ctorIdx=20 then Ð e h hit else bt e h
def CS {α:Type} (d:α) (f:k?->k?->ś->α) (e:k?):α:=if h:e.ctorIdx=21 then Ñ e h f else d
theorem Br {C:k?->Prop} (e:k?) (hit:∀a b c,C (.Subscript a b c)) (bt:∀e,e.ctorIdx≠21->C e):C e:=if h:e.ctorIdx=21 then Ñ e h hit else bt e h
def Mw {α:Type} (d:α) (f:k?->ś->α) (e:k?):α:=if h:e.ctorIdx=22 then ê e h f else d
theorem Mt {C:k?->Prop} (e:k?) (hit:∀a b,C (.Starred a b)) (bt:∀e,e.ctorIdx≠22->C e):C e:=if h:e.ctorIdx=22 then ê e h hit else bt e h
def kT {α:Type} (d:α) (f:k!->ś->α) (e:k?):α:=if h:e.ctorIdx=23 then Ψ e h f else d
theorem uy {C:k?->Prop} (e:k?) (hit:∀a b,C (x! a b)) (bt:∀e,e.ctorIdx≠23->C e):C e:=if h:e.ctorIdx=23 then Ψ e h hit else bt e h
def Xr {α:Type} (d:α) (f:g? k?->ś->α) (e:k?):α:=if h:e.ctorIdx=24 then Ω e h f else d
theorem Xq {C:k?->Prop} (e:k?) (hit:∀a b,C (.List a b)) (bt:∀e,e.ctorIdx≠24->C e):C e:=if h:e.ctorIdx=24 then Ω e h hit else bt e h
def wV {α:Type} (d:α) (f:g? k?->m?->ś->α) (e:k?):α:=if h:e.ctorIdx=25 then Β e h f else d
theorem BR {C:k?->Prop} (e:k?) (hit:∀a b c,C (.Tuple a b c)) (bt:∀e,e.ctorIdx≠25->C e):C e:=if h:e.ctorIdx=25 then Β e h hit else bt e h
def JM {α:Type} (d:α) (f:p? k?->p? k?->p? k?->ś->α) (e:k?):α:=if h:e.ctorIdx=26 then Γ e h f else d
theorem IU {C:k?->Prop} (e:k?) (hit:∀a b c d,C (.Slice a b c d)) (bt:∀e,e.ctorIdx≠26->C e):C e:=if h:e.ctorIdx=26 then Γ e h hit else bt e h
def isName (e:k?):D?:=kT f? (λZ Z=>j?) e
def eE (e:k?):D?:=SA f? (λf as ks Z=>isName f&&(as.isEmpty&&ks.isEmpty)) e
def Ć (e:k?):D?:=Mw j? (λZ Z=>f?) e
def Ws:Ĺ->D?
 |Operator.Add| .Sub| .Mult| Operator.Mod| .FloorDiv| Operator.BitAnd=>j?
 |_=>f?
def JS (cx:Cx) (e:k?):p? m?:=kT e? (λx Z=>cx.eL x) e
def Ċ (cx:Cx):g? k?->p? (g? m?)
 |[]=>d? []
 |e::r=>(JS cx e).bind λi=>(Ċ cx r).map (i::·)
def UP {α:Type} (c:Const) (d:α) (f:k!->α):α:=match c with
 |.str s=>f s
 |_=>d
def keyOf (k:p? k?):p? k!:=k.bind λe=>n9 e? (λc Z Z=>UP c e? d?) e
def ċ:g? (p? k?)->p? (g? k!)
 |[]=>d? []
 |k::r=>(keyOf k).bind λs=>(ċ r).map (s::·)
def yC:g? k!:=["index","listed","proved","rows","inner"]
def az (sc:t_):g? k!:=(sc.names.filter λp=>p.2== .local||p.2== a!||p.2== g!).map (λZ=>Z.1)
def aB (outer sc:t_):t_:={sc with names:=sc.names.map λp=>if p.2== a!&&outer.kind== b!&&outer.names.lookup p.1== d? g! then(p.1,g!) else p}
def isSet (e:k?):D?:=YN f? (λZ Z Z=>j?) e
def Xn (sc:t_) (e:k?):D?:=kT f? (λx Z=>sc.names.lookup x== d? .local) e
def uF (sc:t_):g? k?->D?
 |[]=>j?
 |e::r=>Xn sc e&&uF sc r
def qr (outer sc:t_):D?:=sc.kind== b!&&outer.kind== b!&&decide (az sc).Nodup&&sc.names.all λp=>abt p.2 (sc.names.lookup p.1== d? .local) f? (outer.names.lookup p.1== d? g!&&sc.names.lookup p.1== d? a!) (sc.names.lookup p.1== d? .globalExplicit) (sc.names.lookup p.1== d? .globalImplicit)
def dW (cx:Cx) (sc:t_):g? (p? m?):=(az sc).map λx=>nk (sc.names.lookup x) e? e? (cx.slot x) e?
def jH (icx:Cx) (e:k?):p? (g? m?):=wV (kT e? (λx p=>if uF icx.sc [x! x p] then Ċ icx [x! x p] else e?) e) (λes Z Z=>if decide (2<=b? es)&&uF icx.sc es then Ċ icx es else e?) e
def Q0 (outer sc:t_) (y:k!) (py cp:ś):D?:=outer.kind== b!&&outer.names.lookup y== d? .local&&py.line== cp.line&&!(sc.names.any λp=>p.1== y&&(p.2== .local||p.2== g!))
def uq:Const->ME
 |.none=>϶
 |.bool b=>.bool b
 |.int i=>ϰ i
 |.str s=>.str s
 |_=>ϟ
def zf (cx:Cx) (x:k!):ME:=if x== ("__debug__":k!)||x== ("__classdict__":k!) then ϟ else match cx.slot x with
 |some i=>Ϙ i
 |Option.none=>match cx.glob x with
  |some k=>match k with
   |.val v=>ϛ v
   |_=>ϟ
  |Option.none=>ϟ
def Jl {α:Type} (c:Const) (d:α) (f:C?->α):α:=match c with
 |.int i=>f i
 |_=>d
def Uz (o:acw):D?:=match o with
 |.USub=>j?
 |_=>f?
def xf (e:k?):ME:=n9 ϟ (λc Z Z=>Jl c ϟ λi=>ϰ (-i)) e
def JY (r:k?->ME) (x:k?):acw->ME
 |.USub=>xf x
 |.Not=>.not (r x)
 |_=>ϟ
def zJ (es:g? ME):PySem.BoolOp->ME
 |.And=>p8 es
 |.Or=>vt es
def Dn (r:k?->ME) (l:k?) (ops:g? ab4) (rs:g? k?):ME:=match ops with
 |[]=>ϟ
 |op::ops=>match ops with
  |_::_=>ϟ
  |[]=>match rs with
   |[]=>ϟ
   |x::rs=>match rs with
    |_::_=>ϟ
    |[]=>if â op x then ϟ else .cmp op (r l) (r x)
def xc (f:ME->ME) (r:k?->ME) (es:g? k?):ME:=if es.all Ć&&decide (b? es<64) then f (gL (es.map r)) else ϟ
def nameKey:g? (p? k?)->p? k?
 |[]=>e?
 |k::ks=>match ks with
  |_::_=>e?
  |[]=>match k with
   |Option.none=>e?
   |some e=>if isName e then d? e else e?
def q9 (r:k?->ME) (ks:g? (p? k?)) (vs:g? k?):ME:=match ks with
 |[]=>if vs.isEmpty then ϭ else ϟ
 |k::ks=>match nameKey (k::ks) with
  |some e=>match vs with
   |[]=>ϟ
   |v::vs=>match vs with
    |[]=>.dictI1 (r e) (r v)
    |_::_=>ϟ
  |Option.none=>match ċ (k::ks) with
   |some l=>if(b? l)=b? vs/\b? l<=15 then .dictS l (gL (vs.map r)) else ϟ
   |Option.none=>ϟ
def BG (e:k?):D?:=KV f? (λop x Z=>Uz op&&n9 f? (λc Z Z=>Jl c f? λi=>i== 1) x) e
def Go (r:k?->ME) (v:k?) (a b c:p? k?):ME:=match a with
 |some _=>ϟ
 |Option.none=>match b with
  |Option.none=>match c with
   |Option.none=>ϟ
   |some s=>if BG s then .rev (r v) else ϟ
  |some u=>match c with
   |Option.none=>.take (r v) (r u)
   |some _=>ϟ
def xd (r:k?->ME) (v i:k?):ME:=JM (.idx (r v) (r i)) (λa b c Z=>Go r v a b c) i
def DW:p? GK->D?
 |some k=>match k with
  |.blt b=>b== "range"
  |_=>f?
 |Option.none=>f?
def T2 (cx:Cx) (f:k!) (as:g? k?) (ks:g? Keyword):p? k?:=match as with
 |[]=>e?
 |a::as=>if as.isEmpty&&(ks.isEmpty&&DW (cx.glob f)) then d? a else e?
def nameOf (d:k!) (e:k?):k!:=kT d (λx Z=>x) e
def eH (cx:Cx) (e:k?):p? k?:=SA e? (λf as ks Z=>if isName f then T2 cx (nameOf ("":k!) f) as ks else e?) e
def BH (r:Cx->k?->ME) (rc:Cx->g? k?->ME) (cx:Cx) (elt:k?) (gs:g? Ō) (sc:t_):ME:=match gs with
 |[]=>ϟ
 |g::gs=>match gs with
  |_::_=>ϟ
  |[]=>if g.is_async=0/\qr cx.sc sc=j? then match jH ⟨aB cx.sc sc,az sc⟩ g.target with
   |Option.none=>ϟ
   |some is=>match eH cx g.iter with
    |some a=>.compR (dW cx sc) is (r ⟨aB cx.sc sc,az sc⟩ elt) (r cx a) (rc ⟨aB cx.sc sc,az sc⟩ g.ifs)
    |Option.none=>ϵ (dW cx sc) is (r ⟨aB cx.sc sc,az sc⟩ elt) (r cx g.iter) (rc ⟨aB cx.sc sc,az sc⟩ g.ifs)
   else ϟ
def EA (b:Q_) (e:ME):ME:=
 if b== "len" then .len e else if b== "tuple" then Ϻ e else if b== "list" then .listOf e else if b== "str" then .strOf e else if b== "sorted" then .sorted e else ϟ
def Kq (r:k?->ME) (cx:Cx) (f:k!) (as:g? k?):ME:=if !(as.all Ć)||f== ("__debug__":k!) then ϟ else match cx.glob f with
 |Option.none=>ϟ
 |some k=>match k with
  |.fn a=>Ϯ a (gL (as.map r))
  |.cls a=>.new a (gL (as.map r))
  |.blt b=>match as with
   |[]=>ϟ
   |x::as=>match as with
    |[]=>EA b (r x)
    |_::_=>ϟ
  |.val _=>ϟ
def yy (r:k?->ME) (o:k?) (m:k!) (as:g? k?):ME:=match as with
 |[]=>if m== ("pop":k!) then .pop (r o) else .meth (r o) m Ϥ
 |x::as=>match as with
  |[]=>if m== ("append":k!) then .append (r o) (r x) else .meth (r o) m (gL [r x])
  |y::as=>match as with
   |[]=>if m== ("get":k!) then .get (r o) (r x) (r y) else .meth (r o) m (gL [r x,r y])
   |z::as=>.meth (r o) m (gL ((x::y::z::as).map r))
def rX (r:k?->ME) (cx:Cx) (f:k?) (as:g? k?) (p:ś):ME:=kT (ir ϟ (λo m ap=>if ap.endLine== p.line&&!eE o&&as.all Ć&&decide (b? as<20) then yy r o m as else ϟ) f) (λf Z=>Kq r cx f as) f
mutual
noncomputable def comp:m?->Cx->k?->ME
 |0,_,_=>ϟ
 |n+1,cx,e=>H! e (λop vs Z=>zJ (vs.map (comp n cx)) op) (λZ Z Z=>ϟ) (λl op r Z=>if Ws op then ϡ op (comp n cx l) (comp n cx r) else ϟ) (λop x Z=>JY (comp n cx) x op) (λZ Z Z Z=>ϟ) (λt b o Z=>ϯ (comp n cx t) (comp n cx b) (comp n cx o)) (λks vs Z=>q9 (comp n cx) ks vs) (λZ Z Z=>ϟ) (λelt gs sc Z=>BH (comp n) (oL n) cx elt gs sc) (λZ Z Z Z=>ϟ) (λZ Z Z Z Z=>ϟ) (λZ Z Z Z=>ϟ) (λZ Z=>ϟ) (λZ Z=>ϟ) (λZ Z=>ϟ) (λl ops rs Z=>Dn (comp n cx) l ops rs) (λf as ks p=>if ks.isEmpty then rX (comp n cx) cx f as p else ϟ) (λZ Z Z Z=>ϟ) (λZ Z=>ϟ) (λc Z Z=>uq c) (λv a Z=>if eE v then ϟ else .attr (comp n cx v) a) (λv i Z=>xd (comp n cx) v i) (λZ Z=>ϟ) (λx Z=>zf cx x) (λes Z=>xc .list (comp n cx) es) (λes Z Z=>xc .tup (comp n cx) es) (λZ Z Z Z=>ϟ)
noncomputable def oL:m?->Cx->g? k?->ME
 |0,_,_=>ϟ
 |n+1,cx,l=>match l with
  |[]=>.bool j?
  |c::r=>match r with
   |[]=>comp n cx c
   |_::_=>ϟ
end
def tZ (e:k?):D?:=kT (ir f? (λZ x Z=>yC.contains x) e) (λx Z=>yC.contains x) e
def isSlice (e:k?):D?:=JM f? (λZ Z Z Z=>j?) e
def gM (n:m?) (cx:Cx) (e:k?):p? MT:=wV (kT (CS (ir e? (λo a Z=>d? (.attr (comp n cx o) a)) e) (λo i Z=>if isSlice i then e? else d? (.sub (comp n cx o) (comp n cx i))) e) (λx Z=>(cx.eL x).map ϝ) e) (λes Z Z=>if 2<=b? es then(Ċ cx es).map Ϩ else e?) e
def vF (e:k?):D?:=GW (Nd (oj f? (λZ Z Z Z=>j?) e) (λZ Z Z Z=>j?) e) (λZ Z Z Z Z=>j?) e
def qg (e:k?):D?:=Xj f? (λks vs Z=>ks.isEmpty&&vs.isEmpty) e
def Pm (e:k?):D?:=oj f? (λZ Z Z Z=>j?) e
def qd (e:k?):D?:=wV f? (λZ Z Z=>j?) e
def Cg:MT->D?
 |Ϩ _=>j?
 |_=>f?
def k6 (n:m?) (cx:Cx) (t e:k?):MS:=
 if qg e then match gM n cx t with
  |some t'=>Ϫ t' (if tZ t then .dJ else ϭ)
  |Option.none=>Ϟ
 else if isName t&&Pm e then kT Ϟ (λy py=>oj Ϟ (λelt gs sc cp=>if Q0 cx.sc sc y py cp then(match cx.eL y with|some i=>Ϫ (ϝ i) (comp n cx (.ListComp elt gs sc cp))| Option.none=>Ϟ) else Ϟ) e) t
 else match gM n cx t with
  |some t'=>if Cg t'&&qd e then Ϟ else Ϫ t' (comp n cx e)
  |Option.none=>Ϟ
def xu (n:m?) (cx:Cx) (t it:k?) (b:MS):MS:=match gM n cx t with
 |Option.none=>Ϟ
 |some t'=>match t' with
  |.attr ..=>Ϟ
  |.sub ..=>Ϟ
  |t'=>match eH cx it with
   |some a=>ϴ t' (comp n cx a) b
   |Option.none=>ϥ t' (comp n cx it) b
def TO (o:Ĺ):D?:=match o with
 |Operator.Add=>j?
 |_=>f?
def Pa (n:m?) (cx:Cx) (t:k?) (op:Ĺ) (e:k?):MS:=kT Ϟ (λx Z=>if TO op then(if x== ("__classdict__":k!) then Ϟ else match cx.eL x with|some i=>ϻ i (comp n cx e)| Option.none=>Ϟ) else Ϟ) t
def To {α:Type}:g? α->D?
 |[]=>f?
 |_::_=>j?
mutual
noncomputable def Dv:m?->Cx->Ĩ->MS
 |0,_,_=>Ϟ
 |n+1,cx,s=>aaN s (λZ Z Z Z Z Z Z Z Z Z=>Ϟ) (λZ Z Z Z Z Z Z Z Z Z=>Ϟ) (λZ Z Z Z Z Z Z Z Z Z Z=>Ϟ) (λe Z=>ĥ e Ϟ λe=>.ret (comp n cx e)) (λZ Z=>Ϟ) (λts e Z=>i_ ts Ϟ λt ts=>i_ ts (k6 n cx t e) λZ Z=>Ϟ) (λZ Z Z Z Z Z Z=>Ϟ) (λt op e Z=>Pa n cx t op e) (λZ Z Z Z Z=>Ϟ) (λt it b o Z=>i_ o (xu n cx t it (d9 n cx b)) λZ Z=>Ϟ) (λZ Z Z Z Z=>Ϟ) (λc b o Z=>i_ o (.whil (comp n cx c) (d9 n cx b)) λZ Z=>Ϟ) (λc a b Z=>Ϧ (comp n cx c) (d9 n cx a) (d9 n cx b)) (λZ Z Z=>Ϟ) (λZ Z Z=>Ϟ) (λZ Z Z=>Ϟ) (λZ Z Z=>Ϟ) (λb h o f Z=>i_ o (i_ f (if To h then .tryx (d9 n cx b) else Ϟ) λZ Z=>Ϟ) λZ Z=>Ϟ) (λZ Z Z Z Z=>Ϟ) (λZ Z Z=>Ϟ) (λZ Z=>Ϟ) (λZ Z Z Z=>Ϟ) (λZ Z=>Ϟ) (λZ Z=>Ϟ) (λe Z=>if isName e||vF e then Ϟ else .expr (comp n cx e)) (λZ=>Ϲ) (λZ=>Ϟ) (λZ=>.cont)
noncomputable def d9:m?->Cx->g? Ĩ->MS
 |0,_,_=>Ϟ
 |n+1,cx,l=>match l with
  |[]=>Ϲ
  |s::r=>match r with
   |[]=>Dv n cx s
   |s'::r=>Ϣ (Dv n cx s) (d9 n cx (s'::r))
end
open Mine.Internal.GK renaming val->ϱ
theorem gy.after {w:u!} {ι a:ć} {s s':y?} {Q:V->Hp->Prop} {K:s?->y?->Prop} (st:ą ι s.heap a s'.heap) (g:bR s s') (T:gy w ι s Q K):gy w a s' Q K:=
 λv h b i c q e f S R=>T v h b i c q (g.trans e) (st.trans f) S R
theorem gy.now {w:u!} {ι:ć} {s:y?} {H:Hp} {Q:V->Hp->Prop} {K:s?->y?->Prop} {v:V} {a:s?} (T:gy w ι s Q K) (S:SR w ι H s.heap) (R:VR ι s.heap v a) (q:Q v H):K a s:=
 T v H ι a s q (bR.refl s) (ą.refl _ _) S R
theorem gy.tok {w:u!} {ι:ć} {s:y?} {H:Hp} {Q:V->Hp->Prop} {K:s?->y?->Prop} {v:V} {a:s?} {t:m?} (T:gy w ι s Q K) (S:SR w ι H s.heap) (R:VR ι s.heap v a) (q:Q v H):K a {s with toks:=t}:=
 T v H ι a {s with toks:=t} q ⟨rfl,rfl⟩ (ą.refl _ _) S R
theorem bw {b:Type} {o:p? b} {P:b->Prop}:ok o P↔∃a,o=d? a/\P a:=
 ⟨λh=>by rcases h with⟨h⟩;exact⟨_,rfl,h⟩,λ⟨a,e,h⟩=>e▸.mk h⟩
theorem xC {b:Type} {o:p? b} {P:b->Prop}:Aq o P↔∃a,o=d? a/\P a:=by
 cases o using aaa with
 |none=>simp[Aq]
 |some a=>simp[Aq]
theorem bL {b:Type} {a:b} {P:b->Prop}:ok (d? a) P=P a:=abY ⟨λh=>by rcases h with⟨h⟩;exact h,.mk⟩
theorem kM {A B:ŝ->Prop}:dG j? A B=A ():=rfl
theorem kA {A B:ŝ->Prop}:dG f? A B=B ():=rfl
section
variable {sc:t_} {nm:g? k!} {d:m?} {ρ:Ă} {H:Hp} {Q:V->Hp->Prop}
theorem Ts {i:C?} {k:m?} {p:ś} (q:Q (ϋ i) H):EV sc nm d (.Constant (.int i) k p) ρ H Q:=
 λZ Z Z Z Z Z Z Z Z S Z T=>Ŕ (T.tok S (.int i _) q)
theorem Uv {x:k!} {k:m?} {p:ś} (q:Q (Ϗ x) H):EV sc nm d (.Constant (.str x) k p) ρ H Q:=
 λZ Z Z Z Z Z Z Z Z S Z T=>wpAny_mkText (T.tok S (.str x _) q)
theorem QI {k:m?} {p:ś} (q:Q ϖ H):EV sc nm d (.Constant .none k p) ρ H Q:=
 λZ Z Z Z Z Z Z Z Z S Z T=>v? (T.now S .none q)
theorem PE {b:D?} {k:m?} {p:ś} (q:Q (ϑ b) H):EV sc nm d (.Constant (.bool b) k p) ρ H Q:=
 λZ Z Z Z Z Z Z Z Z S Z T=>v? (T.now S (.bool b) q)
theorem xN:∀{ρ:Ă} {i:m?} {v:V},look ρ i=d? v->ρ[i]? = d? (d? v):=by
 intro l;induction l with
 |nil=>
  rintro i;exact λh=>nS h
 |cons o r I=>
  intro y;cases y using aac with
  |zero=>
   exact λh=>R? d? h
  |succ i=>
   exact λh=>I h
set_option tactic.hygienic true in
theorem i9 {x:k!}:∀{l:g? k!} {i:m?},č x l=d? i->l[i]? = d? x:=by
 intro L;induction L with
 |nil=>
  exact λh=>by rename_i i;simp[Ck] at h
 |cons y r I=>
  exact λh=>by
   rename_i i;have h:(if y== x then d? 0 else(č x r).map (λZ=>Z+1))=d? i:=h;by_cases e:(y== x)=j?
   ·rw[P? e] at h;cases h;exact R? d? (U?.mp e)
   ·rw[E? e] at h;show bf (K!.mp h) λj a E=>?_;subst E;exact I a
set_option tactic.hygienic true in
theorem slot_of {cx:Cx} {x:k!} {i:m?} (h:cx.slot x=d? i):cx.nm[i]? = d? x/\(cx.sc.names.lookup x=d? .local\/cx.sc.names.lookup x=d? g!\/cx.sc.names.lookup x=d? a!):=by
 have I:č x cx.nm=d? i->cx.nm[i]? = d? x:=i9;rcases Vv h with⟨e,h⟩| ⟨e,h⟩| ⟨e,h⟩| ⟨_,h⟩
 ·exact⟨I h,x? e⟩
 ·exact⟨I h,u? (x? e)⟩
 ·exact⟨I h,u? (u? e)⟩
 ·exact nS h
theorem ug {w:u!} {A:D!} {E:s?->y?->Prop} {s:y?} {env:Ó} {ι:ć} {cx:Cx} {x:k!} {i:m?} {v:V} {K:s?->y?->Prop} (O:cK cx.sc env) (R:LR ι s.heap env cx.nm ρ)
  (h:cx.slot x=d? i) (t:look ρ i=d? v) (p:(x== ("__classdict__":k!))=f?) (q:∀g,VR ι s.heap v g->K g s):n! (j! pw w) A (adb env x) K E s:=by
 show r! (λl f=>?_) (slot_of h);have o:=xN t;have k:∀y,env.kindOf y=cx.sc.names.lookup y:=λy=>by rw[<- O.scope];rfl
 have a:env.scope.kind=b!:=by rw[O.scope];exact O.kind
 rcases f with f|f|f
 ·show bf R.ns λm n r=>?_;obtain⟨g,e,b⟩:=r i x v l o (by rw[k];exact f);exact wpAny_loadName_local a (by rw[k];exact f) n e (q g b)
 ·obtain⟨c,g,e,j,b⟩:=R.held i x v l o (x? (by rw[k];exact f));exact wpAny_loadName_cell a (by rw[k];exact f) e j (q g b)
 ·obtain⟨c,g,e,j,b⟩:=R.held i x v l o (u? (by rw[k];exact f));exact wpAny_loadName_free a (by rw[k];exact f) e j (q g b) p
theorem MH {cx:Cx} {x:k!} {p:ś} {i:m?} {v:V} (h:cx.slot x=d? i) (e:look ρ i=d? v) (c:(x== ("__debug__":k!))=f?) (a:(x== ("__classdict__":k!))=f?) (q:Q v H):EV cx.sc cx.nm d (x! x p) ρ H Q:=
 λZ Z Z Z Z Z Z o Z S R T=>È (ug o R h e a (λf b=>T.now S b q)) c
theorem Uw {op:Ĺ} {l r:k?} {p:ś} (h:EV sc nm d l ρ H λx H=>EV sc nm d r ρ H λy H=>
  ∀(w:u!) (A:D!) (ι:ć) (s:y?) (X Y:s?) (K:s?->y?->Prop) (E:s?->y?->Prop),cJ A d->SR w ι H s.heap->VR ι s.heap x X->VR ι s.heap y Y->gy w ι s Q K->n! (j! pw w) A (binaryOp op X Y) K E s) :
  EV sc nm d (.BinOp l op r p) ρ H Q:=by
 intro w A env ι s K E o a S R T;show wpAny_BinOp (h w A env ι s _ E o a S R ?_);intro x u g X q m e c j R1;show m w A env g q _ E o a j (R.step S c) ?_;intro y v i Y t n f b k R2;exact n w A i t X Y K E a k (R1.mono b.ext (b.tup j)) R2 (gy.after (c.trans b) (e.trans f) T)
theorem Vm {op:ab4} {l r:k?} {p:ś} (q:â op r=f?) (h:EV sc nm d l ρ H λx H=>EV sc nm d r ρ H λy H=>
  ∀(w:u!) (A:D!) (ι:ć) (s:y?) (X Y:s?) (K:s?->y?->Prop) (E:s?->y?->Prop),cJ A d->SR w ι H s.heap->VR ι s.heap x X->VR ι s.heap y Y->gy w ι s Q K->n! (j! pw w) A (ë op X Y) K E s) :
  EV sc nm d (.Compare l [op] [r] p) ρ H Q:=by
 intro w A env ι s K E o a S R T;show wpAny_Compare1 (h w A env ι s _ E o a S R ?_) q;intro x v g X t m e c j R1;show m w A env g t _ E o a j (R.step S c) ?_;intro y z i Y u n f b k R2;exact n w A i u X Y K E a k (R1.mono b.ext (b.tup j)) R2 (gy.after (c.trans b) (e.trans f) T)
end
theorem ĉ.snoc (ι:ć) (p:e!×e!):ĉ ι (ι++[p]):=λn q e=>by
 rw[H? (i?.mp e).1];exact e
theorem fZ {b:Type} {l:g? b} {x:b} {n:m?} {y:b} (h:(l++[x])[n]? = d? y):l[n]? = d? y\/(n=b? l/\y=x):=by
 show ĵ (abb n (b? l)) (λH=>?_) λH=>?_
 ·rw[H? H] at h;exact x? h
 ·rw[c! H] at h;show Q! (i?.mp h) λa d=>?_;have c:n - b? l=0:=by simpa using a
  show u? ⟨(ny H c).symm,?_⟩
  simpa [] using d.symm
theorem eg {a:Type} (l:g? a) (x:a):(l++[x])[b? l]? = d? x:=by simp
theorem eN.snoc {ι:ć} {p:e!×e!} {b:e!} (m:eN (ι++[p]) b):eN ι b\/b=p.1\/b=p.2:=by
 show pq m λn q e h=>?_;try clear m
 rcases fZ e with e| ⟨_,rfl⟩
 ·exact x? ⟨n,q,e,h⟩
 ·exact u? h
theorem SR.snoc {w:u!} {ι:ć} {H:Hp} {h h':Y!} {p:e!×e!} {c:ā} (S:SR w ι H h) (k:∀b o,h.get? b=d? o->h'.get? b=d? o) (N:h.get? p.1=none) (s:h.get? p.2=none)
  (i:974<=p.1) (j:974<=p.2) (t:p.2=p.1\/∃C fs,c=ϕ C fs) (X:CR w (ι++[p]) h' p c):SR w (ι++[p]) (H++[c]) h'/\ą ι h (ι++[p]) h':=by
 have O:∀b,eN ι b->b≠p.1/\b≠p.2:=λb m=>by
  exact Q! (S.iq m) λo e=>⟨λE=>(by rw[E,N] at e;cases e),λE=>(by rw[E,s] at e;cases e)⟩
 show⟨⟨λb o e=>k b o (S.base b o e),by simp[S.len],?_,?_,?_,?_⟩,⟨ĉ.snoc _ _,?_,λb o Z e=>k b o e⟩⟩
 ·intro n c' q d a;rcases fZ a with a| ⟨rfl,rfl⟩
  ·have l:n<b? H:=by rw[<- S.len];exact(i?.mp a).1
   rw[H? l] at d;exact(S.cells n c' q d a).mono (ĉ.snoc _ _) (aP.of k) (λb o Z e=>k b o e)
  ·rw[S.len,eg] at d;cases d;exact X
 ·intro n c' q d a;rcases fZ a with a| ⟨rfl,rfl⟩
  ·have l:n<b? H:=by rw[<- S.len];exact(i?.mp a).1
   rw[H? l] at d;exact S.two n c' q d a
  ·rw[S.len,eg] at d;cases d;exact t
 ·intro n m q r a u hh;rcases fZ a with f| ⟨rfl,rfl⟩<;>rcases fZ u with g| ⟨rfl,rfl⟩
  ·exact S.sep n m q r f g hh
  ·have a1:=O q.1 ⟨n,q,f,x? rfl⟩;have a2:=O q.2 ⟨n,q,f,u? rfl⟩;show ĵ hh (λh=>?_) λQ=>Q.elim (λh=>?_) λQ=>Q.elim (λh=>?_) λh=>?_<;>try clear hh
   ·exact absurd h a1.1
   ·exact absurd h a1.2
   ·exact absurd h a2.1
   ·exact absurd h a2.2
  ·have a1:=O r.1 ⟨m,r,g,x? rfl⟩;have a2:=O r.2 ⟨m,r,g,u? rfl⟩;show ĵ hh (λh=>?_) λQ=>Q.elim (λh=>?_) λQ=>Q.elim (λh=>?_) λh=>?_<;>try clear hh
   ·exact absurd h.symm a1.1
   ·exact absurd h.symm a2.1
   ·exact absurd h.symm a1.2
   ·exact absurd h.symm a2.2
  ·rfl
 ·intro b m;rcases m.snoc with m|rfl|rfl
  ·exact S.above b m
  ·exact i
  ·exact j
 ·intro b m;rcases m.snoc with m|rfl|rfl
  ·exact x? m
  ·exact u? N
  ·exact u? s
theorem gK (h:Y!):h.get? h.objs.size=none:=by
 cases e:h.get? h.objs.size using aaa with
 |none=>rfl
 |some o=>exact absurd (b_ e) (İ _)
theorem SR.alloc {w:u!} {ι:ć} {H:Hp} {h:Y!} {c:ā} (S:SR w ι H h) (o:Æ) (X:CR w (ι++[(h.objs.size,h.objs.size)]) (h.push o) (h.objs.size,h.objs.size) c) :
  SR w (ι++[(h.objs.size,h.objs.size)]) (H++[c]) (h.push o)/\ą ι h (ι++[(h.objs.size,h.objs.size)]) (h.push o)/\VR (ι++[(h.objs.size,h.objs.size)]) (h.push o) (ϊ (b? H)) (n? h.objs.size):=by
 show r! (λa b=>?_) (S.snoc (h':=h.push o) (p:=(h.objs.size,h.objs.size)) (c:=c) (λb O e=>T_ _ e) (gK h) (gK h) S.size S.size (x? rfl) X);exact⟨a,b,.ref (by rw[<- S.len];exact eg _ _)⟩
theorem SR.turn {w:u!} {ι:ć} {H:Hp} {h h':Y!} {n:m?} {p:e!×e!} {c c':ā} (S:SR w ι H h) (x:H[n]? = d? c) (u:ι[n]? = d? p)
  (k:∀b o,b≠p.1->b≠p.2->h.get? b=d? o->h'.get? b=d? o) (T:p.2=p.1\/∃C fs,c'=ϕ C fs)
  (X:aP h h'->CR w ι h' p c'):SR w ι (H.set n c') h'/\ą ι h ι h':=by
 have l:eN ι p.1:=⟨n,p,u,x? rfl⟩
 have s:eN ι p.2:=⟨n,p,u,u? rfl⟩
 have y:aP h h':=λa vs t=>by
  have nm:=S.uH t;exact bf t λo z r=>⟨o,k a o (λe=>nm (e▸l)) (λe=>nm (e▸s)) z,r⟩
 show⟨⟨λb o e=>?_,by simp[S.len],?_,?_,S.sep,S.above⟩,⟨ĉ.refl _,λZ m=>x? m,λb o nm e=>k b o (λq=>nm (q▸l)) (λq=>nm (q▸s)) e⟩⟩
 ·have d:b<974:=by have:=b_ e;rw[show(H1 w.params).objs.size=974 from aba _ _ _] at this;exact this
  show k b o ?_ ?_ (S.base b o e)
  ·rintro rfl;exact absurd (S.above _ l) (adk.mpr d)
  ·rintro rfl;exact absurd (S.above _ s) (adk.mpr d)
 ·intro m g q i j;by_cases f:n=m
  ·subst f;rw[u] at j;cases j;have v:n<b? H:=(i?.mp x).1;rw[B! v] at i;cases i;exact X y
  ·rw[M? f] at i;have N:∀b,(b=q.1\/b=q.2)->b≠p.1/\b≠p.2:=by
    intro b d;show⟨λe=>f (S.sep n m p q u j ?_),λe=>f (S.sep n m p q u j ?_)⟩
    ·show ĵ d (λd=>?_) λd=>?_
     ·exact x? (e▸d)
     ·exact u? (x? (e▸d))
    ·show ĵ d (λd=>?_) λd=>?_
     ·exact u? (u? (x? (e▸d)))
     ·exact u? (u? (u? (e▸d)))
   exact(S.cells m g q i j).mono (ĉ.refl _) y (λb o d e=>k b o (N b d).1 (N b d).2 e)
 ·intro m g q i j;by_cases f:n=m
  ·subst f;rw[u] at j;cases j;have v:n<b? H:=(i?.mp x).1;rw[B! v] at i;cases i;exact T
  ·rw[M? f] at i;exact S.two m g q i j
theorem SR.listAt {w:u!} {ι:ć} {H:Hp} {h:Y!} {n:m?} {a:e!} {d:e!} {xs:g? V} (S:SR w ι H h) (b:H[n]? = d? (ό xs)) (c:ι[n]? = d? (a,d)):∃(vs:O_ s?) (k:m?),h.get? a=d? {cls:=r? "list",data:=Z! vs k}/\bJ ι h xs vs.toList/\d=a:=by
 show pq (S.cells n _ _ b c) λvs k f g=>⟨vs,k,f,g,?_⟩;rcases S.two n _ _ b c with e|q
 ·exact e
 ·show zp q λC fs e=>?_;cases e
theorem eh {h:Y!} {a:e!} {vs:O_ s?} {k:m?} (e:h.get? a=d? {cls:=r? "list",data:=Z! vs k}):h.IsList a vs:=⟨_,e,rfl,k,rfl⟩
theorem SR.newList {w:u!} {ι:ć} {H:Hp} {h:Y!} {xs:g? V} {vs:O_ s?} {k:m?} (S:SR w ι H h) (R:bJ ι h xs vs.toList) :
  SR w (ι++[(h.objs.size,h.objs.size)]) (H++[ό xs]) (h.push {cls:=r? "list",data:=Z! vs k})/\ą ι h (ι++[(h.objs.size,h.objs.size)]) (h.push {cls:=r? "list",data:=Z! vs k})/\
   VR (ι++[(h.objs.size,h.objs.size)]) (h.push {cls:=r? "list",data:=Z! vs k}) (ϊ (b? H)) (n? h.objs.size):=
 S.alloc _ ⟨vs,k,y! h rfl,R.mono (ĉ.snoc _ _) (aP.of λZ Z e=>T_ _ e)⟩
theorem SR.n5 {w:u!} {ι:ć} {H:Hp} {h:Y!} {xs:g? V} {vs:O_ s?} {k:m?} (S:SR w ι H h) (R:bJ ι h xs vs.toList) :
  SR w ι H (h.push {cls:=r? "tuple",data:=Z! vs k})/\ą ι h ι (h.push {cls:=r? "tuple",data:=Z! vs k})/\VR ι (h.push {cls:=r? "tuple",data:=Z! vs k}) (ύ xs) (n? h.objs.size):=
 have K:∀b o,h.get? b=d? o->(h.push {cls:=r? "tuple",data:=Z! vs k}).get? b=d? o:=λZ Z e=>T_ _ e
 ⟨S.keeps K,ą.keeps K,.tup ⟨_,y! h rfl,rfl,k,rfl⟩ (R.mono (ĉ.refl _) (aP.of K))⟩
def GA (d:m?) (op:Ĺ) (x y:V) (H:Hp) (Q:V->Hp->Prop):Prop:=
 ∀(w:u!) (A:D!) (ι:ć) (s:y?) (X Y:s?) (K:s?->y?->Prop) (E:s?->y?->Prop),cJ A d->SR w ι H s.heap->VR ι s.heap x X->VR ι s.heap y Y->gy w ι s Q K->n! (j! pw w) A (binaryOp op X Y) K E s
theorem cJ.units {A:D!} {d:m?} (r:cJ A d):A.units<9000:=Xs r.2.1 rfl
theorem cJ.sD {A:D!} {d:m?} (r:cJ A d) {n:m?} (h:n<=900):A.units+n<acL:=VX h r.units rfl
theorem ie {a:Type} (x:a):∀(n:m?) (acc:O_ a),(adl (λX b=>X++b) acc (X? n #[x])).toList=acc.toList++X? n x:=by
 intro l;induction l with
 |zero=>
  exact λacc=>by simp
 |succ n i=>
  exact λacc=>by
   rw[aaq,List.foldl_cons,i];simp[aaq]
theorem iU {a:Type} (x:a):∀n,(X? n [x]).flatten=X? n x:=by
 intro l;induction l with
 |zero=>
  exact rfl
 |succ n i=>
  simp[]
theorem bJ.replicate {ι:ć} {h:Y!} {v:V} {a:s?} (r:VR ι h v a):∀n,bJ ι h (X? n v) (X? n a):=by
 intro l;induction l with
 |zero=>
  exact ϫ
 |succ n i=>
  exact ϧ r (i)
theorem bJ.one {ι:ć} {h:Y!} {l:g? V} {vs:O_ s?} (r:bJ ι h l vs.toList) (a:b? l=1):∃v b,l=[v]/\vs= #[b]/\VR ι h v b:=by
 obtain⟨vs⟩:=vs;cases r with
 |nil=>simp at a
 |cons e c=>
  cases c with
  |nil=>exact⟨_,_,rfl,rfl,e⟩
  |cons _ _=>simp at a
theorem Kd (l:e!) (i:O_ s?) (n:m?) (dd:p? e!) (S:O_ (p? s?)) (x:C?) (u:Tok) (a:x=1) :
  Meets (acX.«tuple.__mul__» ⟨[n? l,z? x u],[]⟩) (λZ R s=>s.heap.get? l=d? {cls:=r? "tuple",dict:=dd,data:=Z! i n,slots:=S}/\R (.ok (.ret (n? l))) s):=
 .of_wp λp w A R s h=>by obtain⟨c,g,d,t,o⟩:=s;obtain⟨b,h⟩:=h;subst a;wp_walk;exact⟨_,rfl,h⟩
theorem Kp (l:e!) (i:O_ s?) (n:m?) (dd:p? e!) (S:O_ (p? s?)) (x:C?) (u:Tok) (a:x=0) (b:i.isEmpty=f?) :
  Meets (acX.«tuple.__mul__» ⟨[n? l,z? x u],[]⟩) (λZ R s=>s.heap.get? l=d? {cls:=r? "tuple",dict:=dd,data:=Z! i n,slots:=S}/\R (.ok (.ret (n? s.heap.objs.size))) {s with heap:=s.heap.push {cls:=r? "tuple",data:=Z! #[]}}):=
 .of_wp λp w A R s h=>by obtain⟨e,g,d,t,o⟩:=s;obtain⟨c,h⟩:=h;subst a;wp_walk;exact⟨_,rfl,h⟩
theorem IW (l:e!) (v:s?) (n:m?) (dd:p? e!) (S:O_ (p? s?)) (x:C?) (u:Tok) (a:x=2) :
  Meets (acX.«tuple.__mul__» ⟨[n? l,z? x u],[]⟩) (λZ R s=>s.heap.get? l=d? {cls:=r? "tuple",dict:=dd,data:=Z! #[v] n,slots:=S}/\R (.ok (.ret (n? s.heap.objs.size))) {s with heap:=s.heap.push {cls:=r? "tuple",data:=Z! #[v,v]}}):=
 .of_wp λp w A R s h=>by
  obtain⟨c,g,d,t,o⟩:=s;obtain⟨b,h⟩:=h;subst a
  wp_walk
  all_goals exact⟨_,rfl,h⟩
theorem rh (a:C?) (t:Tok) (l:e!) (i:O_ s?) (n:m?) (dd:p? e!) (S:O_ (p? s?)) :
  Meets (acX.«int.__rmul__» ⟨[z? a t,n? l],[]⟩) (λZ R s=>s.heap.get? l=d? {cls:=r? "tuple",dict:=dd,data:=Z! i n,slots:=S}/\R (.ok (.ret Value.notImplemented)) s):=
 .of_wp λp w A R s h=>by obtain⟨c,g,d,T,o⟩:=s;obtain⟨b,h⟩:=h;wp_walk;exact⟨_,rfl,h⟩
theorem nH:fillsNumberSlot (r? "tuple") "mul"=pure f?:=
 PySem.fillsNumberSlot_seq (id:="tuple.__mul__") (r:=d? (.builtin "tuple.__rmul__")) Ű.lookup (by decide+kernel) F.slot_tuple_rmul.lookup (by decide+kernel)
theorem wY:seqRepeat? (r? "tuple")=pure (d? (.builtin "tuple.__mul__")):=by
 rfl
theorem dP {f:Type} {c:Prop} [ů c] {a:p? f} {b:f} (h:(if c then a else e?)=d? b):c/\a=d? b:=by
 by_cases e:c
 ·exact⟨e,(P? e).symm.trans h⟩
 ·rw[E? e] at h;cases h
section
variable {d:m?} {H:Hp} {Q:V->Hp->Prop}
set_option tactic.hygienic true in
theorem vX {n:m?} {y:C?} {x:g? V} (m:H[n]? = d? (ό x)) (z:0<=y) (B:y<100000) (l:b? x=1) (q:Q (ϊ (b? H)) (H++[ό ((X? y.toNat x).flatten)])) :
  GA d .Mult (ϊ n) (ϋ y) H Q:=by
 intro w A ι s C Y K E r S R1 R2 T;obtain⟨_,e⟩:=VR.int_inv R2;subst e;rename_i u;obtain⟨_,_,_,e⟩:=VR.jY R1;subst e;rename_i a dd c;show fL (S.listAt m c) λvs k h o Z=>fL (bJ.one o l) λv b f g p=>?_;subst f;subst g;show Ò (T:="list") (U:="int") rfl ⟨_,h,rfl⟩ (λs'=>aaO s' y u) noFill_list_mul abR ź repeat_list abu.lookup
  (É ź (aaO s y u) abv (abc _ _) (int___rmul___int_list y u a #[b] k)
   ⟨h,rfl,⟨_,h,rfl⟩,É F.slot_list_mul ⟨_,h,rfl⟩ F.entry_list_mul (F.args_list_mul_2 _ _)
    (aa3 a #[b] k y u (by simp[Ê];lia) (by rw[show(#[b]:O_ s?).size=1 from rfl];lia) (by simp[acx,ğ];lia)) ⟨h,?_⟩⟩)
 have R:bJ ι s.heap ((X? y.toNat [v]).flatten) (adl (λX t=>X++t) #[] (X? y.toNat #[b])).toList:=by
  rw[ie,iU]
  simpa using bJ.replicate p y.toNat
 exact fP (S.newList (k:=0) R) λj st i=>T _ _ _ _ _ q ⟨rfl,rfl⟩ st j i
set_option tactic.hygienic true in
theorem sV {n m:m?} {x y:g? V} (B:H[n]? = d? (ό x)) (z:H[m]? = d? (ό y)) (v:b? x+b? y<aJ) (q:Q (ϊ (b? H)) (H++[ό (x++y)])):GA d v! (ϊ n) (ϊ m) H Q:=by
 intro w A ι s X Y K E r S R1 R2 T;obtain⟨_,_,_,e⟩:=VR.jY R1;subst e;rename_i a D t;obtain⟨_,_,_,e⟩:=VR.jY R2;subst e;rename_i b I u;show fL (S.listAt B t) λvs k g i Z=>fL (S.listAt z u) λW C h c Z=>?_;have f:vs.size+W.size<=ğ:=by
  have o:b? x=vs.size:=i.length;have p:b? y=W.size:=c.length;rw[<- o,<- p];exact S? (Ã v) (by decide)
 show ú ⟨_,g,rfl⟩ ⟨_,h,rfl⟩ noFill_list_add seq_list_add PySem.F.slot_list_add PySem.F.entry_list_add (PySem.F.args_list_add_2 _ _) (list_addW a b vs W k C none none #[] #[] f) ⟨g,h,?_⟩;have R:bJ ι s.heap (x++y) (vs++W).toList:=by rw[aar];exact i.append c
 exact fP (S.newList (k:=0) R) λl st j=>T _ _ _ _ _ q ⟨rfl,rfl⟩ st l j
set_option tactic.hygienic true in
theorem wA {x y:g? V} (Y:b? x+b? y<aJ) (q:Q (ύ (x++y)) H):GA d v! (ύ x) (ύ y) H Q:=by
 intro w A ι s x' y' K E B S R1 R2 T;cases R1 with
 |tup I l=>
 rename_i vs a;cases R2 with
 |tup J c=>
 rename_i W b;have p:vs.size+W.size<=ğ:=by
  have P:b? x=vs.size:=by simpa using l.length
  have X:b? y=W.size:=c.length;rw[<- P,<- X];exact S? (Ã Y) (by decide)
 obtain⟨⟨O,dd,u,t⟩,g,v,n,z⟩:=id I;obtain⟨⟨C,D,o,f⟩,h,i,N,j⟩:=id J;simp only at v z i j;subst v z i j;by_cases m:vs.isEmpty=j?
 ·have e:vs= #[]:=by simpa using m
  subst e;have hx:x=[]:=by cases l;rfl
  subst hx;exact ú ⟨_,g,rfl⟩ ⟨_,h,rfl⟩ ì aaI ş ŗ (ō _ _)
   (tuple_addW0 a b #[] W n N dd D t f m) ⟨g,h,T.now S (.tup J c) q⟩
 ·by_cases r:W.isEmpty=j?
  ·have e:W= #[]:=by simpa using r
   subst e;have hy:y=[]:=by cases c;rfl
   subst hy;rw[S!] at q;exact ú ⟨_,g,rfl⟩ ⟨_,h,rfl⟩ ì aaI ş ŗ (ō _ _)
    (tuple_addW1 a b vs #[] n N dd D t f m r) ⟨g,h,T.now S (.tup I l) q⟩
  ·show ú ⟨_,g,rfl⟩ ⟨_,h,rfl⟩ ì aaI ş ŗ (ō _ _)
    (tuple_addW2 a b vs W n N dd D t f m r p) ⟨g,h,?_⟩
   have R:bJ ι s.heap (x++y) (vs++W).toList:=by rw[aar];exact l.append c
   exact fP (S.n5 (k:=0) R) λM st L=>T _ _ _ _ _ q ⟨rfl,rfl⟩ st M L
set_option tactic.hygienic true in
theorem yv {y:C?} {x:g? V} (z:y=0\/y=1\/y=2) (B:b? x=1) (q:Q (ύ ((X? y.toNat x).flatten)) H):GA d .Mult (ύ x) (ϋ y) H Q:=by
 intro w A ι s X Y K E r S R1 R2 T;obtain⟨_,e⟩:=VR.int_inv R2;subst e;rename_i u;cases R1 with
 |tup t o=>
 rename_i vs a;show fL (bJ.one o B) λv b i j p=>?_;subst i;subst j;obtain⟨⟨C,dd,D,c⟩,h,l,n,m⟩:=id t;simp only at l m;subst l m;have g:n! (j! pw w) A (ŭ (.builtin "tuple.__mul__") [n? a,z? y u]) K E s:=by
  rcases z with rfl|rfl|rfl
  ·show É Ű ⟨_,h,rfl⟩ Õ (Ë _ _) (Kp a #[b] n dd c 0 u rfl rfl) ⟨h,?_⟩;exact fP (S.n5 (k:=0) (xs:=[]) (vs:=#[]) ϫ) λf st R=>T _ _ _ _ _ q ⟨rfl,rfl⟩ st f R
  ·show É Ű ⟨_,h,rfl⟩ Õ (Ë _ _) (Kd a #[b] n dd c 1 u rfl) ⟨h,?_⟩;exact T.now S (.tup t o) q
  ·show É Ű ⟨_,h,rfl⟩ Õ (Ë _ _) (IW a b n dd c 2 u rfl) ⟨h,?_⟩;exact fP (S.n5 (k:=0) (xs:=[v,v]) (vs:=#[b,b]) (ϧ p (ϧ p ϫ))) λf st R=>T _ _ _ _ _ q ⟨rfl,rfl⟩ st f R
 exact Ò (T:="tuple") (U:="int") rfl ⟨_,h,rfl⟩ (λs'=>aaO s' y u) nH abR ź wY abu.lookup
  (É ź (aaO s y u) abv (abc _ _) (rh y u a #[b] n dd c) ⟨h,rfl,⟨_,h,rfl⟩,g⟩)
theorem Pk {op:Ĺ} {x y z:C?} (e:binI op x y=d? z) (q:Q (ϋ z) H):GA d op (ϋ x) (ϋ y) H Q:=by
 intro w A ι s X Y K E r S R1 R2 T;obtain⟨_,e⟩:=VR.int_inv R1;subst e;obtain⟨_,e⟩:=VR.int_inv R2;subst e;have a:∀t b,K (z? z t) {s with toks:=b}:=λt b=>T.tok S (.int _ _) q;clear T q S;cases op using û with
 |Add=>cases e;exact wpAny_add_int (a _ _)
 |Sub=>cases e;exact P.sub_int (a _ _)
 |Mult=>
  show r! (λh e=>?_) (dP e);cases e;exact P.mul_int (a _ _) (IntMulOk.of_left (intBits_le_64 (VV h.1) (Wy h.2.1)))
 |Mod=>
  show r! (λh e=>?_) (dP e);cases e;show mod_int' (WB h.1) ?_;rw[Int.fmod_eq_emod_of_nonneg _ (acY h.1)];exact a _ _
 |BitAnd=>
  show r! (λh e=>?_) (dP e);cases e;show and_int ?_;have c:ab6 x y=((x.toNat &&& y.toNat:m?):C?):=by
   unfold ab6;simp[h.1,h.2.2.1]
  rw[c];exact a _ _
 |FloorDiv=>
  show r! (λh e=>?_) (dP e);cases e;show floordiv_int (WB h.1) ?_;rw[Int.fdiv_eq_ediv_of_nonneg _ (acY h.1)];exact a _ _
 |_=>cases e
theorem Ft {op:Ĺ} {x y:V} (h:ok (cY op x y H) λr=>Q r.1 r.2):GA d op x y H Q:=by
 obtain⟨⟨v,H'⟩,e,q⟩:=bw.mp h;clear h;cases x using ϔ<;>first|(cases e;done)|skip
 ·cases y using ϔ<;>first|(cases e;done)|skip
  show bf (K!.mp e) λz g b=>?_;cases b;exact Pk g q
 ·cases y using ϔ<;>first|(cases e;done)|skip

  obtain⟨⟨c,a⟩,b⟩:=dP e;subst c;cases b;intro w A ι s X Y K E R S R1 R2 T;obtain⟨_,e⟩:=VR.str_inv R1;subst e;obtain⟨_,e⟩:=VR.str_inv R2;subst e;show ade (λt j=>?_) (S? (Ã a) (by decide));exact T.tok S (.str _ _) q
 ·cases y using ϔ<;>first|(cases e;done)|skip
  ·obtain⟨⟨c,a⟩,b⟩:=dP e;subst c;cases b;exact yv a.1 a.2 q
  ·obtain⟨⟨c,a⟩,b⟩:=dP e;subst c;cases b;exact wA a q
 ·cases y using ϔ<;>first|(cases e;done)|skip
  ·show bf (ė.mp e) λl f e=>?_

   obtain⟨⟨c,a⟩,b⟩:=dP e;subst c;cases b;exact vX (jB f) a.1 a.2.1 a.2.2 q
  ·show bf (ė.mp e) λl f e=>bf (ė.mp e) λm i e=>?_

   obtain⟨⟨c,a⟩,b⟩:=dP e;subst c;cases b;exact sV (jB f) (jB i) a q
end
def pyd:m?->V->PyData
 |0,v=>ϔ v .none (λZ=>.none) (λi=>.int i) (λs=>.str s) (λZ=>.none) (λZ=>.none) (λZ=>.none)
 |n+1,v=>ϔ v .none (λZ=>.none) (λi=>.int i) (λs=>.str s) (λl=>.tuple (l.map (pyd n))) (λZ=>.none) (λZ=>.none)
theorem uM (n:m?) (i:C?):pyd n (ϋ i)= .int i:=by cases n using aac<;>rfl
theorem ub (n:m?) (s:k!):pyd n (Ϗ s)= .str s:=by cases n using aac<;>rfl
theorem mO (I:∀{v:V} {a:s?},V.pl n v=j?->VR ι h v a->∃as,adf h a (pyd n v) as) (H:l.all (V.pl n)=j?) (d:bJ ι h l L):∃as,adg h L (l.map (pyd n)) as:=
 bJ.ind (P:=λl L=>l.all (V.pl n)=j?->∃as,adg h L (l.map (pyd n)) as) (λZ=>⟨_,.nil⟩) (λe Z i H=>by
  show r! (λb c=>?_) (t?.mp H);exact Q! (I b e) λas r=>Q! (i c) λbs rs=>⟨_,.cons r rs⟩) d H
set_option tactic.hygienic true in
theorem lW:∀{n:m?} {v:V} {b:s?},V.pl n v=j?->VR ι h v b->∃as,adf h b (pyd n v) as:=by
 intro n;induction n with
 |zero=>
  intro v b H r;exact VR.Qv (P:=λv b=>∃as,adf h b (pyd 0 v) as) H r (λZ Z=>⟨_,.int _ _⟩) (λZ Z=>⟨_,.str _ _⟩) (λZ Z Z Z e=>nomatch e)
 |succ n I=>
  intro v b H r;show VR.Qv (P:=λv b=>∃as,adf h b (pyd (n+1) v) as) H r (λZ Z=>⟨_,.int _ _⟩) (λZ Z=>⟨_,.str _ _⟩) (λm l a vs c d s p=>?_);cases c;obtain⟨o,j,g,k,i⟩:=s;exact Q! (mO I d p) λas q=>⟨_,.tuple j g i q⟩
theorem rN (I:∀v:V,V.pl n v=j?->(pyd n v).canLay0=j?/\(pyd n v).depth<=n):∀l:g? V,l.all (V.pl n)=j?->ľ (l.map (pyd n))=j?/\ĺ (l.map (pyd n))<=n:=by
 intro L;induction L with
 |nil=>
  rintro _;simp[ľ,ĺ]
 |cons v l i=>
  rintro h;simp only[Ŏ,Y?] at h;show r! (λH a=>?_) (I v h.1);show r! (λb c=>?_) (i h.2);simp only[C!,ľ,H,b,Bool.and_self,K?];exact Nat.max_le.mpr ⟨a,c⟩
theorem vN:∀(n:m?) (v:V),V.pl n v=j?->(pyd n v).canLay0=j?/\(pyd n v).depth<=n:=by
 intro n;induction n with
 |zero=>
  intro v H;cases Pl.of H with
  |int=>exact⟨rfl,J? _⟩
  |str _ a=>exact⟨a,J? _⟩
 |succ n i=>
  intro v H;cases Pl.of H with
  |int=>exact⟨rfl,w_ _⟩
  |str _ a=>exact⟨a,w_ _⟩
  |tup h=>
   show r! (λb c=>?_) (rN i _ h);show⟨b,?_⟩;exact Ů c
theorem Pl.K {P:V->Prop} (h:V.pl n v=j?) (i:∀i,P (ϋ i)) (s:∀s,P (Ϗ s)) (k:∀m l,n=m+1->l.all (V.pl m)=j?->P (ύ l)):P v:=by
 cases Pl.of h with
 |int=>exact i _
 |str=>exact s _
 |tup h=>exact k _ _ rfl h
theorem sC (I:∀a b:V,V.pl n a=j?->V.pl k b=j?->Ń (pyd n a) (pyd k b)=V.beq a b):∀l m:g? V,l.all (V.pl n)=j?->m.all (V.pl k)=j?->acy (l.map (pyd n)) (m.map (pyd k))=V.pJ l m:=by
 intro l;induction l with
 |nil=>intro m Z Z;cases m using aab<;>rfl
 |cons a l i=>
  intro m h H;cases m using aab with
  |nil=>rfl
  |cons b m=>
   show r! (λh c=>?_) (t?.mp h);show r! (λH d=>?_) (t?.mp H);change(Ń _ _&&acy _ _)=(V.beq a b&&V.pJ l m);rw[I a b h H,<- i m c d]
set_option tactic.hygienic true in
theorem qU:∀(n k:m?) (a b:V),V.pl n a=j?->V.pl k b=j?->Ń (pyd n a) (pyd k b)=V.beq a b:=by
 intro n;cases n using Nat.strongRecOn with
 |ind n i=>
  intro k a b h H;show Pl.K (P:=λa=>Ń (pyd n a) (pyd k b)=V.beq a b) h (λx=>?_) (λx=>?_) λm x e c=>?_
  ·show Pl.K (P:=λb=>Ń (pyd n (ϋ x)) (pyd k b)=V.beq (ϋ x) b) H (λx=>?_) (λx=>?_) λm x e c=>?_
   ·rw[uM,uM];rfl
   ·rw[uM,ub];rfl
   ·rw[uM,e];rfl
  ·show Pl.K (P:=λb=>Ń (pyd n (Ϗ x)) (pyd k b)=V.beq (Ϗ x) b) H (λx=>?_) (λx=>?_) λm x e c=>?_
   ·rw[ub,uM];rfl
   ·rw[ub,ub];rfl
   ·rw[ub,e];rfl
  ·show Pl.K (P:=λb=>Ń (pyd n (ύ x)) (pyd k b)=V.beq (ύ x) b) H (λy=>?_) (λy=>?_) λj y f d=>?_
   ·rw[e,uM];rfl
   ·rw[e,ub];rfl
   ·rw[e,f];exact sC (i m (e▸Ē m) j) x y c d
mutual
noncomputable def Ja:V->m?
 |ύ l=>q0 l+1
 |_=>1
noncomputable def q0:g? V->m?
 |[]=>0
 |a::l=>Ja a+q0 l
end
theorem Cp (w:u!):∀l m:g? V,Ip w (l++m)=Ip w l++Ip w m:=by
 intro L;induction L with
 |nil=>
  rintro m;exact rfl
 |cons a l i=>
  rintro m;exact R? (hV w a::·) (i m)
theorem z4:∀l m:g? V,q0 (l++m)=q0 l+q0 m:=by
 intro L;induction L with
 |nil=>
  rintro m;exact(Š _).symm
 |cons a l i=>
  rintro m;exact(R? (Ja a+ ·) (i m)).trans (P_ _ _ _).symm
theorem VR.isTup (r:VR ι h (ύ l) v):∃(a:e!) (vs:O_ s?),v=n? a/\Ŗ h a vs/\bJ ι h l vs.toList:=by
 cases r with
 |tup t H=>exact⟨_,_,rfl,t,H⟩
set_option tactic.hygienic true in
theorem O9:∀(n:m?) (v:V) {y:s?} {A:D!} {s:y?} {Q:C?->y?->Prop},V.pl n v=j?->A.units+n<acL->VR [] s.heap v y->Q (hV w v) {s with toks:=s.toks+Ja v}->
  n! (j! pw w) A (acZ y) Q E s:=by
 intro n;have B:∀{i:C?} {t:Tok} {A:D!} {s:y?} {Q:C?->y?->Prop},Q (hV w (ϋ i)) {s with toks:=s.toks+Ja (ϋ i)}->n! (j! pw w) A (acZ (z? i t)) Q E s:=
  λ{i t A s Q} q=>(Ô pw w).pyHash (ĩ pw w i t) q
 have H:∀{x:k!} {t:Tok} {A:D!} {s:y?} {Q:C?->y?->Prop},Q (hV w (Ϗ x)) {s with toks:=s.toks+Ja (Ϗ x)}->n! (j! pw w) A (acZ (.str x t)) Q E s:=
  λ{x t A s Q} q=>(PySem.strKind pw w).pyHash (aaP pw w x t) q
 induction n with
 |zero=>
  intro v y A s Q h N r q;exact VR.Qv (P:=λv y=>Q (hV w v) {s with toks:=s.toks+Ja v}->n! (j! pw w) A (acZ y) Q E s) h r (λZ Z=>B) (λZ Z=>H) (λZ Z Z Z e=>nomatch e) q
 |succ n X=>
  intro v y A s Q h N r q;show VR.Qv (P:=λv y=>Q (hV w v) {s with toks:=s.toks+Ja v}->n! (j! pw w) A (acZ y) Q E s) h r (λZ Z=>B) (λZ Z=>H) (λm l a vs O D W J q=>?_) q;clear B H h r;cases O;have H:=J;have h:=D;obtain⟨o,M,S,k,T⟩:=W;have j:s.TypeIs (n? a) "tuple":=⟨o,M,S⟩
  show l? (wpAny_cRoomFor_or (u? (w! (z_ _ _) N)) ?_);show l? (τ j š.lookup ?_);show l? (τ j š.lookup ?_);show l? (wpAny_callSpecialIfBoundUnlessNone?_slot j š (L_ š j F.entry_tuple_hash ?_ (F.args_tuple_hash_1 _)));change n! _ _ (Ì (n? a) >>= _) _ _ s;show l? (wpAny_tupleItemsOf M T ?_);show l? ?_;rw[<- aaQ];show abw _
   (λR (b:O_ C?) s'=>∃done L,l=done++L/\bJ [] s.heap L R/\b.toList=Ip w done/\s'= {s with toks:=s.toks+q0 done})
   _ ?_ ?_ _ _ ⟨[],l,rfl,H,rfl,rfl⟩
  ·rintro x R b s' g;show DI g λdone L c C z d=>?_;try clear g
   subst c;subst d;cases C with
   |@cons u _ left' _ P hl'=>
    have I:V.pl n u=j?:=by
     have:(done++u::left').all (V.pl n)=j?:=h;simp only[List.all_append,Ŏ,Y?] at this;exact this.2.1
    show l? (X u (s:={s with toks:=s.toks+q0 done}) I (by change A.units+1+n<acL;lia) P ?_);have e1:(b.push (hV w u)).toList=Ip w (done++[u]):=by rw[Ö,z,Cp];rfl
    have e2:s.toks+q0 done+Ja u=s.toks+q0 (done++[u]):=by rw[z4];simp[q0];lia
    first
     |exact v? ⟨done++[u],left',by simp,hl',e1,by rw[<- e2]⟩
     |exact l? (v? (v? ⟨done++[u],left',by simp,hl',e1,by rw[<- e2]⟩))
  ·rintro b s' g;show DI g λdone L c C z d=>?_;try clear g
   subst c;subst d;cases C;rw[S!] at q;change n! _ _ (retInt (g_ b.toList)) _ _ _;rw[z];show wpAny_ret_mkInt ?_;change n! _ _ (if(decide (-(2:C?) ^ 63<=g_ (Ip w done))&&decide (g_ (Ip w done)<2 ^ 63))=j? then _ else _) Q E _;have K:s.toks+q0 done+1=s.toks+Ja (ύ done):=by simp[Ja];lia
   simp only[W3,ab3] at q;by_cases p:(decide (-(2:C?) ^ 63<=g_ (Ip w done))&&decide (g_ (Ip w done)<2 ^ 63))=j?
   ·rw[P? p];rw[P? p] at q;exact v? (by rw[<- K] at q;exact q)
   ·rw[E? p];rw[E? p] at q;exact l? (aaR (v? (by rw[<- K] at q;exact q)))
set_option tactic.hygienic true in
theorem KL:∀(n:m?) (v:V) {c:s?} {A:D!} {s:y?} {Q:D?->y?->Prop},V.pl n v=j?->VR [] s.heap v c->Q j? s->n! (j! pw w) A (abx n c) Q E s:=by
 intro n;induction n with
 |zero=>
  intro v c A s Q H r q;exact VR.Qv (P:=λ_ c=>n! (j! pw w) A (abx 0 c) Q E s) H r (λZ Z=>by rw[Ţ _ rfl];exact v? q) (λZ Z=>by rw[Ţ _ rfl];exact v? q) (λZ Z Z Z e=>nomatch e)
 |succ n I=>
  intro v c A s Q H r q;show VR.Qv (P:=λ_ c=>n! (j! pw w) A (abx (n+1) c) Q E s) H r (λZ Z=>by rw[Ţ _ rfl];exact v? q) (λZ Z=>by rw[Ţ _ rfl];exact v? q) (λm l a vs t g D C=>?_);clear H r;cases t;have H:=g;obtain⟨o,p,y,k,z⟩:=D;have j:s.TypeIs (n? a) "tuple":=⟨o,p,y⟩
  unfold abx;show l? (τ j F.slot_tuple_eq.lookup ?_);show l? (aby j PySem.isSubtype_tuple_tuple ?_);show l? (wpAny_seqItems p z ?_);show l? ?_;rw[<- aaQ];show abw _ (λR r s'=>r.1=none/\s'=s/\∃L,bJ [] s.heap L R/\L.all (V.pl n)=j?) _ ?_ ?_ _ _ ⟨rfl,rfl,l,C,H⟩
  ·rintro v R r s' ⟨i,rfl,L,B,h⟩;cases B with
   |@cons u _ b _ x d=>
   simp only[Ŏ,Y?] at h;show l? (I u h.1 x ?_);exact v? ⟨rfl,rfl,b,d,h.2⟩
  ·rintro⟨J,K⟩ s' ⟨i,rfl,_⟩;subst i;exact v? q
set_option tactic.hygienic true in
theorem VR.Zs (r:VR [] h v b) (f:b=z? i t):v=ϋ i:=by subst f;cases r;rfl
theorem VR.Zb (r:VR [] h v b) (f:b= .str i t):v=Ϗ i:=by subst f;cases r;rfl
theorem VR.inj:∀{n:m?} {v u:V} {i:s?} {k:m?},V.pl n v=j?->V.pl k u=j?->VR [] h v i->VR [] h u i->v=u:=by
 intro n;induction n with
 |zero=>
  intro v u i k H b R r;exact VR.Qv (P:=λv i=>VR [] h u i->v=u) H R (λZ Z r=>(r.Zs rfl).symm) (λZ Z r=>(r.Zb rfl).symm) (λZ Z Z Z e=>nomatch e) r
 |succ n L=>
  intro v u i k H b R r;show VR.Qv (P:=λv i=>VR [] h u i->v=u) H R (λZ Z r=>(r.Zs rfl).symm) (λZ Z r=>(r.Zb rfl).symm) (λW l a vs p q J F r=>?_) r;clear H R;cases p;show VR.Qv (P:=λu i=>i=n? a->ύ l=u) b r (λZ Z g=>nomatch g) (λZ Z g=>nomatch g) (λk m O N p s w t g=>?_) rfl;clear b r;subst p;cases g;obtain⟨o,D,S,j,C⟩:=J;obtain⟨X,d,B,T,c⟩:=w;rw[D] at d;cases d;rw[C] at c;cases c;exact R? ύ (bJ.ind (P:=λl M=>l.all (V.pl n)=j?->∀m:g? V,m.all (V.pl k)=j?->bJ [] h m M->l=m) (λZ m Z x=>by cases x;rfl) (λK Z I q m s x=>by
   cases x with
   |cons y x=>
    show r! (λH b=>?_) (t?.mp q);show r! (λz A=>?_) (t?.mp s);rw[L H z K y,I b _ A x]) F q m s t)
theorem VR.but {f e} (r:VR [] h v l) (j:h.get? d=d? o) (i:o.data=r_ f e) (k:Ŝ d h h'):VR [] h' v l:=
 r.mono (ĉ.refl _) λa vs ⟨O,b,g,n,H⟩=>by
  have c:a≠d:=by rintro rfl;rw[j] at b;cases b;rw[i] at H;cases H
  exact⟨O,(k.2 a c).trans b,g,n,H⟩
@[reducible] noncomputable def vKind (w:u!):@HeapKind pw w V V.decEq:=
 letI:=V.decEq
 {is:=λh v a=>V.pl 8 v=j?/\VR [] h v (n? a)
  hash:=hV w
  draws:=Ja
  room:=λA=>A.units+100<acL
  inj:=λH c=>VR.inj H.1 c.1 H.2 c.2
  keeps:=λx g f i=>⟨x.1,x.2.but g f i⟩
  pyHash:=λe d q=>O9 8 _ d.1 (WG e rfl) d.2 q
  eqBool:=λ{A E s x y a b Q} e H c q=>by
   show Q! (lW H.1 H.2) λas r=>Q! (lW c.1 c.2) λbs R=>?_;have l:=vN 8 x H.1;have L:=vN 8 y c.1;show SeqAt.eqBoolOverData pw w A E s _ _ _ _ as bs Q r R l.1 L.1 (PZ l.2 e rfl) ?_;rw[qU 8 8 x y H.1 c.1,V.BY];exact q
  quiet:=λd q=>KL 8 _ d.1 d.2 q}
def fA (d:m?) (op:ab4) (x y:V) (H:Hp) (Q:D?->Hp->Prop):Prop:=
 ∀(w:u!) (A:D!) (ι:ć) (s:y?) (X Y:s?) (K:s?->y?->Prop) (E:s?->y?->Prop),cJ A d->SR w ι H s.heap->VR ι s.heap x X->VR ι s.heap y Y->
  (∀b t,Q b H->K (.bool b) {s with toks:=t})->n! (j! pw w) A (ë op X Y) K E s
theorem dN (H:V.plain v=j?) (r:VR ι h v a):∃as,adf h a (pyd 60 v) as/\(pyd 60 v).canLay0=j?/\(pyd 60 v).depth<=60:=by
 exact Q! (lW H r) λas R=>⟨as,R,vN 60 v H⟩
theorem lS (H:V.cO l=j?) (r:bJ ι h l L):∃as,adg h L (l.map (pyd 60)) as/\ľ (l.map (pyd 60))=j?/\ĺ (l.map (pyd 60))<=60:=by
 exact Q! (mO (λa b=>lW a b) H r) λas R=>⟨as,R,rN (vN 60) l H⟩
section
variable {Q:D?->Hp->Prop}
theorem wW (h:V.plain x=j?) (a:V.plain y=j?) (q:Q (V.beq x y) H):fA d I_ x y H Q:=by
 intro w A ι s X Y K E r S R1 R2 T;show jU (dN h R1) λas R l D=>jU (dN a R2) λbs b L c=>Δ R b l L (PZ D (r.sD (n:=60) (by decide)) rfl) ?_;rw[qU 60 60 x y h a];exact T _ s.toks q
theorem wi (h:V.plain x=j?) (a:V.plain y=j?) (q:Q (!V.beq x y) H):fA d J! x y H Q:=by
 intro w A ι s X Y K E r S R1 R2 T;show jU (dN h R1) λas R l D=>jU (dN a R2) λbs b L c=>Ε R b l L (PZ D (r.sD (n:=60) (by decide)) rfl) ?_;rw[qU 60 60 x y h a];exact T _ s.toks q
theorem kY (S:SR w ι H h) (b:H[n]? = d? (ό xs)) (f:V.cO xs=j?) (r:VR ι h (ϊ n) v):∃as,adf h v (.list (xs.map (pyd 60))) as/\ľ (xs.map (pyd 60))=j?/\ĺ (xs.map (pyd 60))<=60:=by
 show VR.gH r λZ Z a e=>?_;subst e;exact fL (S.listAt b a) λvs k c g Z=>jU (lS f g) λas R l d=>⟨_,.list c rfl rfl R,l,d⟩
theorem wo (c:H[n]? = d? (ό xs)) (b:H[m]? = d? (ό ys)) (h:V.cO xs=j?) (a:V.cO ys=j?) (q:Q (V.pJ xs ys) H):fA d I_ (ϊ n) (ϊ m) H Q:=by
 intro w A ι s x y K E r S R1 R2 T;show jU (kY S c h R1) λas R l D=>jU (kY S b a R2) λbs e L f=>Δ R e (by simpa [ab7] using l) (by simpa [ab7] using L) (by simp only[ac0];exact Yk D (r.sD (n:=61) (by decide)) rfl) ?_;simp only[Ń];rw[sC (qU 60 60) xs ys h a];exact T _ s.toks q
theorem qa (b:V.cO l=j?) (H:V.plain a=j?):((l.map (pyd 60)).any λy=>Ń y (pyd 60 a))=l.any λy=>V.beq y a:=by
 induction l with
 |nil=>rfl
 |cons x l i=>
  have h:V.plain x=j?/\V.cO l=j?:=by simpa [V.cO] using b
  simp only[C!,M!,i h.2,qU 60 60 x a h.1 H]
theorem Ct (c:V.cO l=j?) (h:V.plain a=j?):(Q (l.any λy=>V.beq y a) H->fA d W! a (ύ l) H Q)/\(Q (!l.any λy=>V.beq y a) H->fA d E! a (ύ l) H Q):=by
 constructor<;>intro q w A ι s x Y K E r S R1 R2 T;all_goals
  show jU (dN h R1) λas R L D=>?_;obtain⟨b,vs,rfl,⟨o,i,f,k,g⟩,e⟩:∃b vs,Y=n? b/\Ŗ s.heap b vs/\bJ ι s.heap l vs.toList:=by cases R2 with|tup t e=>exact⟨_,_,rfl,t,e⟩
  show jU (lS c e) λbs p m u=>?_;have j:A.units+1+min (ĺ (l.map (pyd 60))) (pyd 60 a).depth<acL:=VH D (r.sD (n:=61) (by decide)) rfl
 ·show SeqAt.in_tuple_reads (.tuple i f g p) R m L j ?_;rw[qa c h];exact T _ s.toks q
 ·show SeqAt.notIn_tuple_reads (.tuple i f g p) R m L j ?_;rw[qa c h];exact T _ s.toks q
theorem z1 (g:H[n]? = d? (ό l)) (b:V.cO l=j?) (h:V.plain a=j?):(Q (l.any λy=>V.beq y a) H->fA d W! a (ϊ n) H Q)/\(Q (!l.any λy=>V.beq y a) H->fA d E! a (ϊ n) H Q):=by
 constructor<;>intro q w A ι s x Y K E r S R1 R2 T;all_goals
  show jU (dN h R1) λas R L D=>jU (kY S g b R2) λbs f e i=>?_;have c:A.units+1+min (ĺ (l.map (pyd 60))) (pyd 60 a).depth<acL:=VH D (r.sD (n:=61) (by decide)) rfl
 ·show SeqAt.in_list_reads f R e L c ?_;rw[qa b h];exact T _ s.toks q
 ·show SeqAt.notIn_list_reads f R e L c ?_;rw[qa b h];exact T _ s.toks q
theorem uU.find {a:Type} [u_ a] {l:g? (a×V)} {L:g? (a×s?)} (r:uU ι h l L) (k:a):Ii ι h (bx k l) (Ŵ L k):=by
 induction r with
 |nil=>exact trivial
 |@cons K v b l L H c i=>
  rw[DA];by_cases e:K=k
  ·subst e;rw[P? rfl,show Ŵ ((K,b)::L) K=d? b from by simp[Ŵ]];exact H
  ·have:Ŵ ((K,b)::L) k=Ŵ L k:=by simp[Ŵ,e]
   rw[E? e,this];exact i
theorem Ii.isSome (r:Ii ι h a b):a.isSome=b.isSome:=by
 cases a using aaa<;>cases b using aaa<;>first|rfl|exact r.elim
theorem mM {a:Type} [u_ a] (k:a):∀l:g? (a×V),(bx k l).isSome=l.any λb=>decide (b.1=k):=by
 intro L;induction L with
 |nil=>
  exact rfl
 |cons p l i=>
  obtain⟨K,v⟩:=p;rw[DA];by_cases e:K=k
  ·simp[e]
  ·simp[e,i]
theorem qQ (S:SR w ι H h) (m:eN ι b):(b== ü)=f?:=by
 have:=S.above b m;show D_.mpr ?_;rintro rfl;exact absurd this (by decide)
set_option tactic.hygienic true in
theorem vG (i:H[n]? = d? (ώ kvs)):(Q (kvs.any λa=>a.1== k) H->fA d W! (ϋ k) (ϊ n) H Q)/\(Q (!kvs.any λa=>a.1== k) H->fA d E! (ϋ k) (ϊ n) H Q):=by
 constructor<;>intro q w A ι s x y K E r S R1 R2 T;all_goals
  obtain⟨_,e⟩:=VR.int_inv R1;subst e;rename_i u;obtain⟨_,_,_,e⟩:=VR.jY R2;subst e;rename_i b D h;show bf (S.cells n _ _ i h) λc f j=>?_;have e:(Ŵ c k).isSome=kvs.any λa=>a.1== k:=by
   rw[<- (j.find k).isSome,mM];rfl
  have g:=qQ S (b:=b) ⟨n,_,h,x? rfl⟩
 ·show wpAny_in_of (ĩ pw w k u) g f.mapOf ?_;rw[e];exact T _ _ q
 ·show ab8 (ĩ pw w k u) g f.mapOf ?_;rw[e];exact T _ _ q
end
inductive CQ (ι:ć) (h:Y!):g? (V×V)->g? (V×e!×s?)->Prop
 |nil:CQ ι h [] []
 |cons {k v:V} {a:e!} {v':s?} {l l'}:V.pl 8 k=j?->VR [] h k (n? a)->VR ι h v v'->CQ ι h l l'->CQ ι h ((k,v)::l) ((k,a,v')::l')
theorem qL.xs (r:qL w ι h l b):∃xs,b=xs.map (@entryOfKey _ _ _ V.decEq (vKind w))/\CQ ι h l xs:=by
 induction r with
 |nil=>exact⟨[],rfl,.nil⟩
 |@cons k v a e l b c H d hh f _ i=>
  show bf i λxs q x=>?_;try clear i
  subst q;show⟨(k,a,e.val)::xs,?_,.cons c d f x⟩;obtain⟨g,j,m⟩:=e;simp only at H hh;subst H hh;rfl
theorem CQ.is (r:CQ ι h l xs):∀x∈xs,@HeapKind.is pw w V V.decEq (vKind w) h x.1 x.2.1:=by
 induction r with
 |nil=>intro x H;cases H
 |cons a b c _ i=>
  intro x H;rcases G?.mp H with rfl| H
  ·exact⟨a,b⟩
  ·exact i x H
theorem CQ.keys (r:CQ ι h l xs):xs.map (λZ=>Z.1)=l.map (λZ=>Z.1):=by
 induction r with
 |nil=>rfl
 |cons _ _ _ _ i=>simp[i]
theorem CQ.find (r:CQ ι h l xs) (k:V):Ii ι h (ea k l) ((@ab9 V V.decEq xs k).map (λZ=>Z.2)):=by
 letI:=V.decEq
 induction r with
 |nil=>exact trivial
 |@cons b v a c l xs d f H g i=>
  rw[Ep];by_cases e:b=k
  ·subst e;rw[P? ((V.beq_iff _ _).mpr rfl)];simp[ab9,Ii,H]
  ·rw[E? (λh'=>e ((V.beq_iff _ _).mp h'))];have:ab9 ((b,a,c)::xs) k=ab9 xs k:=by simp[ab9,e]
   rw[this];exact i
theorem vD (k:V):∀l:g? (V×V),(ea k l).isSome=l.any λb=>V.beq b.1 k:=by
 intro L;induction L with
 |nil=>
  exact rfl
 |cons p l i=>
  obtain⟨a,v⟩:=p;rw[Ep];cases e:V.beq a k
  ·simp[e,i]
  ·simp[e]
theorem SR.dJ {w:u!} {ι:ć} {H:Hp} {h:Y!} {n:m?} {a d:e!} {kvs:g? (V×V)} (S:SR w ι H h) (g:H[n]? = d? (Ϝ kvs)) (j:ι[n]? = d? (a,d)) :
  ∃xs,@Heap.DictOfH pw w V V.decEq (vKind w) h a xs/\CQ ι h kvs xs:=by
 exact Mk (S.cells n _ _ g j) λo e i l c k b=>bf k.xs λxs f r=>⟨xs,⟨o,e,_,i,l,c,f,r.is,by rw[r.keys];exact b⟩,r⟩
theorem VR.plain0 (H:V.pl n v=j?) (r:VR ι h v a):VR [] h v a:=
 VR.rec (motive_1:=λv a Z=>∀n:m?,V.pl n v=j?->VR [] h v a) (motive_2:=λl L Z=>∀n:m?,l.all (V.pl n)=j?->bJ [] h l L)
  (λZ H=>nomatch Pl.of H) (λZ Z H=>nomatch Pl.of H) (λi t Z Z=>.int i t) (λs t Z Z=>.str s t)
  (λt Z c Z H=>match Pl.of H with| .tup h=>.tup t (c _ h))
  (λZ Z H=>nomatch Pl.of H) (λZ Z H=>nomatch Pl.of H) (λZ Z=>ϫ)
  (λZ Z I b Z H=>ϧ (I _ (t?.mp H).1) (b _ (t?.mp H).2)) r n H
theorem VR.key (r:VR ι h (ύ l) v) (H:V.pl 8 (ύ l)=j?):∃a,v=n? a/\VR [] h (ύ l) (n? a):=by
 have r0:=VR.plain0 H r;show fL r.isTup λa vs q t b=>?_;subst q;exact⟨a,rfl,r0⟩
section
variable {K:Type} [u_ K]
theorem AL {P:acQ} {w:u!} {A:D!} {s:y?} {knd:HeapKind P w K} {d:e!} {a:e!} {xs:g? (K×e!×s?)} {k:K} {Q:s?->y?->Prop} (o:knd.room A.in1) (H:knd.is s.heap k a) (m:(d== ü)=f?) (n:s.heap.DictOfH knd d xs)
  (h:Q (.bool (!(ab9 xs k).isSome)) {s with toks:=s.toks+knd.draws k}):n! (j! P w) A (ë E! (n? a) (n? d)) Q E s:=by
 show l? ?_;have e:n! (j! P w) A (ë W! (n? a) (n? d)) (λv s'=>∃b,v= .bool b/\Q (.bool (!b)) s') E s:=acz o H m n ⟨_,rfl,h⟩;have l:n! (j! P w) A (contains (n? d) (n? a) >>= λb=>(pure (.bool b):Sem s?)) (λv s'=>∃b,v= .bool b/\Q (.bool (!b)) s') E s:=e;intro j p f;have g:=l j p f;rw[Sem.wp_bind'] at g;show Sem.wp_mono _ j _ (λb r s' i=>?_) (λZ Z Z x=>x) p s g;show bf i λB c q=>?_;cases c;exact λZ Z Z=>q
end
section
variable {Q:D?->Hp->Prop}
theorem cJ.vk (r:cJ A d):@HeapKind.room pw w V V.decEq (vKind w) A.in1:=by
 change A.units+1+100<acL;exact WG (r.sD (n:=200) (by decide)) rfl
set_option tactic.hygienic true in
theorem vC (j:H[n]? = d? (Ϝ kvs)) (c:V.pl 8 (ύ l)=j?) :
  (Q (kvs.any λk=>V.beq k.1 (ύ l)) H->fA d W! (ύ l) (ϊ n) H Q)/\(Q (!kvs.any λk=>V.beq k.1 (ύ l)) H->fA d E! (ύ l) (ϊ n) H Q):=by
 letI:=V.decEq
 constructor<;>intro q w A ι s x y K E r S R1 R2 T;all_goals
  obtain⟨_,_,_,e⟩:=VR.jY R2;subst e;rename_i b D h;show bf (S.dJ j h) λxs g m=>bf (R1.key c) λa f R=>?_;subst f;have e:(ab9 xs (ύ l)).isSome=kvs.any λk=>V.beq k.1 (ύ l):=by
   have:=(m.find (ύ l)).isSome;rw[vD] at this;rw[this];simp
  have i:=qQ S (b:=b) ⟨n,_,h,x? rfl⟩
 ·show acz (knd:=vKind w) r.vk ⟨c,R⟩ i g ?_;rw[e];exact T _ _ q
 ·show AL (knd:=vKind w) r.vk ⟨c,R⟩ i g ?_;rw[e];exact T _ _ q
theorem oX (h:ql x=d? b):(Q b H->fA d .Is x ϖ H Q)/\(Q (!b) H->fA d .IsNot x ϖ H Q):=by
 constructor<;>intro q w A ι s X y K E r S R1 R2 T;all_goals
  have e:=VR.none_inv R2;subst e;have e:plainIs X T?=j?/\(X== T?)=b:=by
   cases R1<;>simp[ql] at h<;>subst h<;>exact⟨rfl,rfl⟩
 ·exact wpAny_is_plain e.1 (by rw[e.2];exact T _ s.toks q)
 ·exact wpAny_isNot_plain e.1 (by rw[e.2];exact T _ s.toks q)
end
def intOf:s?->p? C?
 |Value.int k _=>d? k
 |_=>e?
theorem lL (h:intOf v=d? k):∃t,v=z? k t:=by
 cases v using n_<;>first|(cases h;exact⟨_,rfl⟩)|cases h
def ye:g? (C?×V)->g? R!->D?
 |[],a=>a.isEmpty
 |p::l,a=>i_ a f? λe a=>ϔ p.2 f? (λZ=>f?) (λv=>intOf e.key== d? p.1&&intOf e.val== d? v&&e.hash== acW p.1&&ye l a) (λZ=>f?) (λZ=>f?) (λZ=>f?) (λZ=>f?)
def rF (a:g? R!):g? (C?×s?):=a.map λe=>((match e.key with| Value.int k _=>k| _=>0),e.val)
theorem Qj {p:C?×V} {e:R!} (h:ye (p::l) (e::j)=j?):∃i t T,p.2=ϋ i/\e=⟨acW p.1,z? p.1 t,z? i T⟩/\ye l j=j?:=by
 obtain⟨k,v⟩:=p;cases v using ϔ<;>first|exact nB h|skip
 obtain⟨c,d,m⟩:=e;have h:=t?.mp h;have g:=t?.mp h.1;have f:=t?.mp g.1;show Q! (lL (U?.mp f.1)) λt a=>Q! (lL (U?.mp f.2)) λT b=>⟨_,t,T,rfl,?_,h.2⟩
 rw[show d=_ from a,show m=_ from b,show c=_ from U?.mp g.2]
theorem Lk:∀{l:g? (C?×V)} {f:g? R!},ye l f=j?->
  uU [] hh l (rF f)/\Pairs (Ô pw w) f (rF f)/\(∀e∈f,∃k,(Ô pw w).is k e.key=j?/\e.hash=(Ô pw w).hash k)/\(rF f).map (λZ=>Z.1)=l.map (λZ=>Z.1)
 |[],[],_=>⟨.nil,.nil,(λZ h=>by cases h),rfl⟩
 |[],_::_,h=>nB h
 |_::_,[],h=>nB h
 |(k,v)::l,e::f,h=>by
  show Pc (Qj h) λi t T g j m=>?_;cases g;cases j;show U9 (Lk m) λa b c d=>⟨.cons (.int _ _) a,Pairs.cons (ĩ pw w _ _) rfl b,λe H=>?_,R? (k::·) d⟩
  rcases G?.mp H with rfl| H
  ·exact⟨_,ĩ pw w _ _,rfl⟩
  ·exact c e H
theorem Hk (P:y_) (h:a=47\/a=48):ye (lg a) (Wx (de P a).data).toList=j?/\(de P a).ExactDict/\(de P a).data=r_ (Wx (de P a).data) (Ze (de P a).data)/\(H1 P).get? a=d? (de P a)/\((lg a).map (λZ=>Z.1)).Nodup:=by
 rcases h with rfl|rfl
 ·exact⟨by kernel_rfl,⟨by kernel_rfl,by kernel_rfl,by kernel_rfl⟩,by kernel_rfl,qh rfl (by kernel_rfl) (by kernel_rfl),by decide⟩
 ·exact⟨by kernel_rfl,⟨by kernel_rfl,by kernel_rfl,by kernel_rfl⟩,by kernel_rfl,qh rfl (by kernel_rfl) (by kernel_rfl),by decide⟩
theorem SR.tab (S:SR w ι H h) (b:a=47\/a=48):∃k,h.DictOf (Ô pw w) a k/\uU ι h (lg a) k/\(a== ü)=f?:=by
 show X9 (Hk w.params b) λc d f g i=>U9 (Lk (w:=w) (hh:=h) c) λx X l m=>⟨_,⟨_,_,_,S.base _ _ g,d,f,λe j=>l e (Τ.mpr j),X,by rw[m];exact i⟩,x.mono (λn p e=>by simp at e) (aP.refl _),?_⟩;rcases b with rfl|rfl<;>rfl
section
variable {Q:D?->Hp->Prop}
set_option tactic.hygienic true in
theorem AG (f:g=47\/g=48):(Q ((lg g).any λa=>a.1== k) H->fA d W! (ϋ k) (ϩ g) H Q)/\(Q (!(lg g).any λa=>a.1== k) H->fA d E! (ϋ k) (ϩ g) H Q):=by
 constructor<;>intro q w A ι s x y K E r S R1 R2 T;all_goals
  obtain⟨_,e⟩:=VR.int_inv R1;subst e;rename_i u;have e:=VR.mi R2;subst e;show jU (S.tab f) λb h i c=>?_;have e:(Ŵ b k).isSome=(lg g).any λa=>a.1== k:=by
   rw[<- (i.find k).isSome,mM];rfl
 ·show wpAny_in_of (ĩ pw w k u) c h.mapOf ?_;rw[e];exact T _ _ q
 ·show ab8 (ĩ pw w k u) c h.mapOf ?_;rw[e];exact T _ _ q
theorem mW (h:dU H v=d? xs):(v=ύ xs/\V.cO xs=j?)\/∃n,v=ϊ n/\H[n]? = d? (ό xs)/\V.cO xs=j?:=by
 cases v using ϔ with
 |tup l=>exact jf h λa e=>x? ⟨R? ύ e,e▸a⟩
 |ref n=>exact rp h λys b h=>jf h λa e=>u? ⟨n,rfl,e▸b,e▸a⟩
 |_=>exact nS h
theorem sr (h:dU H (ϊ n)=d? xs):H[n]? = d? (ό xs)/\V.cO xs=j?:=by
 rcases mW h with q|q
 ·obtain⟨h,_⟩:=q;cases h
 ·show bf q λm h a=>?_;cases h;exact a
theorem ue (h:uR H a b=d? r):(Q r H->fA d W! a b H Q)/\(Q (!r) H->fA d E! a b H Q):=by
 have t:∀{a:V},eD H a b=d? r->(Q r H->fA d W! a b H Q)/\(Q (!r) H->fA d E! a b H Q):=λ{a} h=>by
  unfold eD at h;cases e:dU H b using aaa with
  |some xs=>
   rw[e] at h;show jf h λi u=>?_;subst u;rcases mW e with j|j
   ·obtain⟨rfl,o⟩:=j;exact Ct o i
   ·show jU j λn p f o=>?_;try clear j
    subst p;exact z1 f o i
  |none=>
   rw[e] at h;clear e;cases a using ϔ with
   |int k=>
    show Vz h λn m h=>?_;subst m;rcases hZ h with⟨_,_,c⟩| ⟨kvs,f,c⟩| ⟨_,_,c⟩| ⟨_,_,c⟩
    ·exact nS c
    ·cases c;exact vG f
    ·exact nS c
    ·exact nS c
   |tup l=>
    show Vz h λn m h=>?_;subst m;rcases hZ h with⟨_,_,c⟩| ⟨_,_,c⟩| ⟨_,_,c⟩| ⟨kvs,f,c⟩
    ·exact nS c
    ·exact nS c
    ·exact nS c
    ·show jf c λi e=>?_;subst e;exact vC f i
   |_=>exact nS h
 cases a using ϔ with
 |int k=>
  cases b using ϔ with
  |glob g=>exact jf h λv e=>by subst e;exact AG v
  |_=>exact t h
 |str x=>
  cases b using ϔ with
  |str y=>
   show jf h λZ e=>?_;subst e;constructor<;>intro q w A ι s X Y K E R S R1 R2 T;all_goals
    obtain⟨_,e⟩:=VR.str_inv R1;subst e;obtain⟨_,e⟩:=VR.str_inv R2;subst e
   ·exact P.in_str (T _ s.toks q)
   ·exact P.notIn_str (T _ s.toks q)
  |_=>exact t h
 |_=>exact t h
theorem mE {f:C?->C?->D?} (c:∀{w:u!} {A:D!} {E:s?->y?->Prop} {s:y?} {K:s?->y?->Prop} {a b:C?} {t u:Tok},K (.bool (f a b)) s->n! (j! pw w) A (ë op (z? a t) (z? b u)) K E s)
  (h:MW f x y=d? r) (q:Q r H):fA d op x y H Q:=by
 show HY h λa g h=>HY h λb i h=>?_;subst g i;cases h;intro w A ι s X Y K E R S R1 R2 T;obtain⟨_,e⟩:=VR.int_inv R1;subst e;obtain⟨_,e⟩:=VR.int_inv R2;subst e;exact c (T _ s.toks q)
theorem uw (h:ok (bZ op x y H) λr=>Q r H):fA d op x y H Q:=by
 show bf (bw.mp h) λr e q=>?_;clear h;cases op using adj with
 |Eq=>
  have o:∀{x y:V},Bx x y=d? r->fA d I_ x y H Q:=λe=>jf e λl e=>by
   subst e;show r! (λi j=>?_) (t?.mp l);exact wW i j q
  cases x using ϔ with
  |ref n=>
   cases y using ϔ with
   |ref m=>
    show Qc e λa g e=>Qc e λb t e=>?_;cases e;show r! (λa1 a2=>?_) (sr g);show r! (λB p=>?_) (sr t);exact wo a1 B a2 p q
   |_=>exact o e
  |_=>exact o e
 |NotEq=>
  have N:∀{x y:V},Gv x y=d? r->fA d J! x y H Q:=λe=>jf e λl e=>by
   subst e;show r! (λi j=>?_) (t?.mp l);exact wi i j q
  cases x using ϔ with
  |bool a=>
   cases y using ϔ with
   |bool b=>
    cases e;intro w A ι s X Y K E R S R1 R2 T;have e:=VR.bool_inv R1;subst e;have e:=VR.bool_inv R2;subst e;show Ε (.bool a) (.bool b) rfl rfl (by have:=R.sD (n:=60) (by lia);simp[ac0];lia) ?_;exact T _ s.toks q
   |_=>exact N e
  |_=>exact N e
 |Lt=>exact mE (f:=λa b=>decide (a<b)) (λk=>P.lt_int k) e q
 |LtE=>exact mE (f:=λa b=>decide (a<=b)) (λk=>P.le_int k) e q
 |Gt=>exact mE (f:=λa b=>decide (b<a)) (λk=>P.gt_int k) e q
 |GtE=>exact mE (f:=λa b=>decide (b<=a)) (λk=>P.ge_int k) e q
 |In=>exact(ue e).1 q
 |NotIn=>
  show bf (K!.mp e) λb g c=>?_;subst c;exact(ue g).2 q
 |Is=>
  cases y using ϔ with
  |none=>exact(oX e).1 q
  |_=>exact nS e
 |IsNot=>
  cases y using ϔ with
  |none=>
   show bf (K!.mp e) λb g c=>?_;subst c;exact(oX g).2 q
  |_=>exact nS e
end
def classes:g? e!:=[79,275,296,317,338,522,583]
def eP (c:e!):e!:=
 if c=79 then 78 else if c=275 then 274 else if c=296 then 295 else if c=317 then 316 else if c=338 then 337 else if c=522 then 521 else 582
def Gl (o:Æ):ClassData:=match o.data with
 |.cls c=>c
 |_=>⟨"",[],[],0,"",f?,[],[],f?,e?,f?⟩
structure Fb (P:y_) (c:e!):Prop where
 obj:∃nm q bs sn sub col dd k0 k1 k2 k3 k5,(H1 P).get? c=d? (aaf nm q c (eP c) bs [r? "object"] j? sn sub f? col dd k0 k1 k2 k3 k5 "object.__new__")
 ns:(H1 P).Ns (eP c) (gA P (eP c))
 ga:gA P (eP c) "__getattribute__"=none
 gh:gA P (eP c) "__getattr__"=none
 sa:gA P (eP c) "__setattr__"=none
 free:∀x∈cq c,gA P (eP c) x=none
theorem UO (l:Ė c 974=j?) (g:(tD P).get c=d? (de P c)) (f:alive (de P c)=d? (de P c))
  (e:de P c=aaf (Gl (de P c)).name (Gl (de P c)).qualname c (eP c) (Gl (de P c)).bases [r? "object"] j? (Gl (de P c)).slotNames (Gl (de P c)).subclasses f? (Gl (de P c)).collection (de P c).dict
   ((de P c).slots.getD 0 none) ((de P c).slots.getD 1 none) ((de P c).slots.getD 2 none) ((de P c).slots.getD 3 none) ((de P c).slots.getD 5 none) "object.__new__")
  (n:(H1 P).Ns (eP c) (gA P (eP c))) (h:gA P (eP c) "__getattribute__"=none) (H:gA P (eP c) "__getattr__"=none) (a:gA P (eP c) "__setattr__"=none) (b:(cq c).map (gA P (eP c))=(cq c).map λZ=>none):Fb P c:=
 ⟨⟨_,_,_,_,_,_,_,_,_,_,_,_,(qh l g f).trans (R? d? e)⟩,n,h,H,a,abd.mp b⟩
theorem gw (P:y_) (h:c∈[79,275,296,317,338,522,583]):Fb P c:=by
 simp only[G?,Ň,abe] at h;rcases h with rfl|rfl|rfl|rfl|rfl|rfl|rfl <;>
  exact UO rfl (by kernel_rfl) (by kernel_rfl) (by kernel_rfl) (qk rfl (by kernel_rfl) (by kernel_rfl) (by kernel_rfl) (by kernel_rfl)) (by kernel_rfl) (by kernel_rfl) (by kernel_rfl) (by kernel_rfl)
def fu:g? k!:=["rows","index","depths","weights","opens","tid","name","sort","flags","base","ifaces","params","variances","bounds","fields","methods","asm","cctor","under","impls","props","events","finaliser","home","fid","owner","kind","access","value","mid"]
def ft:g? k!:=["ngen","gnames","gbounds","ret","pnames","pflags","body","native","kt","types","fields_","names","asms","entry","bases","sorts","unders","gflags","news","store","strict","pairs","listed","proved","row","put","ifaces_at","variance","has_new"]
theorem Tv:(fu++ft).map (builtinLookup "object")=(fu++ft).map λZ=>d? none:=by rw[builtinLookup_eq_fast];kernel_rfl
theorem zA (h:(fu.contains x||ft.contains x)=j?):typeLookup (r? "object") x=pure none:=by
 rw[typeLookup_type,abd.mp Tv x (N?.mpr ((aas.mp h).imp Ζ.mp Ζ.mp))]
theorem rq (h:c∈[79,275,296,317,338,522,583]) (H:x∈cq c):typeLookup (r? "object") x=pure none:=by
 show zA ?_;have k:([79,275,296,317,338,522,583]:g? m?).all (λc=>(cq c).all λx=>fu.contains x||ft.contains x)=j?:=by decide+kernel
 exact L?.mp (L?.mp k c h) x H
def nt (t:BT):m?->D?
 |0=>j?
 |n+1=>(match t.get n with
  |some o=>(alive o).isSome
  |none=>f?)&&nt t n
set_option tactic.hygienic true in
theorem oA:∀{n:m?},nt t n=j?->∀a,a<n->∃o,t.get a=d? o/\(alive o).isSome=j?
 |n+1,h,a,c=>by
  simp only[nt,Y?] at h;by_cases e:a=n
  ·subst e;have H:=h.1;split at H
   ·rename_i o b;exact⟨o,b,H⟩
   ·cases H
  ·exact oA h.2 a (by lia)
theorem GQ (P:y_) (H:a<974):∃o,(H1 P).get? a=d? o:=by
 have h:nt (tD P) 974=j?:=by kernel_rfl
 exact bf (oA h a H) λo b c=>Q! (H_.mp c) λO e=>⟨O,(aan H b).trans e⟩
theorem SR.wD (S:SR w ι H h) (n:h.get? a=none):974<=a:=by
 by_cases b:a<974
 ·show Q! (GQ w.params b) λo e=>?_;rw[S.base a o e] at n;cases n
 ·exact í b
theorem VR.handed (r:VR ι h v a):handedOut a=pure a:=by
 cases r<;>rfl
inductive InstAt (ι:ć) (h:Y!) (c a:e!) (fs:g? (k!×V)):Prop
 |mk (mA:k!->p? s?):h.Inst a c mA->(∀x,Ii ι h (fs.lookup x) (mA x))->c∈[79,275,296,317,338,522,583]->(∀x v,fs.lookup x=d? v->x∈cq c)->PySem.Within mA (cq c)->InstAt ι h c a fs
theorem SR.inst {w:u!} {ι:ć} {H:Hp} {h:Y!} {n:m?} {c a d:e!} {fs:g? (k!×V)} (S:SR w ι H h) (f:H[n]? = d? (ϕ c fs)) (i:ι[n]? = d? (a,d)) :
  InstAt ι h c a fs:=by
 obtain⟨o,m,g,k,l,p,q,s,r,t,R⟩:=S.cells n _ _ f i;show⟨m,⟨o,g,k,l,u? ⟨d,p,q,s⟩⟩,r,t,R,λy j=>?_⟩;have:=r y;cases e:fs.lookup y using aaa with
 |none=>
  rw[e] at this;cases b:m y using aaa with
  |none=>exact absurd b j
  |some v=>rw[b] at this;exact this.elim
 |some v=>exact R y v e
inductive Ro (P:y_) (c:e!) (h:Y!):Prop
 |mk (nm q bs sn sub col dd k0 k1 k2 k3 k5):h.get? c=d? (aaf nm q c (eP c) bs [r? "object"] j? sn sub f? col dd k0 k1 k2 k3 k5 "object.__new__")->h.Ns (eP c) (gA P (eP c))->Ro P c h
theorem Fb.up (C:Fb P c) (k:∀b o,(H1 P).get? b=d? o->h.get? b=d? o):Ro P c h:=by
 obtain⟨nm,q,bs,S,s,a,dd,K,d,f,g,i,e⟩:=C.obj;exact⟨nm,q,bs,S,s,a,dd,K,d,f,g,i,k _ _ e,C.ns.keeps k⟩
set_option tactic.hygienic true in
theorem la (h:eE o=f?):attributeBase o a env w=w:=by
 cases o using H!<;>first|rfl|skip
 rename_i f as ks p;cases f using H!<;>first|rfl|skip
 cases as using aab<;>first|rfl|skip
 cases ks using aab<;>first|rfl|exact nB h.symm
section
set_option tactic.hygienic true in
theorem N1 {K:s?->y?->Prop} (S:SR w ι H s.heap) (R:VR ι s.heap v B) (e:aA H a v=d? u)
  (q:∀d t,VR ι s.heap u d->K d {s with toks:=t}):n! (j! pw w) A (getAttr B a ex) K E s:=by
 show Vz e λn o l=>UH l λc fs y i=>?_;subst o;show VR.gH R λZ Z j m=>?_;subst m;obtain⟨M,I,x,b,k,_⟩:=S.inst y j;obtain⟨nm,T,bs,W,z,C,dd,F,J,L,N,O,p,r⟩:=(gw w.params b).up S.base;have h:=x a;rw[i] at h;cases f:M a using aaa with
 |none=>rw[f] at h;exact h.elim
 |some d=>
  rw[f] at h;obtain⟨hh,g,D,t,P⟩:=s;exact load_attr p r (gw w.params b).ga ((gw w.params b).free a (k a u i)) (rq b (k a u i)) I f (VR.handed h) (q d _ h)
theorem Qs (k:eE e=f?) (h:EV sc nm d e ρ H λv H=>ok (aA H a v) λu=>Q u H):EV sc nm d (.Attribute e a p) ρ H Q:=by
 intro w A env ι s K E o b S R T;rw[arm_eval_Attribute,la k];show l? (h w A env ι s _ E o b S R ?_);intro v m l y n j c f g R1;show bf (bw.mp j) λu i q=>l? (q! (l? (h! (N1 g R1 i λx t r=>?_))));exact l? (wpAny_letTemporaryGo (v? ((T.after f c).tok g r q)))
theorem UA {c a:e!} (h:c∈[79,275,296,317,338,522,583]) (H:974<=a):a≠c:=by
 rintro rfl;simp only[G?,Ň,abe] at h;rcases h with rfl|rfl|rfl|rfl|rfl|rfl|rfl<;>exact absurd H (by decide)
theorem Mp (h:c∈[79,275,296,317,338,522,583]):b? (cq c)<=ğ:=by
 simp only[G?,Ň,abe] at h;rcases h with rfl|rfl|rfl|rfl|rfl|rfl|rfl<;>decide
theorem aE (a:k!) (v:V) (y:k!):∀(l:g? (k!×V)),(au a v l).lookup y=if y=a then d? v else l.lookup y:=by
 intro L;induction L with
 |nil=>
  by_cases h:y=a
  ·subst h;change E_ y [(y,v)]=_;simp
  ·have:(y== a)=f?:=D_.mpr h;change E_ y [(a,v)]=_;simp[E_,this,h]
 |cons p l i=>
  obtain⟨k,u⟩:=p;rw[yg];by_cases b:k=a
  ·subst b;by_cases h:y=k
   ·subst h;simp[]
   ·have:(y== k)=f?:=D_.mpr h;simp[E_,this,h]
  ·rw[E? b];by_cases H:y=k
   ·subst H;simp[b]
   ·have:(y== k)=f?:=D_.mpr H;simp only[E_,this,i]
set_option tactic.hygienic true in
theorem Kb {K:ŝ->y?->Prop} (S:SR w ι H s.heap) (R:VR ι s.heap x x') (Rv:VR ι s.heap v v') (e:ck x a v H=d? H')
  (q:∀s',bR s s'->ą ι s.heap ι s'.heap->SR w ι H' s'.heap->K () s'):n! (j! pw w) A (setAttr x' a v') K E s:=by
 show Vz e λn ex z=>UH z λc fs O J=>jf J λd e3=>?_;subst ex e3;have d:a∈cq c:=by simpa using d
 show VR.gH R λr D f e_=>?_;subst e_;obtain⟨mA,I,hm,i,hk,hw⟩:=S.inst O f;obtain⟨nm,qn,bs,sn,sub,col,dd,k0,k1,k2,k3,k5,hC,hN⟩:=(gw w.params i).up S.base;have P:r≠c:=UA i (S.above r ⟨n,_,f,x? rfl⟩);obtain⟨oc,mA0,ho,r1,r2,r3,r4,r5,r6,r7,r8⟩:=S.cells n _ _ O f;obtain⟨hh,g,dr,t,os⟩:=s;have W:=Mp i;show store_attr PySem.F.store_object hC hN (gw w.params i).sa ((gw w.params i).free a d) (rq i d) P I (λh' tk' I' N k=>?_) hw W;show XZ (k oc ho) λo1 z c1 C Z B=>?_;have kk:∀b o,b≠r->b≠D->hh.get? b=d? o->h'.get? b=d? o:=λb o h1 h2 eb=>N b o h1 (λo₀ d' l ed=>by
  obtain rfl:=z! (ho.symm.trans l);obtain rfl:=z! (r3.symm.trans ed);exact h2) eb
 show Lw I' λo2 J c2 nc2 M=>?_;obtain rfl:=z! (z.symm.trans J);have j:=B D r3;have T:h'.Ns1 D (λy=>if y=a then d? v' else mA y):=by
  rcases M with q_|q_
  ·obtain⟨m,_⟩:=q_;rw[j] at m;cases m
  ·show jU q_ λd' L Z p=>?_;obtain rfl:=z! (j.symm.trans L);exact p
 have X:aP hh h'->CR w ι h' (r,D) (ϕ c (au a v fs)):=λtk=>by
  show⟨o1,_,z,c1.trans r1,λcc=>by rw[C];exact r2 cc,j,r4,T,λy=>?_,i,λy u Y=>?_⟩
  ·rw[aE];by_cases h:y=a
   ·rw[P? h,P? h];exact VR.mono (ĉ.refl _) tk Rv
   ·rw[E? h,E? h];exact(hm y).mono (ĉ.refl _) tk
  ·rw[aE] at Y;by_cases h:y=a
   ·rw[h];exact d
   ·rw[E? h] at Y;exact hk y u Y
 show r! (λS' st=>?_) (S.turn (h':=h') O f kk (u? ⟨c,_,rfl⟩) X);exact q ⟨h',g,dr,tk',os⟩ ⟨rfl,rfl⟩ st S'
end
def SU:s?->D?
 |Value.none=>j?
 |_=>f?
def Rl:s?->p? D?
 |.bool b=>d? b
 |_=>e?
def Wf:s?->p? k!
 |.str s _=>d? s
 |_=>e?
def J6:s?->p? e!
 |Value.ref a=>d? a
 |_=>e?
theorem NY (h:SU v=j?):v=T?:=by cases v using n_<;>first|rfl|exact(O? h).elim
theorem Nt (h:Rl v=d? b):v= .bool b:=by cases v using n_<;>first|(cases h;rfl)|cases h
theorem QP (h:Wf v=d? b):∃t,v= .str b t:=by cases v using n_<;>first|(cases h;exact⟨_,rfl⟩)|cases h
theorem DJ (h:J6 v=d? b):v=n? b:=by cases v using n_<;>first|(cases h;rfl)|cases h
def CY:s?->D?
 |Value.type c=>c== "tuple"
 |_=>f?
def Xz:Data->p? (O_ s?)
 |Data.seq vs _=>d? vs
 |_=>e?
theorem GV (h:CY v=j?):v=r? "tuple":=by cases v using n_<;>first|exact R? r? (U?.mp h)|exact(O? h).elim
theorem Qe (h:Xz v=d? vs):∃n,v=Z! vs n:=by cases v using aaS<;>first|(cases h;exact⟨_,rfl⟩)|cases h
def PL (o:Æ):p? (O_ s?):=bif CY o.cls then Xz o.data else e?
mutual
noncomputable def Wq (t:BT):m?->V->s?->D?
 |0,_,_=>f?
 |n+1,v,b=>match v with
  |ϖ=>SU b
  |ϑ a=>Rl b== d? a
  |ϋ i=>intOf b== d? i
  |Ϗ x=>Wf b== d? x
  |ύ l=>((J6 b).bind λa=>(t.get a).bind λo=>(PL o).map λvs=>(a,vs)).elim f? λr=>Ė r.1 974&&Pp t n l r.2.toList
  |ϩ a=>J6 b== d? a
  |ϊ _=>f?
noncomputable def Pp (t:BT):m?->g? V->g? s?->D?
 |0,_,_=>f?
 |n+1,l,L=>match l with
  |[]=>L.isEmpty
  |v::l=>i_ L f? λa L=>Wq t n v a&&Pp t n l L
end
theorem Jb:∀(n:m?),(∀{v:V} {b:s?},Wq (tD P) n v b=j?->VR [] (H1 P) v b)/\∀{l:g? V} {L:g? s?},Pp (tD P) n l L=j?->bJ [] (H1 P) l L:=by
 intro n;induction n with
 |zero=>exact⟨λh=>(O? h).elim,λh=>(O? h).elim⟩
 |succ n I=>
  show⟨λ{v b} h=>?_,λ{l L} h=>?_⟩
  ·cases v using ϔ with
   |none=>rw[NY h];exact .none
   |bool a=>rw[Nt (U?.mp h)];exact .bool _
   |int i=>obtain⟨t,e⟩:=lL (U?.mp h);rw[e];exact .int _ _
   |str s=>obtain⟨t,e⟩:=QP (U?.mp h);rw[e];exact .str _ _
   |tup l=>
    have h:((J6 b).bind λa=>((tD P).get a).bind λo=>(PL o).map λvs=>(a,vs)).elim f? (λr=>Ė r.1 974&&Pp (tD P) n l r.2.toList)=j?:=h;cases e:((J6 b).bind λa=>((tD P).get a).bind λo=>(PL o).map λvs=>(a,vs)) using aaa with
    |none=>rw[e] at h;exact(O? h).elim
    |some r=>
     rw[e] at h;show bf (ė.mp e) λa p e=>bf (ė.mp e) λo u e=>bf (K!.mp e) λvs f q=>?_;subst q;show r! (λH x=>?_) (t?.mp h);rw[DJ p];unfold PL at f;cases g:CY o.cls using so with
     |false=>rw[g] at f;cases f
     |true=>
      rw[g] at f;show Q! (Qe f) λk j=>?_;have m:=GV g;show .tup ⟨o,(aan (w? H) u).trans ?_,m,k,j⟩ (I.2 x);obtain⟨c,d,D,S⟩:=o;cases m;cases j;rfl
   |glob a=>rw[DJ (U?.mp h)];exact .glob _
   |ref _=>exact(O? h).elim
  ·cases l using aab with
   |nil=>cases L using aab with
    |nil=>exact ϫ
    |cons _ _=>exact(O? h).elim
   |cons v l=>cases L using aab with
    |nil=>exact(O? h).elim
    |cons b L=>
     show r! (λH w=>?_) (t?.mp h);exact ϧ (I.1 H) (I.2 w)
theorem FU (n:m?) (h:Wq (tD P) n v a=j?):VR [] (H1 P) v a:=(Jb n).1 h
def ip:Q_->s?
 |"len"=>.builtin "len"
 |"sorted"=>.builtin "sorted"
 |id=>r? id
def Cc:m?:=50
def Dr (f:Q_->D?) (v:s?):D?:=if h:v.ctorIdx=8 then Η v h f else f?
theorem QX {f:Q_->D?} (h:Dr f v=j?):∃c,v=r? c/\f c=j?:=by
 by_cases H:v.ctorIdx=8
 ·exact Η (motive:=λv=>Dr f v=j?->∃c,v=r? c/\f c=j?) v H (λc h=>⟨c,rfl,h⟩) h
 ·exact nB ((show Dr f v=_ from A_ H).symm.trans h)
def isFn (P:y_) (a:m?):D?:=Ė a 974&&ĥ ((tD P).get a) f? λo=>Dr (λc=>c== "function") o.cls&&o.data.ctorIdx== 7
inductive Vf (P:y_) (a:m?):Prop
 |mk (o:Æ) (fd:aa5):(H1 P).get? a=d? o->o.cls=r? "function"->o.data= .func fd->Vf P a
set_option tactic.hygienic true in
theorem vz (h:isFn P a=j?):Vf P a:=by
 unfold isFn at h;simp only[Y?] at h;show r! (λf H=>?_) (h);cases b:(tD P).get a using aaa with
 |none=>rw[b] at H;exact nB H
 |some o=>
  rw[b] at H;obtain⟨cl,dd,d,s⟩:=o;show r! (λe g=>?_) (t?.mp H);clear H;obtain⟨c,rfl,i⟩:=QX e;revert b;exact adh (motive:=λd=>(tD P).get a=d? ⟨r? c,dd,d,s⟩->Vf P a) d (U?.mp g) λfd b=>⟨_,fd,(aan (w? f) b).trans rfl,by rw[U?.mp i],rfl⟩
def Fu (P:y_) (x:k!):GK->D?
 |.fn a=>gA P I! x== d? (n? a)&&isFn P a
 |.cls a=>gA P I! x== d? (n? a)
 |ϱ v=>match gA P I! x with
  |some b=>Wq (tD P) Cc v b
  |none=>f?
 |.blt id=>(gA P I! x).isNone&&gA P Ł x== d? (ip id)
theorem Yd (P:y_):(G.all λp=>Fu P p.1 p.2)=j?:=by kernel_rfl
def gi:g? (e!×k!×e!):=[(79,"row",69),(79,"put",76),(522,"base",484),(522,"ifaces_at",491),(522,"sort",498),(522,"variance",505),(522,"under",512),(522,"has_new",519)]
def mC:g? (e!×e!):=[(79,62),(275,272),(296,293),(317,314),(338,335),(522,477),(583,580)]
def UE (P:y_):D?:=gi.all (λp=>gA P (eP p.1) p.2.1== d? (n? p.2.2)&&isFn P p.2.2)&&mC.all λp=>gA P (eP p.1) "__init__"== d? (n? p.2)&&isFn P p.2
theorem DE (P:y_):UE P=j?:=by kernel_rfl
theorem dQ {a:Type}:∀{l:g? (k!×a)} {x:k!} {v:a},l.lookup x=d? v->(x,v)∈l
 |(k,u)::r,x,v,h=>by
  rw[Ĥ] at h;cases H:x== k using so with
  |true=>rw[H] at h;cases h;rw[U?.mp H];exact o?
  |false=>rw[H] at h;exact q? _ (dQ h)
set_option tactic.hygienic true in
theorem nq {cx:Cx} {g:GK} (h:cx.glob x=d? g):cx.sc.names.lookup x=d? .globalImplicit/\∀P,Fu P x g=j?:=by
 rcases Vv h with⟨_,h⟩| ⟨_,h⟩| ⟨_,h⟩| ⟨e,h⟩
 ·exact nS h
 ·exact nS h
 ·exact nS h
 ·exact⟨e,λP=>L?.mp (Yd P) (x,g) (dQ h)⟩
theorem ĉ.nil (ι:ć):ĉ [] ι:=λn p e=>by simp at e
section
theorem oi {H:Hp} {A:D!} {E:s?->y?->Prop} {s:y?} {env:Ó} {cx:Cx} {v:s?} {K:s?->y?->Prop} (o:cK cx.sc env) (S:SR w ι H s.heap)
  (a:cx.sc.names.lookup x=d? .globalImplicit) (e:gA w.params I! x=d? v) (q:K v s):n! (j! pw w) A (adb env x) K E s:=by
 have h:env.scope.kind=b!:=by rw[o.scope];exact o.kind
 rw[acA h (by change env.scope.names.lookup x=_;rw[o.scope];exact a)];exact abJ (by rw[o.globals];exact(ig w.params).keeps S.base) e q
theorem Af {H:Hp} {A:D!} {E:s?->y?->Prop} {s:y?} {env:Ó} {cx:Cx} {v:s?} {K:s?->y?->Prop} (o:cK cx.sc env) (S:SR w ι H s.heap)
  (b:cx.sc.names.lookup x=d? .globalImplicit) (a:gA w.params I! x=none) (e:gA w.params Ł x=d? v) (q:K v s):n! (j! pw w) A (adb env x) K E s:=by
 have h:env.scope.kind=b!:=by rw[o.scope];exact o.kind
 rw[acA h (by change env.scope.names.lookup x=_;rw[o.scope];exact b)];exact abz (by rw[o.globals];exact(ig w.params).keeps S.base) a (by rw[o.builtins];exact(tE w.params).keeps S.base) e q
theorem U5 {w:u!} {ι:ć} {h:Y!} {x:k!} {v:V} (c:Fu w.params x (ϱ v)=j?) (k:∀b o,(H1 w.params).get? b=d? o->h.get? b=d? o):∃a,gA w.params I! x=d? a/\VR ι h v a:=by
 have H:(match gA w.params I! x with
  |some a=>Wq (tD w.params) Cc v a
  |none=>f?)=j?:=c
 generalize d:gA w.params I! x=b at H;cases b using aaa with
 |none=>cases H
 |some a=>exact⟨a,rfl,(FU (P:=w.params) Cc H).mono (ĉ.nil _) (aP.of k)⟩
theorem V2 {d:m?} {ρ:Ă} {H:Hp} {cx:Cx} {x:k!} {p:ś} {v:V} {Q:V->Hp->Prop} (h:cx.glob x=d? (ϱ v)) (b:(x== ("__debug__":k!))=f?) (q:Q v H):EV cx.sc cx.nm d (x! x p) ρ H Q:=by
 intro w A env ι s K E o a S R T;show r! (λf c=>?_) (nq h);exact bf (U5 (ι:=ι) (c w.params) S.base) λg e r=>È (oi o S f e (T.now S r q)) b
def CJ (sc:t_) (nm:g? k!) (d:m?) (e:g? k?) (ρ:Ă) (H:Hp) (Q:g? V->Hp->Prop):Prop:=
 ∀(w:u!) (A:D!) (env:Ó) (ι:ć) (s:y?) (p:ś) (K:g? s?->y?->Prop) (E:s?->y?->Prop),
  cK sc env->cJ A d->SR w ι H s.heap->LR ι s.heap env nm ρ->El w ι s Q K->n! (j! pw w) A (spliced (ţ p (Ļ e env))) K E s
theorem El.now {Q:g? V->Hp->Prop} {K:g? s?->y?->Prop} (T:El w ι s Q K) (S:SR w ι H s.heap) (R:bJ ι s.heap v a) (q:Q v H):K a s:=
 T v H ι a s q (bR.refl s) (ą.refl _ _) S R
theorem jL {Q:g? V->Hp->Prop} (q:Q [] H):CJ sc nm d [] ρ H Q:=
 λZ Z Z Z Z Z Z Z Z Z S Z T=>v? (T.now S ϫ q)
theorem gz (h:Ć e=j?):Ļ (e::r) env=(f?,aaL e env)::Ļ r env:=by
 cases e using H!<;>first|rfl|cases h
theorem gP {Q:g? V->Hp->Prop} (t:Ć e=j?) (h:EV sc nm d e ρ H λv H=>CJ sc nm d r ρ H λvs H=>Q (v::vs) H):CJ sc nm d (e::r) ρ H Q:=by
 intro w A env ι s p K E o a S R T;rw[gz t];show acB (h w A env ι s _ E o a S R ?_);intro v z i B u n f c k R1;show n w A env i u p _ E o a k (R.step S c) ?_;intro vs l j y x q g b m R2;exact T _ l j _ x q (f.trans g) (c.trans b) m (ϧ (R1.mono b.ext (b.tup k)) R2)
theorem dM {Q:g? V->Hp->Prop} {K:Args->y?->Prop} (c:b.all Ć=j?) (h:CJ sc nm d b ρ H Q)
  (o:cK sc env) (a:cJ A d) (S:SR w ι H s.heap) (R:LR ι s.heap env nm ρ) (T:El w ι s Q λvs s'=>K ⟨vs,[]⟩ s'):n! (j! pw w) A (evalArgs f j? (ţ p (Ļ b env)) []) K E s:=by
 cases b using aab with
 |nil=>
  have:=h w A env ι s p (λvs s'=>K ⟨vs,[]⟩ s') E o a S R T;show l? (ł this (λvs s' h'=>?_) λZ Z x=>x);show l? (v? ?_);exact h!<|l? (v? (l? (v? (v? h'))))
 |cons e r=>
  simp only[Ŏ,Y?] at c;have:=h w A env ι s p (λvs s'=>K ⟨vs,[]⟩ s') E o a S R T;rw[gz c.1] at this ⊢;exact aca this
theorem Wt (h:Fu P x (.fn a)=j?):gA P I! x=d? (n? a)/\isFn P a=j?:=by
 have H:(gA P I! x== d? (n? a)&&isFn P a)=j?:=h;show r! (λb c=>?_) (t?.mp H);exact⟨eq_of_beq b,c⟩
theorem Fv (h:Fu P x (.cls a)=j?):gA P I! x=d? (n? a):=by
 have H:(gA P I! x== d? (n? a))=j?:=h;exact eq_of_beq H
theorem LJ (h:Fu P x (.blt b)=j?):gA P I! x=none/\gA P Ł x=d? (ip b):=by
 have H:((gA P I! x).isNone&&gA P Ł x== d? (ip b))=j?:=h;show r! (λa c=>?_) (t?.mp H);exact⟨by simpa using a,eq_of_beq c⟩
theorem P9 {d:m?} {ρ:Ă} {H:Hp} {cx:Cx} {p:ś} {e:g? k?} {P:ś} {Q:V->Hp->Prop} (k:cx.glob f=d? (.fn a)) (j:(f== ("__debug__":k!))=f?) (t:e.all Ć=j?)
  (h:CJ cx.sc cx.nm d e ρ H λvs H=>aG d a vs H Q):EV cx.sc cx.nm d (.Call (x! f p) e [] P) ρ H Q:=by
 intro w A env ι s K E O r S R T;show r! (λm l=>?_) (nq k);have i:=Wt (l w.params);obtain⟨o,fd,n,_,b⟩:=vz i.2;show l? (È (oi O S m i.1 ?_) j);show ŷ (o:=o) (fd:=fd) (dM t h O r S R ?_);intro vs y c v u q x st g R1;exact⟨⟨g.base _ _ n,b⟩,q.run w A c u v K E r g R1 (T.after st x)⟩
end
theorem dS:∀{a:g? k?},a.all Ć=j?->Ļ a env=a.map λe=>(f?,aaL e env):=by
 intro l;induction l with
 |nil=>
  rintro _;exact rfl
 |cons e r i=>
  rintro h;simp only[Ŏ,Y?] at h;rw[gz h.1,i h.2];rfl
theorem Du (h:e.all Ć=j?) (a:b? e<20):acb (b? e+b? ([]:g? Keyword)) (ţ p (Ļ e env)) (abf p (Ø [] env))=j?:=by
 rw[dS h];unfold acb ţ abf;have H:Ø [] env=[]:=rfl;rw[H];simp;lia
theorem oD (h:Ā.meth c m=d? f):(c,m,f)∈gi/\c∈[79,275,296,317,338,522,583]/\(fu.contains m||ft.contains m)=j?:=by
 have k:gi.all (λp=>fu.contains p.2.1||ft.contains p.2.1)=j?:=by decide+kernel
 have K:(([("row",69),("put",76)]:g? (k!×e!)).all λp=>decide ((79,p.1,p.2)∈gi))=j?:=by decide+kernel
 have a:(([("base",484),("ifaces_at",491),("sort",498),("variance",505),("under",512),("has_new",519)]:g? (k!×e!)).all λp=>decide ((522,p.1,p.2)∈gi))=j?:=by decide+kernel
 have H:(c,m,f)∈gi/\c∈[79,275,296,317,338,522,583]:=by
  have h:(if c=79 then([("row",69),("put",76)]:g? (k!×e!)).lookup m
   else if c=522 then([("base",484),("ifaces_at",491),("sort",498),("variance",505),("under",512),("has_new",519)]:g? (k!×e!)).lookup m else e?)=d? f:=h
  by_cases e:c=79
  ·subst e;exact⟨F_ (L?.mp K _ (dQ ((P? rfl).symm.trans h))),by decide⟩
  ·have h:=(E? e).symm.trans h;by_cases e:c=522
   ·subst e;exact⟨F_ (L?.mp a _ (dQ ((P? rfl).symm.trans h))),by decide⟩
   ·exact absurd ((E? e).symm.trans h) (λe=>by cases e)
 exact⟨H.1,H.2,L?.mp k _ H.1⟩
theorem Qn (h:Ā.meth c m=d? f):gA P (eP c) m=d? (n? f)/\isFn P f=j?:=by
 have H:(gi.all (λp=>gA P (eP p.1) p.2.1== d? (n? p.2.2)&&isFn P p.2.2)&&mC.all λp=>gA P (eP p.1) "__init__"== d? (n? p.2)&&isFn P p.2)=j?:=DE P;have a:=L?.mp (t?.mp H).1 _ (oD h).1;show r! (λb d=>?_) (t?.mp a);exact⟨eq_of_beq b,d⟩
theorem P6 (h:Ā.init c=d? f):gA P (eP c) "__init__"=d? (n? f)/\isFn P f=j?/\c∈[79,275,296,317,338,522,583]:=by
 have b:(gi.all (λp=>gA P (eP p.1) p.2.1== d? (n? p.2.2)&&isFn P p.2.2)&&mC.all λp=>gA P (eP p.1) "__init__"== d? (n? p.2)&&isFn P p.2)=j?:=DE P;have a:(c,f)∈mC:=by
  unfold Ā at h;simp only at h;revert h;generalize i:([(79,62),(275,272),(296,293),(317,314),(338,335),(522,477),(583,580)]:g? (e!×e!))=l;intro h;have:∀{l:g? (e!×e!)},l.lookup c=d? f->(c,f)∈l:=by
   intro l;induction l with
   |nil=>intro h;simp at h
   |cons p r I=>
    intro h;obtain⟨k,u⟩:=p;rw[Ĥ] at h;cases H:c== k using so with
    |true=>rw[H] at h;cases h;rw[U?.mp H];exact o?
    |false=>rw[H] at h;exact q? _ (I h)
  have:=this h;rw[<- i] at this;exact this
 have d:=L?.mp (t?.mp b).2 _ a;show r! (λe g=>?_) (t?.mp d);show⟨eq_of_beq e,g,?_⟩;simp only[mC,G?,Prod.mk.injEq,Ň,abe] at a;rcases a with h|h|h|h|h|h|h<;>(rw[h.1];decide)
section
set_option tactic.hygienic true in
theorem Qp {d:m?} {ρ:Ă} {H:Hp} {cx:Cx} {o:k?} {z:g? k?} {B p:ś} {Q:V->Hp->Prop} (hb:eE o=f?) (hs:z.all Ć=j?) (hl:b? z<20) (hp:(B.endLine== p.line)=j?)
  (h:EV cx.sc cx.nm d o ρ H λv H=>ok (jz H v) λc=>ok (Ā.meth c m) λf=>aA H m v=e?/\CJ cx.sc cx.nm d z ρ H λvs H=>aG d f (v::vs) H Q) :
  EV cx.sc cx.nm d (.Call (.Attribute o m B) z [] p) ρ H Q:=by
 intro w A env ι s K E O r S R T;rw[acC,la hb];show l? (h w A env ι s _ E O r S R ?_);intro v X ι1 v' s1 h1 M l y R1;show bf (bw.mp h1) λc e1 h2=>jU (bw.mp h2) λf e2 e3 h3=>l? (q! ?_);unfold methodCall;rw[Du hs hl];show Vz e1 λn ev C=>UH C λc' fs hn e6=>?_;subst ev;obtain rfl:=z! e6;show VR.gH R1 λad dx k e_=>?_;subst e_;obtain⟨mA,I,hm,D,hk,_⟩:=y.inst hn k;obtain⟨nm,qn,bs,sn,sub,col,dd,k0,k1,k2,k3,k5,hC,hN⟩:=(gw w.params D).up y.base;show r! (λa J=>?_) (Qn (P:=w.params) e2);obtain⟨of,fd,i,F,b⟩:=vz J;have L:mA m=none:=by
  have:=hm m;have e4:fs.lookup m=none:=by
   have:aA X m (ϊ n)=fs.lookup m:=by change LL X[n]? _=_;rw[hn];rfl
   rw[<- this];exact e3
  rw[e4] at this;cases C:mA m using aaa with
  |none=>rfl
  |some u=>rw[C] at this;exact this.elim
 have e:=zA (oD e2).2.2;obtain⟨hh,g,dr,t,os⟩:=s1;show l? (h! (method_of hC hN (gw w.params D).ga (gw w.params D).gh a (y.base _ _ i) F e I L ?_));have j:ã j? o env B p=pure p:=by unfold ã;simp[hp]
 rw[j];show l? (v? ?_);show ŷ (o:=of) (fd:=fd) (dM hs h3 O r y (R.step S l) ?_);intro vs H2 W vs' s2 q N x Y R2;exact⟨⟨Y.base _ _ i,b⟩,q.run w A W s2 _ K E r Y (ϧ (.ref (x.ext _ _ k)) R2) (T.after (l.trans x) (M.trans N))⟩
theorem wG {M:Model} {A:D!} {s:y?} {bs:g? s?} {f:g? k!} {S:g? s?} {c:p? D?} {dd:p? e!} {k K a b e:p? s?} {n:Q_} {Q:Keeper->y?->Prop} {E:s?->y?->Prop}
  (h:s.heap.get? C=d? (aaf nm q C N bs [r? "object"] j? f S f? c dd k K a b e n)) (i:Q .machine s):n! M A (keeperOf (n? C)) Q E s:=by
 obtain⟨hh,g,d,t,o⟩:=s;have F:=tc_lookup;have H:(⟨hh,g,d,t,o⟩:y?).TypeIs (n? C) "type":=⟨_,h,rfl⟩
 repeat(any_goals (first|assumption|with_reducible show wpAny_loadPart_at h ?_|with_reducible show wpAny_load' h ?_|wp_step))
theorem T9 {d:m?} {ρ:Ă} {H:Hp} {cx:Cx} {p:ś} {I:g? k?} {l:ś} {Q:V->Hp->Prop} (hf:cx.glob f=d? (.cls c)) (u:(f== ("__debug__":k!))=f?) (hs:I.all Ć=j?)
  (h:CJ cx.sc cx.nm d I ρ H λvs H=>ok (Ā.init c) λfI=>1<=d/\aG (d - 1) fI (ϊ (b? H)::vs) (H++[ϕ c []]) λr H'=>r=ϖ/\Q (ϊ (b? H)) H'):EV cx.sc cx.nm d (.Call (x! f p) I [] l) ρ H Q:=by
 intro w A env ι s K E O i S R T;show r! (λhk hg=>?_) (nq hf);have J:=Fv (hg w.params);show l? (È (oi O S hk J ?_) u);show l? (h! (dM hs h O i S R ?_));intro vs H1 C vs' s1 q sm st n R1;show Ni λG k_=>jU (bw.mp q) λfI e2 y q=>fP (P6 (P:=w.params) e2) λk N hc=>?_;obtain⟨of,fd,X,L,hdat⟩:=vz N;obtain⟨nm,qn,bs,sn,sub,col,dd,k0,k1,k2,k3,k5,hC,hN⟩:=(gw w.params hc).up n.base;show k_ ?_;have Y:((ţ l (Ļ I env)).any (λx=>x.fst)||(abf l (Ø [] env)).any λx=>x.fst.isNone)=f?:=by
  rw[dS hs];unfold ţ abf;have J:Ø [] env=[]:=rfl;rw[J];simp
 obtain⟨hh,g,dr,t,os⟩:=s1;show l? (q! ?_);rw[Y];show l? (wG hC ?_);show l?<|wpAny_call_obj_init PySem.F.objNew hC hN k (n.base _ _ X) L (λh' x D M=>?_);have W:=n.len;obtain⟨S2,z,a⟩:=(show _/\_/\(C++[(x,D)])[b? H1]? = d? (x,D) from by
  have hx:=n.snoc (h':=h') (p:=(x,D)) (c:=ϕ c []) M.keeps M.newX M.newD (n.wD M.newX) (n.wD M.newD) ?_ ?_
  ·exact⟨hx.1,hx.2,by rw[<- W];exact eg _ _⟩
  ·exact u? ⟨_,_,rfl⟩
  ·show Lw M.inst λo ho r1 r2 m=>?_;have u:=M.dict o ho;rcases m with q_|q_
   ·obtain⟨m,_⟩:=q_;rw[u] at m;cases m
   ·show jU q_ λdx' m r4 r5=>?_;rw[u] at m;cases m;exact⟨o,λZ=>none,ho,r1,r2,u,r4,r5,λx=>trivial,hc,λx v e=>by cases e⟩)
 show q.run w (A.under _) (C++[(x,D)]) ⟨h',g,dr,t,os⟩ _ _ _ ?_ S2 (ϧ (.ref a) (R1.mono z.ext (aP.of M.keeps))) ?_
 ·show fP i λg1 g2 g3=>⟨?_,?_,g3⟩
  ·exact Xg (c:=2) (j:=1) y g1 rfl
  ·exact Xg (c:=20) (j:=1) y g2 rfl
 ·intro v H' ι' v' s' hv sm3 B S3 R3;show r! (λq_0 hq=>?_) (hv);subst q_0;have e:=VR.none_inv R3;subst e;show⟨rfl,l? (h! (wpAny_point (v? ?_)))⟩;exact T _ _ _ _ _ hq (sm.trans (bR.trans (b:=⟨h',g,dr,t,os⟩) ⟨rfl,rfl⟩ sm3)) (st.trans (z.trans B)) S3 (.ref (B.ext _ _ a))
end
def VC (sc:t_) (nm:g? k!) (d:m?) (t:Ó->Sem s?) (ρ:Ă) (H:Hp) (Q:V->Hp->Prop):Prop:=
 ∀(w:u!) (A:D!) (env:Ó) (ι:ć) (s:y?) (K:s?->y?->Prop) (E:s?->y?->Prop),
  cK sc env->cJ A d->SR w ι H s.heap->LR ι s.heap env nm ρ->gy w ι s Q K->n! (j! pw w) A (t env) K E s
def ON (sc:t_) (nm:g? k!) (d:m?) (t:Ó->Sem D?) (ρ:Ă) (H:Hp) (Q:V->Hp->Prop):Prop:=
 ∀(w:u!) (A:D!) (env:Ó) (ι:ć) (s:y?) (K:D?->y?->Prop) (E:s?->y?->Prop),
  cK sc env->cJ A d->SR w ι H s.heap->LR ι s.heap env nm ρ->(∀b H' a s',Q (ϑ b) H'->bR s s'->ą ι s.heap a s'.heap->SR w a H' s'.heap->K b s')->n! (j! pw w) A (t env) K E s
def TS (sc:t_) (nm:g? k!) (d:m?) (e:k?) (ρ:Ă) (H:Hp) (Q:V->Hp->Prop):Prop:=ON sc nm d (λenv=>ac1 e env (aaL e env)) ρ H Q
def uj (m:D?) (sc:t_) (nm:g? k!) (d:m?) (e:k?) (ρ:Ă) (H:Hp) (Q:V->Hp->Prop):Prop:=match m with
 |false=>EV sc nm d e ρ H Q
 |true=>TS sc nm d e ρ H Q
theorem empty_eq {a:Type} {l:g? a} {vs:O_ s?} (h:b? l=b? vs.toList):(!vs.isEmpty)= !l.isEmpty:=by
 cases vs using Array.casesOn with
 |mk r=>
  cases l using aab with
  |nil=>
   cases r using aab with
   |nil=>rfl
   |cons y r=>simp at h
  |cons x l=>
   cases r using aab with
   |nil=>simp at h
   |cons y r=>rfl
set_option tactic.hygienic true in
theorem gb {K:D?->y?->Prop} (S:SR w ι H s.heap) (R:VR ι s.heap v r) (h:bT H v=d? b)
  (q:∀t,K b {s with toks:=t}):n! (j! pw w) A (truthy r) K E s:=by
 cases v using ϔ with
 |none=>cases h;have e:=VR.none_inv R;subst e;exact truthy_none (q _)
 |bool x=>cases h;have e:=VR.bool_inv R;subst e;exact abg (q _)
 |int i=>
  cases h;obtain⟨_,e⟩:=VR.int_inv R;subst e;show P.truthy_int ?_;have:=q s.toks;have e:(decide (i≠0))=(i != 0):=by by_cases h:i=0<;>simp[h]
  rw[e] at this;exact this
 |tup l=>
  show jf h λj e=>?_;subst e;show fL R.isTup λa vs f p c=>?_;subst f;show truthy_tuple p ?_ ?_
  ·have:=c.length;simp at this;lia
  ·rw[empty_eq c.length];exact q _
 |ref n=>
  show rp h λxs m h=>jf h λj e=>?_;subst e;show VR.gH R λu D d g=>?_;subst g;show pq (S.cells n _ _ m d) λvs k o c=>wpAny_truthy_list ⟨_,o,rfl,_,rfl⟩ ?_ ?_
  ·have:=c.length;simp at this;lia
  ·rw[empty_eq c.length];exact q _
 |_=>exact nS h
section
theorem bc (i:∀env,ac1 e env (aaL e env)=(do let v <- aaL e env;standAt e.pos;holding [v] (truthy v))) (h:EV sc nm d e ρ H λv H=>fin m v H Q):uj m sc nm d e ρ H Q:=by
 cases m using so with
 |false=>exact h
 |true=>
  intro w A env ι s K E o r S R T;show isTrue_plain (h w A env ι s _ E o r S R ?_) (i env);intro v f a l k q j st c R1;exact bf (bw.mp q) λb g q=>gb c R1 g λt=>T b f a _ q (j.trans ⟨rfl,rfl⟩) st c
theorem fT {b:V->Hp->Prop} (x:TS sc nm d e ρ H Q) (h:∀v H',Q v H'->b v H'):TS sc nm d e ρ H b:=
 λw A env ι s K E o r S R T=>x w A env ι s K E o r S R (λv H' a s' q=>T v H' a s' (h _ H' q))
theorem xv {sc:t_} {nm:g? k!} {d:m?} {ρ:Ă} {H:Hp} {g:Type} {A:D!} {env:Ó} {s:y?} {c:k?} {P:D?->Hp->Prop} {a b:Sem g} {K:g->y?->Prop} {E:s?->y?->Prop} (h:TS sc nm d c ρ H (jg P)) (o:cK sc env) (r:cJ A d) (S:SR w ι H s.heap) (R:LR ι s.heap env nm ρ)
  (k:∀t H' e s',P t H'->bR s s'->ą ι s.heap e s'.heap->SR w e H' s'.heap->LR e s'.heap env nm ρ->n! (j! pw w) A (if t then a else b) K E s') :
  n! (j! pw w) A (do if <- ac1 c env (aaL c env) then a else b) K E s:=by
 show l? (h w A env ι s _ E o r S R ?_);intro t i f l q m st j;exact k t i f l q m st j (R.step S st)
theorem Qt (h:TS sc nm d c ρ H (jg λt H=>match t with|true=>uj m sc nm d a ρ H Q|false=>uj m sc nm d b ρ H Q)):uj m sc nm d (.IfExp c a b p) ρ H Q:=by
 cases m using so with
 |false=>
  intro w A env ι s K E o r S R T;show xv h o r S R ?_;intro t u e k q l st j R1;cases t using so with
  |true=>exact q w A env e k K E o r j R1 (T.after st l)
  |false=>exact q w A env e k K E o r j R1 (T.after st l)
 |true=>
  intro w A env ι s K E o r S R T;show xv h o r S R ?_;intro t u e k q l st j R1;cases t using so with
  |true=>exact q w A env e k K E o r j R1 (λb H' i s' q f g n=>T b H' i s' q (l.trans f) (st.trans g) n)
  |false=>exact q w A env e k K E o r j R1 (λb H' i s' q f g n=>T b H' i s' q (l.trans f) (st.trans g) n)
theorem Uq (h:EV sc nm d a ρ H λx H=>ok (bT H x) λt=>Q (ϑ !t) H):EV sc nm d (.UnaryOp .Not a p) ρ H Q:=by
 intro w A env ι s K E o r S R T;show l? (h w A env ι s _ E o r S R ?_);intro v f c k j q i st e R1;show bf (bw.mp q) λb g q=>l? (q! (h! (not_value (gb e R1 g λt=>?_))));exact T _ f c _ _ q (i.trans ⟨rfl,rfl⟩) st e (.bool _)
theorem T6 (h:TS sc nm d a ρ H (jg λt H=>Q (ϑ !t) H)):TS sc nm d (.UnaryOp .Not a p) ρ H Q:=by
 intro w A env ι s K E o r S R T;show l? (h w A env ι s _ E o r S R ?_);intro t c b f q g st e;exact v? (T _ c b f q g st e)
theorem UN (z:â op r=f?) (h:EV sc nm d l ρ H λx H=>EV sc nm d r ρ H λy H=>
  ∀(w:u!) (A:D!) (ι:ć) (s:y?) (X Y:s?) (K:s?->y?->Prop) (E:s?->y?->Prop),cJ A d->SR w ι H s.heap->VR ι s.heap x X->VR ι s.heap y Y->(∀b t,Q (ϑ b) H->K (.bool b) {s with toks:=t})->n! (j! pw w) A (ë op X Y) K E s) :
  TS sc nm d (.Compare l [op] [r] pos) ρ H Q:=by
 intro w A env ι s K E o a S R T;show l? (h w A env ι s _ E o a S R ?_);intro x D k X B u i e m R1;have g:markedEach [op] [r] (î [r] env)=[aaL r env]:=by
  change[markedBehindIn op r (aaL r env)]=_;rw[markedBehindIn_of_false z]
 rw[g];show l? (h! (u w A env k B _ E o a m (R.step S e) ?_));intro y p f Y C v j c n R2;show l? (q! (l? (acd ?_)));show v w A f C X Y _ E a n (R1.mono c.ext (c.tup m)) R2 ?_;intro b t q;exact h! (abg (T b p f _ q ((i.trans j).trans ⟨rfl,rfl⟩) (e.trans c) n))
theorem zk (h:EV sc nm d x ρ H λv H=>ok (bT H v) λt=>match t with|true=>VC sc nm d (λenv=>ace p .And (î (y::r) env)) ρ H Q|false=>Q v H) :
  VC sc nm d (λenv=>ace p .And (î (x::y::r) env)) ρ H Q:=by
 intro w A env ι s K E o a S R T;show l? (h w A env ι s _ E o a S R ?_);intro v g c k j q f st e R1;show bf (bw.mp q) λb i q=>l? (q! (l? (h! (gb e R1 i λt=>?_))));cases b using so with
 |true=>exact q w A env c _ K E o a e (R.step S st) (T.after (s':={j with toks:=t}) st (f.trans ⟨rfl,rfl⟩))
 |false=>exact v? (T v g c k _ q (f.trans ⟨rfl,rfl⟩) st e R1)
theorem Cb (h:EV sc nm d x ρ H λv H=>ok (bT H v) λt=>match t with|true=>Q v H|false=>VC sc nm d (λenv=>ace p .Or (î (y::r) env)) ρ H Q) :
  VC sc nm d (λenv=>ace p .Or (î (x::y::r) env)) ρ H Q:=by
 intro w A env ι s K E o a S R T;show l? (h w A env ι s _ E o a S R ?_);intro v g c k j q f st e R1;show bf (bw.mp q) λb i q=>l? (q! (l? (h! (gb e R1 i λt=>?_))));cases b using so with
 |false=>exact q w A env c _ K E o a e (R.step S st) (T.after (s':={j with toks:=t}) st (f.trans ⟨rfl,rfl⟩))
 |true=>exact v? (T v g c k _ q (f.trans ⟨rfl,rfl⟩) st e R1)
theorem DC (h:TS sc nm d x ρ H (jg λt H=>match t with|true=>ON sc nm d (λenv=>aao .And r env) ρ H Q|false=>Q (ϑ f?) H)):ON sc nm d (λenv=>aao .And (x::r) env) ρ H Q:=by
 intro w A env ι s K E o a S R T;show wpAny_allTrue_And_cons (h w A env ι s _ E o a S R ?_);intro t l c j q k st i;cases t using so with
 |true=>exact q w A env c j K E o a i (R.step S st) (λb H' g s' q e f m=>T b H' g s' q (k.trans e) (st.trans f) m)
 |false=>exact T _ l c j q k st i
theorem JK (h:TS sc nm d x ρ H (jg λt H=>match t with|true=>Q (ϑ j?) H|false=>ON sc nm d (λenv=>aao .Or r env) ρ H Q)):ON sc nm d (λenv=>aao .Or (x::r) env) ρ H Q:=by
 intro w A env ι s K E o a S R T;show wpAny_allTrue_Or_cons (h w A env ι s _ E o a S R ?_);intro t l c j q k st i;cases t using so with
 |false=>exact q w A env c j K E o a i (R.step S st) (λb H' g s' q e f m=>T b H' g s' q (k.trans e) (st.trans f) m)
 |true=>exact T _ l c j q k st i
end
set_option tactic.hygienic true in
theorem fo (h:isSlice s=f?):subscripted s f? o i=operate [o,i] (ac2 o i):=by
 cases s using H!<;>first|rfl|skip
 rename_i a b c p;cases c using aaa<;>first|rfl|exact nB h.symm
set_option tactic.hygienic true in
theorem placeOf_some (h:Ď n k=d? j):acM k n=d? j/\-(2 ^ 63)<=k/\k<2 ^ 63:=by
 unfold Ď at h;unfold acM;split at h
 ·split at h
  ·rename_i H a;cases h;have:¬k<0:=adm.mpr H;simp only[E? this];show⟨?_,by lia,by lia⟩;rw[P?];simp;lia
  ·cases h
 ·split at h
  ·rename_i H a;cases h;have:k<0:=Int.not_le.mp H;simp only[P? this];show⟨?_,by lia,by lia⟩;rw[P?];simp;lia
  ·cases h
theorem bJ.at {ι:ć} {h:Y!} {l:g? V} {vs:O_ s?} {j:m?} {v:V} (r:bJ ι h l vs.toList) (e:l[j]? = d? v):∃a,vs[j]? = d? a/\VR ι h v a:=by
 exact bf (r.get e) λa b H=>⟨a,by simpa using b,H⟩
section
set_option tactic.hygienic true in
theorem Hq (f:isSlice B=f?) (h:bN x y H=d? r) (q:Q r H) :
  ∀(w:u!) (A:D!) (ι:ć) (s:y?) (x' y':s?) (K:s?->y?->Prop) (E:s?->y?->Prop),cJ A d->SR w ι H s.heap->VR ι s.heap x x'->VR ι s.heap y y'->gy w ι s Q K->
   n! (j! pw w) A (acD Y B x' y') K E s:=by
 intro w A ι s x' y' K E R S R1 R2 T;cases x using ϔ with
 |tup l=>
  show HY h λk m u=>Qc u λj I e=>?_;subst m;show fL R1.isTup λa vs X ht C=>?_;subst X;obtain⟨_,e⟩:=VR.int_inv R2;subst e;show fP (placeOf_some I) λP N O=>bf (C.at e) λF D i=>?_;have L:b? l=vs.size:=by rw[C.length,W?]
  rw[L] at P;exact Ÿ ht.typeIs ŕ.lookup (getItem_tuple ht N O P D (T.now S i q)) (fo f)
 |glob g=>
  show HY h λk m u=>VL u λhg v=>?_;subst m;have e:=VR.mi R1;subst e;obtain⟨_,e⟩:=VR.int_inv R2;subst e;show jU (S.tab hg) λb o i hs=>?_;have:=i.find k;rw[v] at this;cases e:Ŵ b k using aaa with
  |none=>rw[e] at this;exact this.elim
  |some F=>
   rw[e] at this;exact Ÿ o.mapOf.typeIs Ť.lookup (ï (ĩ pw w k _) o.mapOf e (T.tok S this q)) (fo f)
 |ref n=>
  show VR.gH R1 λad dx t e_=>?_;subst e_;rcases hZ h with⟨xs,z,h⟩| ⟨kvs,z,h⟩| ⟨kvs,z,h⟩| ⟨kvs,z,h⟩
  ·show HY h λk m u=>Qc u λj I e=>?_;subst m;show pq (S.cells _ _ _ z t) λvs c ho C=>?_;obtain⟨_,e⟩:=VR.int_inv R2;subst e;show fP (placeOf_some I) λP N O=>bf (C.at e) λF D i=>?_;have L:b? xs=vs.size:=by rw[C.length,W?]
   have M:s.heap.IsList ad vs:=⟨_,ho,rfl,_,rfl⟩
   show Ÿ M.typeIs Ù.lookup ?_ (fo f);rw[L] at P;unfold acM at P;by_cases J:k<0
   ·rw[P? J] at P;show jf P λhb P=>?_;subst P;exact wpAny_getItem_list_neg M J (by simp at hb;lia) N D (T.now S i q)
   ·rw[E? J] at P;show jf P λhb P=>?_;subst P;exact wpAny_getItem_list M (by lia) O D (T.now S i q)
  ·show HY h λk m v=>?_;subst m;show bf (S.cells _ _ _ z t) λb o i=>?_;obtain⟨_,e⟩:=VR.int_inv R2;subst e;have:=i.find k;rw[v] at this;cases e:Ŵ b k using aaa with
   |none=>rw[e] at this;exact this.elim
   |some F=>
    rw[e] at this;exact Ÿ o.mapOf.typeIs Ť.lookup (ï (ĩ pw w k _) o.mapOf e (T.tok S this q)) (fo f)
  ·show Zq h λk m v=>?_;subst m;show bf (S.cells _ _ _ z t) λb o i=>?_;obtain⟨_,e⟩:=VR.str_inv R2;subst e;have:=i.find k;rw[v] at this;cases e:Ŵ b k using aaa with
   |none=>rw[e] at this;exact this.elim
   |some F=>
    rw[e] at this;exact Ÿ o.mapOf.typeIs Ť.lookup (ï (aaP pw w k _) o.mapOf e (T.tok S this q)) (fo f)
  ·show XU h λl m u=>VL u λhp v=>?_;subst m
   letI:=V.decEq
   show bf (S.dJ z t) λxs o i=>bf (R2.key hp) λa W rk=>?_;subst W;have:=i.find (ύ l);rw[v] at this;cases e:ab9 xs (ύ l) using aaa with
   |none=>rw[e] at this;exact this.elim
   |some p=>
    rw[e] at this;exact Ÿ o.typeIs Ť.lookup (wpAny_getItem_heap (knd:=vKind w) R.vk ⟨hp,rk⟩ o e (T.tok S this q)) (fo f)
 |_=>exact nS h
end
section
theorem TY (g:isSlice i=f?) (h:EV sc nm d a ρ H λx H=>EV sc nm d i ρ H λy H=>ok (bN x y H) λr=>Q r H):EV sc nm d (.Subscript a i P) ρ H Q:=by
 intro w A env ι s K E o b S R T;show aaT (h w A env ι s _ E o b S R ?_);intro x B l X v t j f n R1;show t w A env l v _ E o b n (R.step S f) ?_;intro y C m Y z u k c p R2;exact bf (bw.mp u) λr e q=>Hq (Q:=Q) g e q w A m z X Y K E b p (R1.mono c.ext (c.tup n)) R2 (T.after (f.trans c) (j.trans k))
end
theorem AE (n:m?):h_ none none (-1) (n:C?)=((n:C?) - 1,-1):=by
 unfold h_;simp
theorem CX (n:m?):t! ((n:C?) - 1) (-1) (-1)=n:=by
 unfold t!;simp;split<;>lia
theorem zU (b n:m?):h_ none (d? (b:C?)) 1 (n:C?)=(0,((min b n:m?):C?)):=by
 unfold h_;have h:¬((b:C?)<0):=adm.mpr (Ķ b);simp[h];exact ZS
theorem oM (m:m?):t! 0 (m:C?) 1=m:=by
 unfold t!;simp;split<;>lia
theorem NI {a b:Type} {f g:a->p? b}:∀{l:g? a},(∀x∈l,f x=g x)->l.filterMap f=l.filterMap g:=by
 intro L;induction L with
 |nil=>
  exact λZ=>rfl
 |cons x r i=>
  exact λh=>by
   rw[ž,ž,h x o?,i λy H=>h y (q? _ H)]
theorem Ma (xs:O_ s?):((l! xs.size).filterMap λ(k:m?)=>xs[(((xs.size:C?) - 1)+(k:C?) * (-1)).toNat]?)=xs.toList.reverse:=by
 have e:((l! xs.size).filterMap λ(k:m?)=>xs[(((xs.size:C?) - 1)+(k:C?) * (-1)).toNat]?)=((l! xs.size).map λk=>xs.size - 1 - k).filterMap λk=>xs[k]? :=by
  rw[List.filterMap_map];show NI λk h=>?_;have:=ť.mp h;change xs[(((xs.size:C?) - 1)+(k:C?) * (-1)).toNat]? = xs[xs.size - 1 - k]?;have e:(((xs.size:C?) - 1)+(k:C?) * (-1)).toNat=xs.size - 1 - k:=YS this;rw[e]
 rw[e,krv_range,List.filterMap_reverse,krv_all]
theorem G2 (xs:O_ s?) (m:m?):((l! m).filterMap λ(k:m?)=>xs[((0:C?)+(k:C?) * 1).toNat]?)=xs.toList.take m:=by
 have e:(λ(k:m?)=>xs[((0:C?)+(k:C?) * 1).toNat]?)=λk=>xs[k]? :=by
  funext k
  congr 1
  exact YM
 rw[e];have:=pick_run xs 0 m
 simpa using this
section
theorem AW {w:u!} {A:D!} {s:y?} {g j vs:s?} {l e st:p? C?} {a b c:C?} {Q:C?×C?×m?->y?->Prop} (u:s.heap.IsSliceOf S g j vs) (y:ý g l) (z:ý j e) (ps:ý vs st)
  (o:st.getD 1=c) (m:(c== 0)=f?) (f:h_ l e c (n:C?)=(a,b)) (h:Q (a,c,t! a b c) s) :
  n! (j! pw w) A (acf (n? S) (pure (n:C?))) Q E s:=by
 have P:∀{v:s?} {p:p? C?} {Q:p? C?->y?->Prop},ý v p->Q p s->n! (j! pw w) A (abS v) Q E s:=by
  intro v p Q r k;cases r with
  |none=>exact slicePart_none k
  |int i t=>exact slicePart_int k
 show jU (id u) λO d q H=>l? (l? (abK d H (x:=g) rfl (l? (abK d H (x:=j) rfl (l? (abK d H (x:=vs) rfl (v? ?_)))))));show l? (P ps ?_);rw[o];change n! _ _ (if(c== 0)=j? then _ else _) _ _ s;rw[m,E? (by decide)];show l? (P y (l? (P z (l? (v? ?_)))));rw[f];exact v? h
theorem Hn {w:u!} {A:D!} {s:y?} {i:O_ s?} {v p vs:s?} {L n st:p? C?} {a b c:C?} {out:g? s?} {Q:s?->y?->Prop} (d:Ŗ s.heap t i) (o:s.heap.IsSliceOf S v p vs) (P:ý v L) (y:ý p n) (ps:ý vs st)
  (r:st.getD 1=c) (q:(c== 0)=f?) (f:h_ L n c (i.size:C?)=(a,b))
  (x:((l! (t! a b c)).filterMap λ(k:m?)=>i[(a+(k:C?) * c).toNat]?)=out) (l:b? out<=ğ)
  (hw:(a== 0&&c== 1&&t! a b c== i.size)=j?->Q (n? t) s)
  (h:(a== 0&&c== 1&&t! a b c== i.size)=f?->Q (n? s.heap.objs.size) {s with heap:=s.heap.push {cls:=r? "tuple",data:=Z! out.toArray}}):n! (j! pw w) A (ac2 (n? t) (n? S)) Q E s:=by
 have hok:sizeOk (Z! out.toArray):=by
  change out.toArray.size<=ğ;rw[List.size_toArray];exact l
 show jU (id o) λO j g u=>?_;have e:s.TypeIs (n? S) "slice":=⟨O,j,g⟩
 unfold ac2;try with_reducible show h! ?_
 first|show l? (v? ?_)|skip
 show l? (Ú d.typeIs (by decide) ?_);show l? (Ę (name:="__getitem__") d.typeIs ŕ
  (L_ ŕ d.typeIs entry_tuple_getitem ?_ (args_tuple_getitem _ _)))
 change n! _ _ (Ì (n? t) >>= _) _ _ s;show l? (tupleItemsOf_ d ?_);show l? (wpAny_typeOf e ?_);show l? (AW o P y ps r q f ?_);change n! _ _ (if(a== 0&&c== 1&&t! a b c== i.size)=j? then _ else _) _ _ s;cases H:(a== 0&&c== 1&&t! a b c== i.size) using so with
 |true=>
  show l? (l? (wpAny_typeOf d.typeIs (v? ?_)));have hw:=hw H;first
   |exact v? ⟨_,rfl,v? hw⟩
   |exact l? (m:=rule _) (aaR (v? ⟨_,rfl,v? hw⟩))
   |exact l? (m:=rule _) (v? (v? ⟨_,rfl,v? hw⟩))
 |false=>
  rw[x];have h:=h H;first
   |exact l? (m:=ı _) (U_ (v? ⟨_,rfl,v? h⟩) hok)
   |exact l? (m:=ı _) (U_ (l? (v? (v? ⟨_,rfl,v? h⟩))) hok)
   |exact l? (l? (m:=ı _) (U_ (v? (v? ⟨_,rfl,v? h⟩)) hok))
   |exact l? (l? (m:=ı _) (U_ (v? ⟨_,rfl,v? h⟩) hok))
end
section
theorem Vj (q:Q (ϋ (-i)) H):EV sc nm d (.UnaryOp .USub (.Constant (.int i) k p) a) ρ H Q:=by
 intro w A env ι s K E o r S R T;show l? (Ŕ (l? (q! (h! (P.neg_int ?_)))));exact T _ H ι _ _ q ⟨rfl,rfl⟩ (ą.refl _ _) S (.int _ _)
theorem dg (h:Y!) (o:Æ):∀b O,h.get? b=d? O->(h.push o).get? b=d? O:=λZ Z e=>T_ _ e
theorem bJ.arr (r:bJ ι h l L):bJ ι h l L.toArray.toList:=r
inductive vq (f:g? V->g? V) (v:V) (H:Hp) (Q:V->Hp->Prop):Prop
 |tup (l:g? V):v=ύ l->b? l<aJ->Q (ύ (f l)) H->vq f v H Q
 |ref (n:m?) (xs:g? V):v=ϊ n->H[n]? = d? (ό xs)->b? xs<aJ->Q (ϊ (b? H)) (H++[ό (f xs)])->vq f v H Q
set_option tactic.hygienic true in
theorem uD {d:m?} {H:Hp} {A:D!} {s:y?} {v':s?} {K:s?->y?->Prop} {E:s?->y?->Prop} {y:k?} {L D M:p? k?} {p:ś} {N P vs:s?} {lo hi st:p? C?} {c:C?} (f:g? V->g? V) (g:g? s?->g? s?)
  (room:cJ A d) (S:SR w ι H s.heap) (R:VR ι s.heap v v') (pl:ý N lo) (pu:ý P hi) (ps:ý vs st) (W:st.getD 1=c) (h0:(c== 0)=f?)
  (hs:∀o i,∃O,subscripted (.Slice L D M p) f? o i=operate O (ac2 o i))
  (C:∀(h:Y!) l l',bJ ι h l l'->bJ ι h (f l) (g l')) (F:∀l,b? (g l)<=b? l)
  (r:∀I:O_ s?,slicePick I lo hi st=(g I.toList).toArray)
  (J:∀I:O_ s?,∃a b,h_ lo hi c (I.size:C?)=(a,b)/\((l! (t! a b c)).filterMap λ(k:m?)=>I[(a+(k:C?) * c).toNat]?)=g I.toList/\
   ((a== 0&&c== 1&&t! a b c== I.size)=j?->∀l:g? V,b? l=I.size->f l=l))
  (T:gy w ι s Q K)
  (q:vq f v H Q) :
  n! (j! pw w) A (acD y (.Slice L D M p) v' (n? s.heap.objs.size)) K E {s with heap:=s.heap.push {cls:=r? "slice",data:=d! #[N,P,vs]}}:=by
 have B:=dg s.heap {cls:=r? "slice",data:=d! #[N,P,vs]};have X:=S.keeps B;have u:ą ι s.heap ι (s.heap.push {cls:=r? "slice",data:=d! #[N,P,vs]}):=ą.keeps B;show Q! (hs v' (n? s.heap.objs.size)) λO m=>?_;rcases q with⟨l,rfl,hl,q⟩| ⟨n,xs,rfl,hn,hl,q⟩
 ·show fL R.isTup λa I q_2 ht z=>?_;subst q_2;show fL (J I) λa' b' h1 h2 h3=>?_;have j:=z.mono (ĉ.refl _) (aP.of B);have t:Ŗ (s.heap.push {cls:=r? "slice",data:=d! #[N,P,vs]}) a I:=ht.keeps B;show Ÿ t.typeIs ŕ.lookup (Hn t (Í ..) pl pu ps W h0 h1 h2 ?_ ?_ ?_) m
  ·have e1:=F I.toList;have e2:=z.length;have:(10000000:m?)<=ğ:=by decide
   unfold aJ at hl;lia
  ·intro hw;have e:=h3 hw l (by rw[z.length,W?]);rw[e] at q;exact T (ύ l) H ι _ _ q ⟨rfl,rfl⟩ u X (.tup t j)
  ·intro Z;exact fP (X.n5 (k:=0) ((C _ _ _ j).arr)) λY x R2=>T (ύ (f l)) H ι _ _ q ⟨rfl,rfl⟩ (u.trans x) Y R2
 ·cases R with
  |@ref _ ad dx hι=>
  show fL (S.listAt hn hι) λI k ho z Z=>?_;have il:=eh (B _ _ ho);have j:=z.mono (ĉ.refl _) (aP.of B);show Ÿ il.typeIs Ù.lookup (ä il (Í ..) pl pu ps ?_ ?_ ?_) m
  ·intro e;rw[e] at W;subst W;cases h0
  ·show fP (X.newList (k:=0) ((C _ _ _ j).arr)) λY x R2=>?_;rw[r I];exact T (ϊ (b? H)) _ _ _ _ q ⟨rfl,rfl⟩ (u.trans x) Y R2
  ·have e2:b? xs=I.size:=by rw[z.length,W?]
   have:(10000000:m?)<=ğ:=by decide
   unfold aJ at hl;lia
set_option tactic.hygienic true in
theorem Ub (h:EV sc nm d a ρ H λx H=>ok (tV x H) λr=>Q r.1 r.2) :
  EV sc nm d (.Subscript a (.Slice e? e? (d? (.UnaryOp .USub (.Constant (.int 1) k p) M)) N) J) ρ H Q:=by
 intro w A env ι s K E O b S R T;show aaT (h w A env ι s _ E O b S R ?_);intro x z u X f y m t B R1;show abL<|v? (v? ?_);show l? (Ŕ (l? (q! (h! (P.neg_int ?_)))));show uD (s:={f with toks:=f.toks+1+1}) (Q:=Q) (ι:=u) (H:=z) (v:=x) (c:=-1) ac3 ac3 b B R1 .none .none (.int _ _) rfl rfl ?_ (λh l L r=>r.rev) (λl=>by simp) krv_pick ?_ (T.after (s':={f with toks:=f.toks+1+1}) t (m.trans ⟨rfl,rfl⟩)) ?_
 ·intro o i;exact⟨_,rfl⟩
 ·intro I;show⟨_,_,AE _,?_,?_⟩
  ·rw[CX];exact Ma I
  ·intro F;simp at F
 ·show bf (bw.mp y) λr e q=>?_;clear y;cases x using ϔ with
  |tup l=>exact jf e λj g=>.tup l rfl j (by subst g;exact q)
  |ref n=>exact rp e λxs D C=>jf C λj g=>.ref n xs rfl D j (by subst g;exact q)
  |_=>exact nS e
set_option tactic.hygienic true in
theorem PV (h:EV sc nm d a ρ H λx H=>EV sc nm d u ρ H λy H=>ok (mF x y H) λr=>Q r.1 r.2) :
  EV sc nm d (.Subscript a (.Slice e? (d? u) e? p3) pos) ρ H Q:=by
 intro w A env ι s K E O f S R T;show aaT (h w A env ι s _ E O f S R ?_);intro x H1 L x' s1 h1 F m P R1;show abL<|v?<|h1 w A env L s1 _ E O f P (R.step S m) ?_;intro y N M y' s2 W J j S2 R2;show v?<|bf (bw.mp W) λr e q=>?_;have Y:∃k:C?,y=ϋ k/\0<=k/\k<100000/\vq (acN k.toNat) x N Q:=by
  clear W R1 R2;cases x using ϔ with
  |tup l=>exact HY e λk z p=>jf p λg t=>⟨k,z,g.2.1,g.2.2,.tup l rfl g.1 (by subst t;exact q)⟩
  |ref n=>exact HY e λk z p=>rp p λxs hn e3=>jf e3 λg t=>⟨k,z,g.2.1,g.2.2,.ref n xs rfl hn g.1 (by subst t;exact q)⟩
  |_=>exact nS e
 show Lw Y λk D C hk1 hq=>?_;try clear Y
 subst D;obtain⟨b,rfl⟩:=Ř C;obtain⟨_,e⟩:=VR.int_inv R2;subst e;rename_i tk;show uD (s:=s2) (Q:=Q) (ι:=M) (H:=N) (v:=x) (c:=1) (acN b) (acN b) f S2 (R1.mono j.ext (j.tup P)) .none (.int _ _) .none rfl rfl ?_ (λh l l' r=>r.take b) (λl=>by simp;lia) ?_ ?_ (T.after (m.trans j) (F.trans J)) hq
 ·intro o i;exact⟨_,rfl⟩
 ·intro I;rw[abT];change((I.toList.drop 0).take (aaU I.size (b:C?) - 0)).toArray=_;rw[clipAt_nat,List.drop_zero,aa8]
  congr 1
  by_cases B:b<=I.size
  ·rw[σ B]
  ·rw[æ (by lia),Ģ (by simp),Ģ (by simp;lia)]
 ·intro I;show⟨_,_,zU _ _,?_,?_⟩
  ·rw[oM,G2];by_cases B:b<=I.size
   ·rw[σ B]
   ·rw[æ (by lia),Ģ (by simp),Ģ (by simp;lia)]
  ·intro X l hl;rw[oM] at X;simp at X;exact Ģ (by lia)
end
def oJ (d:m?) (b:Q_) (x:V) (H:Hp) (Q:V->Hp->Prop):Prop:=
 ∀(w:u!) (A:D!) (ι:ć) (s:y?) (X:s?) (K:s?->y?->Prop) (E:s?->y?->Prop),
  cJ A d->SR w ι H s.heap->VR ι s.heap x X->gy w ι s Q K->n! (j! pw w) A (ŭ (ip b) [X]) K E s
section
theorem Um {d:m?} {ρ:Ă} {H:Hp} {cx:Cx} {p:ś} {e:k?} {P:ś} {b:Q_} (I:cx.glob f=d? (.blt b)) (D:(f== ("__debug__":k!))=f?) (u:Ć e=j?)
  (h:EV cx.sc cx.nm d e ρ H λv H=>oJ d b v H Q):EV cx.sc cx.nm d (.Call (x! f p) [e] [] P) ρ H Q:=by
 intro w A env ι s K E o g S R T;show r! (λL J=>?_) (nq I);show r! (λz B=>?_) (LJ (J w.params));show l? (È (Af o S L z B ?_) D);have c:[e].all Ć=j?:=by simp[u]
 have C:CJ cx.sc cx.nm d [e] ρ H (λvs H=>∃v,vs=[v]/\oJ d b v H Q):=gP u (h.mono λv H' q=>jL ⟨v,rfl,q⟩);have k:(ţ P (Ļ [e] env)).any (λZ=>Z.1)=f?:=by rw[dS c];unfold ţ;simp
 have l:∀F:s?,F=ip b->n! (j! pw w) A (evalArgs F j? (ţ P (Ļ [e] env)) []) (λa m=>n! (j! pw w) A (call F (([]:g? s?)++a.pos) a.kw) K E m) E s:=by
  intro F n;show dM c C o g S R ?_;intro vs W t O M q N st x R1;obtain⟨v,rfl,q⟩:=q;show bJ.oW R1 λZ Z y r rs=>?_;subst y;cases rs;rw[n];exact q w A t M _ K E g x r (T.after st N)
 have i:(∃id,ip b= .builtin id)\/∃id,ip b=r? id:=by
  unfold ip;split
  ·exact x? ⟨_,rfl⟩
  ·exact x? ⟨_,rfl⟩
  ·exact u? ⟨_,rfl⟩
 rcases i with⟨id,j⟩| ⟨id,j⟩
 ·rw[j];exact Ż k (l _ j.symm)
 ·rw[j];exact aat k (l _ j.symm)
theorem Ng (h:n<aJ):(n:C?)<2 ^ 63:=by unfold aJ at h;lia
theorem fV (h:n<aJ):n<=ğ:=by
 have:(10000000:m?)<=ğ:=by decide
 unfold aJ at h;lia
set_option tactic.hygienic true in
theorem Ml (h:ok (gE H x) λn=>Q (ϋ n) H):oJ d "len" x H Q:=by
 intro w A ι s X K E r S R T;obtain⟨n,e,q⟩:=bw.mp h;cases x using ϔ with
 |tup l=>
  show jf e λc b=>?_;subst b;show fL R.isTup λa vs i t f=>?_;subst i;have b:b? l=vs.size:=by rw[f.length,W?]
  rw[b] at q c;exact len_tuple t (Ng c) (T _ H ι _ {s with toks:=s.toks+1+1} q ⟨rfl,rfl⟩ (ą.refl _ _) S (.int _ _))
 |ref n=>
  show rp e λxs o j=>jf j λc b=>?_;subst b;show VR.gH R λu D g m=>?_;subst m;show fL (S.listAt o g) λvs k p f Z=>?_;have b:b? xs=vs.size:=by rw[f.length,W?]
  rw[b] at q c;exact len_list (eh p) (Ng c) (T _ H ι _ {s with toks:=s.toks+1+1} q ⟨rfl,rfl⟩ (ą.refl _ _) S (.int _ _))
 |_=>exact nS e
set_option tactic.hygienic true in
theorem Bt (h:ok (iT H x) λl=>Q (ύ l) H):oJ d "tuple" x H Q:=by
 intro w A ι s X K E r S R T;show bf (bw.mp h) λl e q=>?_;cases x using ϔ with
 |tup l=>
  show jf e λZ b=>?_;subst b;show fL R.isTup λa vs i m c=>?_;subst i;exact call_tuple_tup m (T.now S (.tup m c) q)
 |ref n=>
  show rp e λxs v p=>jf p λu b=>?_;subst b;show VR.gH R λz D f t=>?_;subst t;show fL (S.listAt v f) λvs k y c Z=>?_;have b:b? xs=vs.size:=by rw[c.length,W?]
  show call_tuple_list (eh y) (λh' g=>?_) (fV (b▸u));exact fP ((S.keeps g).n5 (k:=0) (c.mono (ĉ.refl _) (aP.of g))) λo j R2=>T _ H ι _ {s with heap:=h'.push {cls:=r? "tuple",data:=Z! vs}} q ⟨rfl,rfl⟩ ((ą.keeps g).trans j) o R2
 |_=>exact nS e
theorem SR.uI (S:SR w ι H h) (R:bJ ι h xs vs.toList) (K:∀b o,h.get? b=d? o->h'.get? b=d? o) (d:h.get? a=none)
  (e:h'.get? a=d? {cls:=r? "list",data:=Z! vs k}):SR w (ι++[(a,a)]) (H++[ό xs]) h'/\ą ι h (ι++[(a,a)]) h'/\VR (ι++[(a,a)]) h' (ϊ (b? H)) (n? a):=by
 show r! (λA B=>?_) (S.snoc (h':=h') (p:=(a,a)) (c:=ό xs) K d d (S.wD d) (S.wD d) (x? rfl) ⟨vs,k,e,R.mono (ĉ.snoc _ _) (aP.of K)⟩);exact⟨A,B,.ref (by rw[<- S.len];exact eg _ _)⟩
set_option tactic.hygienic true in
theorem Fo (h:ok (iT H x) λl=>Q (ϊ (b? H)) (H++[ό l])):oJ d "list" x H Q:=by
 intro w A ι s X K E B S R T;show bf (bw.mp h) λl e q=>?_;have g:∀(I:e!) (t:Q_) (o:Æ) (i:O_ s?) (n:m?),(t="list"\/t="tuple")->s.heap.get? I=d? o->o.cls=r? t->o.data=Z! i n->i.size<=ğ->bJ ι s.heap l i.toList->
   n! (j! pw w) A (call (ip "list") [n? I]) K E s:=by
  intro I t o i n L f j m u c;show call_list_seq I L f j m (λh' c' O r=>?_) u;exact fP (S.uI c O (gK _) r) λC z R2=>T _ _ _ _ {s with heap:=h'} q ⟨rfl,rfl⟩ z C R2
 cases x using ϔ with
 |tup P=>
  show jf e λp b=>?_;subst b;show fL R.isTup λa vs y N c=>?_;subst y;obtain⟨o,f,j,n,m⟩:=N;have b:b? P=vs.size:=by rw[c.length,W?]
  exact g a "tuple" o vs n (u? rfl) f j m (fV (b▸p)) c
 |ref n=>
  show rp e λxs M F=>jf F λp b=>?_;subst b;show VR.gH R λD W v J=>?_;subst J;show fL (S.listAt M v) λvs k f c Z=>?_;have b:b? xs=vs.size:=by rw[c.length,W?]
  exact g D "list" _ vs k (x? rfl) f rfl rfl (fV (b▸p)) c
 |_=>exact nS e
theorem KQ (h:0<=i) (a:i<100) (q:Q (Ϗ (A? (toString i))) H):oJ d "str" (ϋ i) H Q:=by
 intro w A ι s x K E r S R T;obtain⟨_,e⟩:=VR.int_inv R;subst e;show str_of_int_fit (N:=100) (by split<;>lia) (by decide) λZ=>?_;exact T _ H ι _ {s with toks:=s.toks+1} q ⟨rfl,rfl⟩ (ą.refl _ _) S (.str _ _)
end
theorem oQ (x:C?):∀l:g? C?,(fG x l).Perm (x::l):=by
 intro L;induction L with
 |nil=>
  exact acg _
 |cons y r i=>
  change(if x<=y then x::y::r else y::fG x r).Perm _;by_cases h:x<=y
  ·rw[P? h]
  ·rw[E? h];exact(ach y (i)).trans (adu x y r)
theorem tw:∀l:g? C?,(bz l).Perm l:=by
 intro L;induction L with
 |nil=>
  exact acg _
 |cons x r i=>
  exact(oQ x (bz r)).trans (ach x (i))
set_option tactic.hygienic true in
theorem GH (x:C?):∀l:g? C?,l.Pairwise (·<=·)->(fG x l).Pairwise (·<=·):=by
 intro L;induction L with
 |nil=>
  rintro _;exact List.pairwise_singleton _ _
 |cons y r i=>
  rintro h;change(if x<=y then x::y::r else y::fG x r).Pairwise _;have a:=ē.mp h;by_cases H:x<=y
  ·rw[P? H];show ē.mpr ⟨λz hz=>?_,h⟩;rcases G?.mp hz with rfl|hz
   ·exact H
   ·exact Int.le_trans H (a.1 z hz)
  ·rw[E? H];show ē.mpr ⟨λz hz=>?_,i a.2⟩;rcases G?.mp ((oQ x r).mem_iff.mp hz) with rfl|hz
   ·lia
   ·exact a.1 z hz
theorem x9:∀l:g? C?,(bz l).Pairwise (·<=·):=by
 intro L;induction L with
 |nil=>
  exact adp
 |cons x r i=>
  exact GH x _ (i)
theorem tM:∀{a b:g? C?},a.Perm b->a.Pairwise (·<=·)->b.Pairwise (·<=·)->a=b:=by
 intro l;induction l with
 |nil=>
  rintro b;exact λp Z Z=>(List.nil_perm.mp p).symm
 |cons x a i=>
  intro Y;cases Y using aab with
  |nil=>
   exact λp Z Z=>by have:=p.length_eq;simp at this
  |cons y b=>
   exact λp f g=>by
    have H:=ē.mp f;have d:=ē.mp g;have h:x=y:=by
     have e:x∈y::b:=p.mem_iff.mp o?;have c:y∈x::a:=p.mem_iff.mpr o?;show ĵ (G?.mp e) (λe=>?_) λe=>?_
     ·exact e
     ·show ĵ (G?.mp c) (λc=>?_) λc=>?_
      ·exact c.symm
      ·exact Int.le_antisymm (H.1 y c) (d.1 x e)
    subst h;rw[i ((List.perm_cons x).mp p) H.2 d.2]
theorem uU.keys {a:Type} {l:g? (a×V)} {L:g? (a×s?)} (r:uU ι h l L):L.map (λZ=>Z.1)=l.map (λZ=>Z.1):=by
 induction r with
 |nil=>rfl
 |cons _ _ i=>simp[i]
theorem wu:∀{vs:g? s?} {kvs:g? (C?×s?)},b? vs=b? kvs->(∀(j:m?) (v:s?),vs[j]? = d? v->∃k x,kvs[j]? = d? (k,x)/\abM k v=j?)->IntsAre vs (kvs.map (λZ=>Z.1)):=by
 intro l;induction l with
 |nil=>
  intro y;cases y using aab with
  |nil=>
   exact λZ Z=>.nil
  |cons B s=>
   exact λH Z=>by simp at H
 |cons v vs I=>
  intro y;cases y using aab with
  |cons c kvs=>
   obtain⟨k,x⟩:=c;exact λH h=>by
    show pq (h 0 v rfl) λK X e a=>?_;simp at e;show r! (λq b=>?_) (e);try clear e
    subst q;cases v using n_ with
    |int i t=>
     simp[abM] at a;subst a;exact .cons _ _ (I (by simpa using H) λj v e=>h (j+1) v (e))
    |_=>simp[abM] at a
  |nil=>
   exact λH Z=>by simp at H
theorem oB:∀{vs:g? s?} {N:g? C?},IntsAre vs N->bJ ι h (N.map ϋ) vs
 |_,_,.nil=>ϫ
 |_,_,.cons n t r=>ϧ (.int n t) (oB r)
section
theorem yV (X:H[n]? = d? (ώ kvs)) (g:b? kvs<64) (q:Q (ϊ (b? H)) (H++[ό ((bz (kvs.map (λZ=>Z.1))).map ϋ)])):oJ d "sorted" (ϊ n) H Q:=by
 intro w A ι s x' K E x S R T;show VR.gH R λL dx u M=>?_;subst M;show bf (S.cells n _ _ X u) λk W I=>?_;obtain⟨ep,z⟩:=W.dictAt;have t:=qQ S (b:=L) ⟨n,_,u,x? rfl⟩;have l:b? k=b? kvs:=by have:=R? b? I.keys;simpa using this
 show abo kind_sorted plain_sorted entry_sorted (args_sorted1 _)<|l? (m:=checkCount "sorted" 1 1 _) (v? ?_);have i:b? k<=ğ:=by
  have:(64:m?)<=ğ:=by decide
  lia
 show l? (kdu_collect (A:=A.in1) (kdl_dict t) x.2.2 z i λh' tk acc F a=>?_);have O:IntsAre acc.toList (k.map (λZ=>Z.1)):=wu (by rw[W?];exact a.1) (λj v e=>a.2 j v (by rw[<- Array.getElem?_toList];exact e));have y:b? acc.toList<64:=by rw[W?,a.1,l];exact g
 have g:(64:m?)<=ğ:=by decide
 show l? (wpAny_newList ?_ (by lia));have f:(h'.push (ac4 "list" acc.toList.toArray 0)).get? h'.objs.size=d? (ac4 "list" acc.toList.toArray 0):=y! _ rfl;show l? (h! (L_ slot_list_sort ⟨_,f,rfl⟩ entry_list_sort (list_sort_tree f O y λout N a1 a2 a3=>⟨_,rfl,?_⟩) (args_list_sort _)));show v? ⟨_,rfl,?_⟩;have B:N=bz (kvs.map (λZ=>Z.1)):=by
  rw[I.keys] at a2;exact tM (a2.trans (tw _).symm) a3 (x9 _)
 subst B;obtain⟨c,P⟩:=sortedHeap_at (h:=h'.push (ac4 "list" acc.toList.toArray 0)) (vs:=acc.toList) (out:=out) f;have Y:∀b o,s.heap.get? b=d? o->(sortedHeap (h'.push (ac4 "list" acc.toList.toArray 0)) h'.objs.size acc.toList out).get? b=d? o:=by
  intro b o e;have D:=F b o e;have p:=b_ D;rw[sortedHeap_old (þ p) (by rw[size_push'];exact Nat.lt_succ_of_lt p)];exact T_ _ D
 have r:s.heap.get? h'.objs.size=none:=by
  cases e:s.heap.get? h'.objs.size using aaa with
  |none=>rfl
  |some o=>exact absurd (b_ (F _ _ e)) (İ _)
 exact fP (S.uI (ι:=ι) (oB a1) Y r P) λJ C R2=>T _ _ _ _ {s with heap:=sortedHeap (h'.push (ac4 "list" acc.toList.toArray 0)) h'.objs.size acc.toList out,toks:=tk} q ⟨rfl,rfl⟩ C J R2
end
def BM (x:V) (H:Hp) (m:k!) (id:Q_):Prop:=
 ∀(w:u!) (A:D!) (ι:ć) (s:y?) (X:s?) (p:Sem D?) (K:s?×g? s?->y?->Prop) (E:s?->y?->Prop),
  SR w ι H s.heap->VR ι s.heap x X->K (.builtin id,[X]) s->n! (j! pw w) A (getMethod X m p) K E s
def yX (d:m?) (id:Q_) (args:g? V) (H:Hp) (Q:V->Hp->Prop):Prop:=
 ∀(w:u!) (A:D!) (ι:ć) (s:y?) (a:g? s?) (K:s?->y?->Prop) (E:s?->y?->Prop),
  cJ A d->SR w ι H s.heap->bJ ι s.heap args a->gy w ι s Q K->n! (j! pw w) A (ŭ (.builtin id) a) K E s
section
theorem KZ {d:m?} {ρ:Ă} {H:Hp} {sc:t_} {nm:g? k!} {o:k?} {id:Q_} {e:g? k?} {g p:ś} (B:eE o=f?) (k:e.all Ć=j?) (C:b? e<20) (D:(g.endLine== p.line)=j?)
  (h:EV sc nm d o ρ H λx H=>BM x H m id/\CJ sc nm d e ρ H λvs H=>yX d id (x::vs) H Q):EV sc nm d (.Call (.Attribute o m g) e [] p) ρ H Q:=by
 intro w A env ι s K E O r S R T;rw[acC,la B];show l? (h w A env ι s _ E O r S R ?_);intro x L t X F y l c f R1;obtain⟨i,z⟩:=y;show l? (q! ?_);unfold methodCall;rw[Du k C];show l? (h! ?_);show i w A t F X _ _ E f R1 ?_;have b:ã j? o env g p=pure p:=by unfold ã;simp[D]
 rw[b];show l? (v? ?_);have j:(ţ p (Ļ e env)).any (λZ=>Z.1)=f?:=by rw[dS k];unfold ţ;simp
 show Ż j (dM k z O r f (R.step S c) ?_);intro vs M u J I q n a v R2;exact q w A u I _ K E r v (ϧ (R1.mono a.ext (a.tup f)) R2) (T.after (c.trans a) (l.trans n))
set_option tactic.hygienic true in
theorem qC (h:dB H x=j?):∃n xs,x=ϊ n/\H[n]? = d? (ό xs):=by
 cases x using ϔ with
 |ref n=>
  exact Q! (H_.mp h) λu h=>rp h λxs a Z=>⟨n,xs,rfl,a⟩
 |_=>exact nB h
theorem Gi (h:dB H x=j?):BM x H "append" "list.append":=by
 intro w A ι s X p K E S R q;show pq (qC h) λn xs b c=>?_;subst b;show VR.gH R λf D a e=>?_;subst e;exact fL (S.listAt c a) λvs k d Z Z=>aa4 d rfl rfl q
theorem Uy (h:dB H x=j?):BM x H "pop" "list.pop":=by
 intro w A ι s X p K E S R q;show pq (qC h) λn xs b c=>?_;subst b;show VR.gH R λf D a e=>?_;subst e;exact fL (S.listAt c a) λvs k d Z Z=>Copied.getMethod_pop_at d rfl rfl q
set_option tactic.hygienic true in
theorem U3 (h:ao H x=j?):BM x H "get" "dict.get":=by
 intro w A ι s X P K E S R q;cases x using ϔ with
 |glob g=>
  have p:g=47\/g=48:=by simpa [ao] using h
  have e:=VR.mi R;subst e;show jU (S.tab p) λk c Z Z=>Û c.mapOf.typeIs ř ī ũ (λa e=>?_) q;cases e;exact Pc c λo j m f b Z=>⟨o,f,b.2.1⟩
 |ref n=>
  show Q! (H_.mp h) λu h=>?_;rcases hZ h with⟨_,_,b⟩| ⟨kvs,i,_⟩| ⟨_,_,b⟩| ⟨kvs,i,_⟩
  ·exact nS b
  ·cases R with
   |@ref _ l D d=>
   show bf (S.cells _ _ _ i d) λk c Z=>Û c.mapOf.typeIs ř ī ũ (λa e=>?_) q;cases e;exact Pc c λo j m f b Z=>⟨o,f,b.2.1⟩
  ·exact nS b
  ·cases R with
   |@ref _ l D d=>
   show fL (S.cells _ _ _ i d) λo j f b Z=>Û ⟨o,f,b.1⟩ ř ī ũ (λa e=>?_) q;cases e;exact⟨o,f,b.2.1⟩
 |_=>exact nB h
set_option tactic.hygienic true in
theorem mH (h:ok (dY x y H) λH'=>Q ϖ H'):yX d "list.append" [x,y] H Q:=by
 intro w A ι s g K E u S R T;show bf (bw.mp h) λH' e q=>bJ.oW R λZ Z a z r=>?_;subst a;show bJ.oW r λZ Z a B f=>?_;subst a;cases f;cases x using ϔ with
 |ref n=>
  show rp e λxs p D=>jf D λI i=>?_;subst i;show VR.gH z λL M c a=>?_;subst a;show fL (S.listAt p c) λvs k J t j=>?_;have i:b? xs=vs.size:=by rw[t.length,W?]
  show append_at J (λh' sb l=>?_) (fV (i▸I));obtain⟨C,m⟩:=S.turn (c':=ό (xs++[y])) (h':=h') p c (λb o F Z e=>(sb.2 b F).trans e) (x? j) (λv=>⟨_,_,l,by
   rw[Ö];exact(t.mono (ĉ.refl _) v).append (ϧ (B.mono (ĉ.refl _) v) ϫ)⟩)
  exact T _ _ _ _ {s with heap:=h'} q ⟨rfl,rfl⟩ m C .none
 |_=>exact nS e
theorem bJ.getLast {l:g? V} {vs:O_ s?} (r:bJ ι h l vs.toList) (e:l.getLast? = d? v):∃a,vs[vs.size - 1]? = d? a/\VR ι h v a:=by
 rw[List.getLast?_eq_getElem?] at e;show bf (r.at e) λa b H=>⟨a,?_,H⟩;rw[show(b? l)=vs.size from by rw[r.length,W?]] at b;exact b
theorem bJ.dropLast:∀{l:g? V} {L:g? s?},bJ ι h l L->bJ ι h l.dropLast L.dropLast:=λ{l L} r=>by
 rw[Θ,Θ,r.length];exact r.take _
set_option tactic.hygienic true in
theorem Gy (h:ok (zr x H) λr=>Q r.1 r.2):yX d "list.pop" [x] H Q:=by
 intro w A ι s i K E D S R T;show bf (bw.mp h) λr e q=>bJ.oW R λZ Z j F g=>?_;subst j;cases g;cases x using ϔ with
 |ref n=>
  show rp e λxs C J=>VL J λf e=>bf (K!.mp e) λv L z=>?_;subst z;show VR.gH F λad dx c j=>?_;subst j;show fL (S.listAt C c) λvs k P y l=>?_;have M:b? xs=vs.size:=by rw[y.length,W?]
  show bf (y.getLast L) λv' O W=>Copied.pop_at P O (λh' sb p=>?_) (fV (M▸f));have m:∀a vs,Ŗ s.heap a vs->Ŗ h' a vs:=λa vs' t=>by
   have nm:=S.uH t;exact bf t λo u X=>⟨o,(sb.2 a (λe=>nm (e▸⟨n,_,c,x? rfl⟩))).trans u,X⟩
  obtain⟨I,B⟩:=S.turn (c':=ό xs.dropLast) (h':=h') C c (λb o N Z e=>(sb.2 b N).trans e) (x? l) (λY=>⟨_,_,p,by
   exact(y.mono (ĉ.refl _) Y).dropLast⟩)
  exact T _ _ _ _ {s with heap:=h'} q ⟨rfl,rfl⟩ B I (W.mono (ĉ.refl _) m)
 |_=>exact nS e
theorem Ii.getD (r:Ii ι h a b) (R:VR ι h x X):VR ι h (a.getD x) (b.getD X):=by
 cases a using aaa<;>cases b using aaa<;>first|exact R|exact r.elim|exact r
set_option tactic.hygienic true in
theorem F1 (h:ok (jb x y z H) λr=>Q r H):yX d "dict.get" [x,y,z] H Q:=by
 intro w A ι s P K E D S R T;show bf (bw.mp h) λr e q=>bJ.oW R λZ Z o Y J=>?_;subst o;show bJ.oW J λZ Z o N L=>?_;subst o;show bJ.oW L λZ Z o O M=>?_;subst o;cases M;have f:∀(j:e!) (kvs:g? (C?×V)) (k:g? (C?×s?)) (i:C?) (t:Tok) (I:s?),(j== ü)=f?->s.heap.DictOf (Ô pw w) j k->uU ι s.heap kvs k->VR ι s.heap z I->Q ((bx i kvs).getD z) H->
   n! (j! pw w) A (call (.builtin "dict.get") [n? j,z? i t,I]) K E s:=by
  intro j kvs k i t I c m p rz q;show aaV ī m.mapOf.typeIs ÿ (ð _ _ _) (PySem.meets_dict_get_default (Ô pw w) j (ĩ pw w i t) c I) ⟨_,m.mapOf,?_⟩;exact T _ H ι _ {s with toks:=s.toks+1} q ⟨rfl,rfl⟩ (ą.refl _ _) S ((p.find i).getD rz)
 cases x using ϔ with
 |glob g=>
  show HY e λi C e1=>jf e1 λhg B=>?_;subst C B;have e:=VR.mi Y;subst e;obtain⟨_,e⟩:=VR.int_inv N;subst e;exact jU (S.tab hg) λk m p c=>f g _ k i _ _ c m p O q
 |ref n=>
  show VR.gH Y λj dx v o=>?_;subst o;have c:=qQ S (b:=j) ⟨n,_,v,x? rfl⟩;rcases hZ e with⟨_,_,u⟩| ⟨kvs,W,u⟩| ⟨_,_,u⟩| ⟨kvs,W,u⟩
  ·exact nS u
  ·show HY u λi C B=>?_;subst C;cases B;obtain⟨_,e⟩:=VR.int_inv N;subst e;exact bf (S.cells _ _ _ W v) λk m p=>f j _ k i _ _ c m p O q
  ·exact nS u
  ·show XU u λl C B=>jf B λhp e3=>?_;subst C e3
   letI:=V.decEq
   show bf (S.dJ W v) λxs m p=>bf (N.key hp) λa X rk=>?_;subst X;show aaV ī m.typeIs ÿ (ð _ _ _) (PySem.meetsH_dict_get_default (vKind w) j a c _) ⟨D.vk,_,xs,⟨hp,rk⟩,m,?_⟩;exact T _ H ι _ {s with toks:=s.toks+(vKind w).draws (ύ l)} q ⟨rfl,rfl⟩ (ą.refl _ _) S ((p.find (ύ l)).getD O)
 |_=>exact nS e
end
section
theorem UC (h:CJ sc nm d e ρ H λvs H=>b? vs<64/\Q (ύ vs) H):EV sc nm d (.Tuple e k p) ρ H Q:=by
 intro w A env ι s K E o r S R T;show wpAny_Tuple (h w A env ι s p _ E o r S R ?_);intro vs j i v l q g st b R1;have f:(64:m?)<=ğ:=by decide
 show⟨by have:=R1.length;have:=q.1;lia,?_⟩;exact fP (b.n5 (k:=0) R1.arr) λc a R2=>T _ _ _ _ _ q.2 (g.trans ⟨rfl,rfl⟩) (st.trans a) c R2
theorem PG (h:CJ sc nm d e ρ H λvs H=>b? vs<64/\Q (ϊ (b? H)) (H++[ό vs])):EV sc nm d (.List e p) ρ H Q:=by
 intro w A env ι s K E o r S R T;show wpAny_List_spliced (h w A env ι s p _ E o r S R ?_);intro vs j i v l q g st b R1;have f:(64:m?)<=ğ:=by decide
 show⟨by have:=R1.length;have:=q.1;lia,?_⟩;exact fP (b.newList (k:=0) R1.arr) λc a R2=>T _ _ _ _ _ q.2 (g.trans ⟨rfl,rfl⟩) (st.trans a) c R2
theorem xX (q:Q (ϊ (b? H)) (H++[ώ []])):EV sc nm d (.Dict [] [] p) ρ H Q:=by
 intro w A env ι s K E o r S R T;exact abA<|fP (S.alloc (c:=ώ []) {cls:=r? "dict",data:=r_ #[]} ⟨[],υ _,.nil⟩) λb a R2=>T _ _ _ _ {s with heap:=s.heap.push {cls:=r? "dict",data:=r_ #[]}} q ⟨rfl,rfl⟩ a b R2
theorem Ly (q:Q (ϊ (b? H)) (H++[Ϝ []])):EV sc nm d (.Dict [] [] p) ρ H Q:=by
 intro w A env ι s K E o r S R T;exact abA<|fP (S.alloc (c:=Ϝ []) {cls:=r? "dict",data:=r_ #[]} ⟨_,#[],y! _ rfl,⟨rfl,rfl,rfl⟩,rfl,.nil,V_⟩) λb a R2=>T _ _ _ _ {s with heap:=s.heap.push {cls:=r? "dict",data:=r_ #[]}} q ⟨rfl,rfl⟩ a b R2
def rl:g? k!->g? (s?×s?)->Prop
 |[],[]=>ŀ
 |x::l,(k,_)::r=>(∃t,k= .str x t)/\rl l r
 |_,_=>a_
def T3 (sc:t_) (nm:g? k!) (d:m?) (ks:g? (p? k?)) (l:g? k!) (e:g? k?) (ρ:Ă) (H:Hp) (Q:g? V->Hp->Prop):Prop:=
 ∀(w:u!) (A:D!) (env:Ó) (ι:ć) (s:y?) (p:ś) (K:g? (s?×s?)->y?->Prop) (E:s?->y?->Prop),
  cK sc env->cJ A d->SR w ι H s.heap->LR ι s.heap env nm ρ->
  (∀vs H' a ps s',Q vs H'->bR s s'->ą ι s.heap a s'.heap->SR w a H' s'.heap->rl l ps->bJ a s'.heap vs (ps.map (λZ=>Z.2))->K ps s')->n! (j! pw w) A (evalPairs (pairTrees ks e env p)) K E s
theorem Ql {Q:g? V->Hp->Prop} (q:Q [] H):T3 sc nm d [] [] [] ρ H Q:=
 λZ Z Z Z s Z Z Z Z Z S Z T=>aaW (T [] H _ [] s q (bR.refl s) (ą.refl _ _) S trivial ϫ)
theorem LU {Q:g? V->Hp->Prop} (h:EV sc nm d e ρ H λv H=>T3 sc nm d ks l z ρ H λvs H=>Q (v::vs) H) :
  T3 sc nm d (d? (.Constant (.str x) k p)::ks) (x::l) (e::z) ρ H Q:=by
 intro w A env ι s P K E o r S R T;show aau (wpAny_mkText ?_);have u:SR w ι H ({s with toks:=s.toks+1}:y?).heap:=S;show h w A env ι {s with toks:=s.toks+1} _ E o r u R ?_;intro v F j I C B g c n R1;show B w A env j C P _ E o r n (R.step S c) ?_;intro vs t m ps D q i a y f R2;exact T _ t m _ D q ((bR.trans (b:={s with toks:=s.toks+1}) ⟨rfl,rfl⟩ g).trans i) (c.trans a) y ⟨⟨_,rfl⟩,f⟩ (ϧ (R1.mono a.ext (a.tup n)) R2)
theorem zb {b:Type} [u_ b] {K k:b} {a v:s?} {r:g? (b×s?)} (H:K≠k):aaX ((K,a)::r) k v=(K,a)::aaX r k v:=by
 unfold aaX;rw[M!];have c:decide ((K,a).1=k)=f?:=ě H;rw[c,G!];by_cases h:(r.any λd=>decide (d.1=k))=j?
 ·rw[P? h,P? h,C!,E? H]
 ·rw[E? h,E? h];rfl
theorem xj {a:Type} [u_ a] {k:a} {v:s?} {l:g? (a×s?)} (h:(l.map (λZ=>Z.1)).Nodup):((aaX l k v).map (λZ=>Z.1)).Nodup:=by
 unfold aaX;by_cases e:(l.any λK=>decide (K.1=k))=j?
 ·rw[P? e,abh];have:((λ(x:a×s?)=>x.1)∘ λK=>if K.1=k then(K.1,v) else K)=λx=>x.1:=by
   funext x
   change(if x.1=k then(x.1,v) else x).1=x.1;split<;>rfl
  rw[this];exact h
 ·rw[E? e,ļ,f_];show⟨h,by simp,?_⟩;intro x c y H;simp only[C!,ù,B?] at H;subst H;rintro rfl;show bf (B_.mp c) λp b q=>?_;subst q;exact e (ñ.mpr ⟨p,b,by simp⟩)
theorem uU.store {b:Type} [u_ b] {k:b} {a:s?} (c:VR ι h v a) {l:g? (b×V)} {L:g? (b×s?)} (r:uU ι h l L) (f:(L.map (λZ=>Z.1)).Nodup):uU ι h (au k v l) (aaX L k a):=by
 induction r with
 |nil=>exact .cons c .nil
 |@cons K u m l L i g I=>
  have H:=c_.mp f;rw[yg];by_cases e:K=k
  ·subst e;rw[P? rfl];have:aaX ((K,m)::L) K a=(K,a)::L:=by
    have d:∀x∈L,(if x.1=K then(x.1,a) else x)=x:=by
     intro x j;rw[E?];intro e;exact H.1 (e▸B_.mpr ⟨x,j,rfl⟩)
    simp[aaX];exact(List.map_congr_left d).trans (List.map_id' _)
   rw[this];exact .cons c g
  ·rw[E? e,zb e];exact .cons i (I H.2)
theorem M7 (j:ks.all (λZ=>Z.isSome)=j?) (hl:b? ks=b? es) (h0:ks≠[]) (k:b? ks<=15)
  (h:T3 sc nm d ks l es ρ (H++[Ϛ []]) λvs I=>I[b? H]? = d? (Ϛ [])/\b? vs=b? l/\Q (ϊ (b? H)) (I.set (b? H) (Ϛ ((l.zip vs).foldl (λl p=>au p.1 p.2 l) [])))) :
  EV sc nm d (.Dict ks es pos) ρ H Q:=by
 intro w A env ι s K E Y y S R T;obtain⟨S2,z,R2⟩:=S.alloc (c:=Ϛ []) {cls:=r? "dict",data:=r_ #[]} ⟨[],υ _,.nil⟩;have sm2:bR s {s with heap:=s.heap.push {cls:=r? "dict",data:=r_ #[]}}:=⟨rfl,rfl⟩
 show abU (knd:=strKind pw w) j hl h0 k (h w A env _ {s with heap:=s.heap.push {cls:=r? "dict",data:=r_ #[]}} pos _ E Y y S2 (R.step S z) ?_);intro vs I g ps B q sm st J O RV;obtain⟨N,hlv,q⟩:=q;show VR.gH R2 λad dx W e_=>?_;cases e_;have f:=st.ext _ _ W;show bf (J.cells _ _ _ N f) λv hd hr=>?_;have P:v=[]:=by cases hr;rfl
 subst P;have two:dx=s.heap.objs.size:=by
  rcases J.two _ _ _ N f with e|q_
  ·exact e
  ·show zp q_ λC fs e=>?_;cases e
 have L:∀(l:g? k!) (ps:g? (s?×s?)),rl l ps->Carries (strKind pw w) ps (l.zip (ps.map (λZ=>Z.2))):=by
  intro l;induction l with
  |nil=>intro ps i;cases ps using aab with
   |nil=>trivial
   |cons _ _=>exact i.elim
  |cons x l X=>
   intro ps i;cases ps using aab with
   |nil=>exact i.elim
   |cons p ps=>
    obtain⟨kk,vv⟩:=p;obtain⟨⟨t,rfl⟩,i⟩:=i;exact⟨aaP pw w x t,rfl,X ps i⟩
 show⟨_,L l ps O,hd,λh' M sb=>?_⟩;have F:∀(D:aP B.heap h') (l:g? k!) (vs:g? V) (us:g? s?) (a:g? (k!×V)) (b:g? (k!×s?)),bJ g B.heap vs us->uU g h' a b->(b.map (λZ=>Z.1)).Nodup->
   uU g h' ((l.zip vs).foldl (λl p=>au p.1 p.2 l) a) (merged b (l.zip us)):=by
  intro D l;induction l with
  |nil=>intro vs us a b Z r Z;simpa [merged] using r
  |cons x l X=>
   intro vs us a b rv r n;cases rv with
   |nil=>simpa [merged] using r
   |cons hv rv=>
    exact X _ _ _ _ rv (r.store (hv.mono (ĉ.refl _) D) n) (xj n)
 obtain⟨S3,st3⟩:=J.turn (c':=Ϛ ((l.zip vs).foldl (λl p=>au p.1 p.2 l) [])) (h':=h') N f (λb o hb Z e=>(sb.2 b hb).trans e) (x? two) (λD=>⟨_,M,F D l vs _ [] [] RV .nil V_⟩);exact T _ _ _ _ {B with heap:=h',toks:=B.toks+b? ps} q (sm2.trans (sm.trans ⟨rfl,rfl⟩)) (z.trans (st.trans st3)) S3 (.ref f)
theorem FW (h:EV sc nm d k ρ (H++[ώ []]) λx I=>EV sc nm d e ρ I λy J=>match x with
  |ϋ i=>J[b? H]? = d? (ώ [])/\Q (ϊ (b? H)) (J.set (b? H) (ώ [(i,y)]))
  |_=>a_):EV sc nm d (.Dict [d? k] [e] pos) ρ H Q:=by
 intro w A env ι s K E O r S R T;show fP (S.alloc (c:=ώ []) {cls:=r? "dict",data:=r_ #[]} ⟨[],υ _,.nil⟩) λL f R2=>?_;have v:bR s {s with heap:=s.heap.push {cls:=r? "dict",data:=r_ #[]}}:=⟨rfl,rfl⟩
 show abU (knd:=Ô pw w) rfl rfl (by simp) (by simp) (aau (h w A env _ {s with heap:=s.heap.push {cls:=r? "dict",data:=r_ #[]}} _ E O r L (R.step S f) ?_));intro x I F x' s1 q sm st Y W;show q w A env F s1 _ E O r Y ((R.step S f).step L st) ?_;intro y P ι2 y' N q z j l X;show aaW ?_;cases x using ϔ with
 |int i=>
  obtain⟨n,q⟩:=q;cases W with
  |int _ t=>
  show VR.gH R2 λad dx u e_=>?_;cases e_;have a:=j.ext _ _ (st.ext _ _ u);show bf (l.cells _ _ _ n a) λg hd hr=>?_;have p:g=[]:=by cases hr;rfl
  subst p;have D:dx=s.heap.objs.size:=by
   rcases l.two _ _ _ n a with e| M
   ·exact e
   ·show zp M λC fs e=>?_;cases e
  show⟨[(i,y')],⟨ĩ pw w i t,rfl,trivial⟩,hd,λh' m sb=>?_⟩;obtain⟨S3,B⟩:=l.turn (c':=ώ [(i,y)]) (h':=h') n a (λb o hb Z e=>(sb.2 b hb).trans e) (x? D) (λtk=>⟨_,m,.cons (X.mono (ĉ.refl _) tk) .nil⟩);exact T _ _ _ _ {N with heap:=h',toks:=N.toks+1} q (v.trans (sm.trans (z.trans ⟨rfl,rfl⟩))) (f.trans (st.trans (j.trans B))) S3 (.ref a)
 |_=>exact q.elim
end
theorem cV {a:Type} {x:a}:∀{l:g? a} {j:m?},l[j]? = d? x->l.set j x=l:=by
 intro L;induction L with
 |nil=>
  rintro _;exact λh=>by simp at h
 |cons y r i=>
  intro Y;cases Y using aac with
  |zero=>
   exact λh=>by simp at h;simp[h]
  |succ j=>
   exact λh=>by rw[Î,i (h)]
theorem sO:∀{l:g? (V×V)},k∉l.map (λZ=>Z.1)->dE k v l=l++[(k,v)]:=by
 intro L;induction L with
 |nil=>
  exact λZ=>rfl
 |cons p r i=>
  obtain⟨K,u⟩:=p;exact λh=>by
   simp only[C!,G?,abr] at h;have H:V.beq K k=f?:=by
    cases e:V.beq K k using so with
    |false=>rfl
    |true=>exact absurd ((V.beq_iff _ _).mp e).symm h.1
   rw[rU];rw[H,E? (by decide),i h.2];rfl
theorem rW:∀{l:g? (V×V)} {j:m?} {u:V},(l.map (λZ=>Z.1)).Nodup->l[j]? = d? (k,u)->dE k v l=l.set j (k,v)
 |[],_=>λZ h=>by rename_i _;simp at h
 |(K,f)::r,0=>λZ h=>by
  rename_i u;simp at h;show r! (λq a=>?_) (h);try clear h
  subst q;subst a;rw[rU];rw[(V.beq_iff _ _).mpr rfl,P? rfl];rfl
 |(K,f)::r,j+1=>λd h=>by
  rename_i u;have H:=c_.mp d;have b:r[j]? = d? (k,u):=h;have c:V.beq K k=f?:=by
   cases e:V.beq K k using so with
   |false=>rfl
   |true=>
    have:=(V.beq_iff _ _).mp e;subst this;exact absurd (B_.mpr ⟨_,U! b,rfl⟩) H.1
  rw[rU];rw[c,E? (by decide),rW H.2 b];rfl
theorem qL.snoc (H:V.pl 8 k=j?) (g:e.key=n? a) (i:VR [] h k (n? a)) (j:e.hash=hV w k) (m:VR ι h v e.val) (r:qL w ι h l f) :
  qL w ι h (l++[(k,v)]) (f++[e]):=by
 induction r with
 |nil=>exact .cons H g i j m .nil
 |cons a b c d e _ I=>exact .cons a b c d e I
theorem qL.setAt (n:VR ι h v o) (r:qL w ι h l c):∀{j:m?} {u:V},l[j]? = d? (k,u)->qL w ι h (l.set j (k,v)) (c.modify j λe=>{e with val:=o}):=by
 induction r with
 |nil=>intro j u h;simp at h
 |@cons K p a e l c d f g i m r I=>
  intro j u H;cases j using aac with
  |zero=>
   simp at H;show r! (λq b=>?_) (H);try clear H
   subst q;exact .cons d f g i n r
  |succ j=>
   exact .cons d f g i m (I (H))
theorem CQ.get (r:CQ ι h l xs):∀{j:m?} {k:V} {p:e!×s?},xs[j]? = d? (k,p)->∃u,l[j]? = d? (k,u):=by
 induction r with
 |nil=>intro j k p h;simp at h
 |cons a b c r i=>
  intro j k p H;cases j using aac with
  |zero=>simp at H;obtain⟨rfl,_⟩:=H;exact⟨_,rfl⟩
  |succ j=>obtain⟨u,e⟩:=i (H);exact⟨u,e⟩
theorem CQ.Xa (r:CQ ι h l xs) (H:∀(j:m?) (p:e!×s?),xs[j]? ≠d? (k,p)):k∉l.map (λZ=>Z.1):=by
 rw[<- r.keys];intro b;show bf (B_.mp b) λx c q=>?_;subst q;exact Q! (ń c) λj a=>H j x.2 a
section
theorem set_list {Q:ŝ->y?->Prop} (H:s.heap.get? l=d? {cls:=r? "list",data:=Z! items n})
  (d:Ê k=j?) (e:k=abB j) (b:j<items.size)
  (hQ:∀h' N,h'.get? l=d? {cls:=r? "list",data:=Z! (items.setIfInBounds j v) N}->Ŝ l s.heap h'->Q () {s with heap:=h'}) :
  n! (j! pw w) A (abZ (n? l) (z? k t) v) Q E s:=by
 have a:s.heap.IsList l items:=eh H;unfold abZ;try with_reducible show h! ?_
 first|show l? (v? ?_)|skip
 show l? (Ú a.typeIs rfl ?_);show l? (Ę (name:="__setitem__") a.typeIs abi
  (L_ abi a.typeIs entry_list_setitem ?_ (args_list_setitem _ _ _)))
 change n! _ _ (ab0 (z? k t) >>= _) _ _ s;show l? (wpAny_listSubscript_int d ?_);subst e;have c:items[j]? = d? items[j]:=Array.getElem?_eq_getElem b;show l? (l? (wpAny_seqItemAt H rfl (v? ?_)));rw[c];obtain⟨N,h⟩:∃N,adn (·.setIfInBounds j v) {cls:=r? "list",data:=Z! items n}= {cls:=r? "list",data:=Z! (items.setIfInBounds j v) N}:=⟨_,rfl⟩
 have hfin:(s.heap.update l (adn (·.setIfInBounds j v))).get? l=d? {cls:=r? "list",data:=Z! (items.setIfInBounds j v) N}:=by
  rw[Ľ _ H (by rw[h];rfl),h]
 show l? (wpAny_setSeqItemAt H rfl ?_);first
  |exact l? (v? (v? ⟨T?,rfl,v? (hQ _ _ hfin (Ġ ..))⟩))
  |exact v? ⟨.none,rfl,v? (hQ _ _ hfin (Ġ ..))⟩
theorem Pq {Q:ŝ->y?->Prop} (R:cJ A d) (N:V.pl 8 (ύ l)=j?) (T:VR [] s.heap (ύ l) (n? a)) (W:VR ι s.heap v n)
  (g:s.heap.get? D=d? o) (q:o.ExactDict) (h:o.data=r_ f (b? kvs)) (J:qL w ι s.heap kvs f.toList) (k:(kvs.map (λZ=>Z.1)).Nodup) (I:b? kvs<aJ)
  (M:∀h' O i t,h'.get? D=d? O->O.ExactDict->O.data=r_ i (b? (dE (ύ l) v kvs))->(aP s.heap h'->qL w ι h' (dE (ύ l) v kvs) i.toList)->((dE (ύ l) v kvs).map (λZ=>Z.1)).Nodup->Ŝ D s.heap h'->Q () {s with heap:=h',toks:=t}) :
  n! (j! pw w) A (abZ (n? D) (n? a) n) Q E s:=by
 letI:=V.decEq
 show bf J.xs λxs z r=>?_;have m:s.heap.DictOfH (vKind w) D xs:=⟨o,f,_,g,q,h,z,r.is,by rw[r.keys];exact k⟩
 have H:(vKind w).is s.heap (ύ l) a:=⟨N,T⟩
 have P:(vKind w).room A.in1:=R.vk;have F:(xs.map (λZ=>Z.1)).Nodup:=by rw[r.keys];exact k
 have B:f.size<=ğ:=by
  have X:f.size=b? kvs:=by
   have K:=R? b? z;have L:=R? b? r.keys;rw[N!,W?] at K;rw[N!,N!] at L;exact K.trans L
  exact X▸fV I
 unfold abZ;try with_reducible show h! ?_
 show l? (Ú m.typeIs rfl ?_);show l? (Ę (name:="__setitem__") m.typeIs abj
  (L_ abj m.typeIs entry_dict_setitem ?_ (args_dict_setitem _ _ _)))
 show l? (Ι m.typeIs ?_);change n! _ _ (dictSet D (n? a) n >>= _) _ _ s;show l? ?_;unfold dictSet;try with_reducible show h! ?_
 show l? ((vKind w).pyHash P H ?_);unfold dictSetHashed;try with_reducible show h! ?_
 show l? (wpAny_dictFind_heap (s:={s with toks:=s.toks+(vKind w).draws (ύ l)}) P H g h z r.is F ?_ ?_)
 ·intro C;show l? (aaR (wpAny_updateDictKeys (hz:=B) (s:={s with toks:=s.toks+(vKind w).draws (ύ l)}) g h ?_));have b:=r.Xa C;have e:=sO (v:=v) b;show v? ⟨T?,rfl,v? (M _ _ (f.push ⟨(vKind w).hash (ύ l),n? a,n⟩) _ (Ľ _ g (aav (aag h _))) (q.mapDictKeys _) ?_ ?_ ?_ (Ġ ..))⟩
  ·rw[aag h,e,I?];rfl
  ·intro t;rw[e,Ö];exact qL.snoc N rfl (T.mono (ĉ.refl _) t) rfl (W.mono (ĉ.refl _) t) (J.mono (ĉ.refl _) t)
  ·rw[e,ļ,f_];show⟨k,by simp,?_⟩;intro x hx y S;simp only[C!,ù,B?] at S;subst S;rintro rfl;exact b hx
 ·intro j p Y;show l? (aaR (l? (wpAny_updateDict (s:={s with toks:=s.toks+(vKind w).draws (ύ l)}) g h (wpAny_point ?_))));show Q! (r.get Y) λu c=>?_;have e:=rW (v:=v) k c;show v? ⟨T?,rfl,v? (M _ _ (f.modify j λe=>{e with val:=n}) _ (Ľ _ g (aav (abC h _))) (q.mapDict _) ?_ ?_ ?_ (Ġ ..))⟩
  ·rw[abC h,e,d_]
  ·intro t;rw[e,Array.toList_modify];exact qL.setAt (W.mono (ĉ.refl _) t) (J.mono (ĉ.refl _) t) c
  ·rw[e,List.map_set];have:(kvs.map (λZ=>Z.1)).set j (ύ l)=kvs.map (λZ=>Z.1):=by
    show cV ?_;rw[X!,c];rfl
   rw[this];exact k
end
theorem bJ.X0 {a:s?} (H:VR ι h v a) {l:g? V} {vs:O_ s?} (r:bJ ι h l vs.toList) (j:m?):bJ ι h (l.set j v) (vs.setIfInBounds j a).toList:=by
 rw[Array.toList_setIfInBounds];exact bJ.set H r j
set_option tactic.hygienic true in
theorem vO {K:ŝ->y?->Prop} (R:cJ A d) (S:SR w ι H s.heap) (Ra:VR ι s.heap a a') (W:VR ι s.heap i i') (X:VR ι s.heap v v')
  (e:cG a i v H=d? H') (q:∀s',bR s s'->ą ι s.heap ι s'.heap->SR w ι H' s'.heap->K () s'):n! (j! pw w) A (abZ a' i' v') K E s:=by
 cases a using ϔ with
 |ref n=>
  show VR.gH Ra λY dx f e_=>?_;subst e_;rcases hZ e with⟨xs,p,B⟩| ⟨kvs,p,B⟩| ⟨kvs,p,B⟩| ⟨kvs,p,B⟩
  ·show HY B λk J F=>jf F λr I=>?_;subst J I;show fL (S.listAt p f) λvs c ho hv hdx=>?_;obtain⟨_,e⟩:=VR.int_inv W;subst e;rename_i t;have e2:b? xs=vs.size:=by rw[hv.length,W?]
   show set_list ho (j:=k.toNat) (fitsIndex_of r.1 (acT r.2.2 (by decide))) (aaw r.1).symm (TH r.1 r.2.1 e2) (λh' n' N sb=>?_);show r! (λD m=>?_) (S.turn (c':=ό (xs.set k.toNat v)) (h':=h') p f (λb o L Z e=>(sb.2 b L).trans e) (x? hdx) (λz=>⟨_,_,N,bJ.X0 (X.mono (ĉ.refl _) z) (hv.mono (ĉ.refl _) z) _⟩));exact q {s with heap:=h'} ⟨rfl,rfl⟩ m D
  ·show HY B λk J F=>jf F λr I=>?_;subst J I;show bf (S.cells _ _ _ p f) λg M P=>?_;obtain⟨_,e⟩:=VR.int_inv W;subst e;rename_i t;have T:dx=Y:=by
    rcases S.two _ _ _ p f with e| ⟨C,fs,e⟩
    ·exact e
    ·cases e
   have x:b? g=b? kvs:=by have:=R? b? P.keys;simpa using this
   have y:(g.map (λZ=>Z.1)).Nodup:=by obtain⟨o,es,ep,_,_,_,_,_,h⟩:=M;exact h
   show aax (ĩ pw w k t) M (λh' u sb=>?_) (x▸fV r);show r! (λD m=>?_) (S.turn (c':=ώ (au k v kvs)) (h':=h') p f (λb o L Z e=>(sb.2 b L).trans e) (x? T) (λz=>⟨_,u,(P.mono (ĉ.refl _) z).store (X.mono (ĉ.refl _) z) y⟩));exact q {s with heap:=h',toks:=s.toks+1} ⟨rfl,rfl⟩ m D
  ·show Zq B λk J F=>jf F λr I=>?_;subst J I;show bf (S.cells _ _ _ p f) λg M P=>?_;obtain⟨_,e⟩:=VR.str_inv W;subst e;rename_i t;have T:dx=Y:=by
    rcases S.two _ _ _ p f with e| ⟨C,fs,e⟩
    ·exact e
    ·cases e
   have x:b? g=b? kvs:=by have:=R? b? P.keys;simpa using this
   have y:(g.map (λZ=>Z.1)).Nodup:=by obtain⟨o,es,ep,_,_,_,_,_,h⟩:=M;exact h
   show aax (aaP pw w k t) M (λh' u sb=>?_) (x▸fV r);show r! (λD m=>?_) (S.turn (c':=Ϛ (au k v kvs)) (h':=h') p f (λb o L Z e=>(sb.2 b L).trans e) (x? T) (λz=>⟨_,u,(P.mono (ĉ.refl _) z).store (X.mono (ĉ.refl _) z) y⟩));exact q {s with heap:=h',toks:=s.toks+1} ⟨rfl,rfl⟩ m D
  ·show XU B λl J F=>jf F λr I=>?_;subst J I;show Mk (S.cells _ _ _ p f) λo es ho B M ht y=>?_;have T:dx=Y:=by
    rcases S.two _ _ _ p f with e| ⟨C,fs,e⟩
    ·exact e
    ·cases e
   show bf (W.key r.1) λb q_1 rk=>?_;subst q_1;show Pq R r.1 rk X ho B M ht y r.2 (λh' o' es' tk' N hx' u ht' O sb=>?_);show r! (λD m=>?_) (S.turn (c':=Ϝ (dE (ύ l) v kvs)) (h':=h') p f (λb o L Z e=>(sb.2 b L).trans e) (x? T) (λz=>⟨o',es',N,hx',u,ht' z,O⟩));exact q {s with heap:=h',toks:=tk'} ⟨rfl,rfl⟩ m D
 |_=>exact nS e
theorem iv:∀{ρ:Ă} {i j:m?} {u:V},(put v ρ i)[j]? = d? (d? u)->(j=i/\u=v)\/(j≠i/\ρ[j]? = d? (d? u))
 |[],i,j=>λh=>nS h
 |o::r,0,0=>λh=>x? ⟨rfl,(z! (z! h)).symm⟩
 |o::r,0,j+1=>λh=>u? ⟨abD j,h⟩
 |o::r,i+1,0=>λh=>u? ⟨(abD i).symm,h⟩
 |o::r,i+1,j+1=>λh=>by
  rename_i u;rcases iv (ρ:=r) h with⟨rfl,rfl⟩| ⟨a,b⟩
  ·exact x? ⟨rfl,rfl⟩
  ·exact u? ⟨by lia,b⟩
theorem gR {c:Type}:∀{l:g? c} {i j:m?} {x:c},l.Nodup->l[i]? = d? x->l[j]? = d? x->i=j
 |[],_,_=>λZ h Z=>by rename_i _;simp at h
 |y::r,0,0=>λZ Z Z=>by rename_i _;exact rfl
 |y::r,0,j+1=>λb H a=>by
  rename_i x;simp at H a;subst H;exact absurd (U! a) (c_.mp b).1
 |y::r,i+1,0=>λb H a=>by
  rename_i x;simp at H a;subst a;exact absurd (U! H) (c_.mp b).1
 |y::r,i+1,j+1=>λb H a=>by
  rename_i x;exact R? (λZ=>Z+1) (gR (x:=x) (c_.mp b).2 (H) (a))
set_option tactic.hygienic true in
theorem Ah {cx:Cx} (h:cx.eL x=d? i):cx.nm[i]? = d? x/\(cx.sc.names.lookup x=d? .local\/cx.sc.names.lookup x=d? g!):=by
 rcases Vv h with⟨e,h⟩| ⟨e,h⟩| ⟨_,h⟩| ⟨_,h⟩
 ·exact⟨i9 h,x? e⟩
 ·exact⟨i9 h,u? e⟩
 ·exact nS h
 ·exact nS h
section
variable {K:ŝ->y?->Prop}
theorem dp {m:k!->p? s?} (n:h.Ns L m) (vs:O_ s?):¬Ŗ h L vs:=by
 rintro⟨o,c,_,k,b⟩;show Pc n λO d e a H Z=>?_;rw[c] at a;cases a;rw[b] at H;cases H
theorem kZ {h:Y!} {L c:e!} {m:k!->p? s?} {v:p? s?} (n:h.Ns L m) (x:h.IsCell c v):c≠L:=by
 rintro rfl;show Pc n λO f e a H Z=>bf x λo d b=>?_;rw[d] at a;cases a;rw[b] at H;cases H
theorem i0 (x:h.IsCell c v) (vs:O_ s?):¬Ŗ h c vs:=by
 rintro⟨O,a,_,k,H⟩;show bf x λo d b=>?_;rw[d] at a;cases a;rw[b] at H;cases H
theorem vy (sb:Ŝ L h h') (n:∀vs,¬Ŗ h L vs):aP h h':=λa vs t=>by
 have H:a≠L:=by rintro rfl;exact n _ t
 exact bf t λo b r=>⟨o,(sb.2 a H).trans b,r⟩
theorem yk (t:env.scope.kind=b!) (S:SR w ι H s.heap) (R:LR ι s.heap env nm ρ) (P:nm.Nodup) (B:nm[i]? = d? x) (I:env.kindOf x=d? .local) (L:VR ι s.heap v J)
  (q:∀s',bR s s'->cg env ι s.heap ι s'.heap->SR w ι H s'.heap->LR ι s'.heap env nm (put v ρ i)->K () s'):n! (j! pw w) A (abE env x J) K E s:=by
 show bf R.ns λm l O=>Κ I l (λh' z sb=>?_) (by rw[t];rfl);have T:aP s.heap h':=vy sb (dp l);have D:∀c d,s.heap.IsCell c d->h'.IsCell c d:=λc d f=>by
  have k:=kZ l f;exact bf f λo W N=>⟨o,(sb.2 c k).trans W,N⟩
 show q {s with heap:=h',toks:=s.toks+1} ⟨rfl,rfl⟩ ⟨ĉ.refl _,λZ m=>x? m,λb o Z M Z e=>(sb.2 b M).trans e⟩ (S.sameBut sb R.high R.notMut (dp l))<|⟨⟨_,z,λj y u n p g=>?_⟩,λj y u n p g=>?_,λy X=>?_,R.apart,R.notMut,λy c f=>?_,R.high⟩
 ·rcases iv p with⟨rfl,rfl⟩| ⟨k,p⟩
  ·rw[B] at n;cases n;exact⟨J,by simp,L.mono (ĉ.refl _) T⟩
  ·show bf (O j y u n p g) λF e r=>?_;have C:y≠x:=by rintro rfl;exact k (gR P n B)
   exact⟨F,by simp[C,e],r.mono (ĉ.refl _) T⟩
 ·rcases iv p with⟨rfl,rfl⟩| ⟨k,p⟩
  ·rw[B] at n;cases n;rw[I] at g;rcases g with h|h<;>cases h
  ·exact fL (R.held j y u n p g) λc F e f r=>⟨c,F,e,D c _ f,r.mono (ĉ.refl _) T⟩
 ·exact pq (R.cells y X) λc d e f=>⟨c,d,e,D c _ f⟩
 ·obtain⟨a,b,d,f⟩:=R.cellsMut y c f;exact⟨a,b,d,D c _ f⟩
theorem CA {w:u!} {A:D!} {s:y?} {ι:ć} {H:Hp} {env:Ó} {nm:g? k!} {ρ:Ă} {i:m?} {x:k!} {v:V} {W:s?} (F:env.scope.kind=b!) (S:SR w ι H s.heap) (R:LR ι s.heap env nm ρ) (hn:nm.Nodup) (L:nm[i]? = d? x) (M:env.kindOf x=d? g!) (Y:VR ι s.heap v W)
  (q:∀s',bR s s'->cg env ι s.heap ι s'.heap->SR w ι H s'.heap->LR ι s'.heap env nm (put v ρ i)->K () s'):n! (j! pw w) A (abE env x W) K E s:=by
 show pq (R.cells x M) λc X l g=>bf R.ns λm B hm=>?_;have J:=kZ B g;show wpAny_storeName_cell F M l g (λh' z sb=>?_);have T:aP s.heap h':=vy sb (i0 g);have O:∀C d,C≠c->s.heap.IsCell C d->h'.IsCell C d:=λC d n l=>by
  exact bf l λo N hd=>⟨o,(sb.2 C n).trans N,hd⟩
 have t:=R.cellsMut x c l;show q {s with heap:=h'} ⟨rfl,rfl⟩ ⟨ĉ.refl _,λZ m=>x? m,λb o Z Z hb e=>(sb.2 b (λe'=>hb x (e'▸l))).trans e⟩ (S.sameBut sb t.2.1 t.1 (i0 g))<|⟨⟨m,?_,λj y u p D k=>?_⟩,λj y u p D k=>?_,λy hy=>?_,R.apart,R.notMut,λy C h=>?_,R.high⟩
 ·exact Hv B λo es ep N r=>⟨o,es,ep,(sb.2 _ (N_ J)).trans N,r⟩
 ·rcases iv D with⟨rfl,rfl⟩| ⟨n,D⟩
  ·rw[L] at p;cases p;rw[M] at k;cases k
  ·exact bf (hm j y u p D k) λP e r=>⟨P,e,r.mono (ĉ.refl _) T⟩
 ·rcases iv D with⟨rfl,rfl⟩| ⟨n,D⟩
  ·rw[L] at p;cases p;exact⟨c,W,l,z,Y.mono (ĉ.refl _) T⟩
  ·show fL (R.held j y u p D k) λC P e h r=>?_;have f:C≠c:=by
    rintro rfl;have:=R.apart _ _ _ e l;subst this;exact n (gR hn p L)
   exact⟨C,P,e,O C _ f h,r.mono (ĉ.refl _) T⟩
 ·by_cases I:y=x
  ·subst I;exact⟨c,_,l,z⟩
  ·show pq (R.cells y hy) λC d e h=>?_;have f:C≠c:=by rintro rfl;exact I (R.apart _ _ _ e l)
   exact⟨C,d,e,O C _ f h⟩
 ·obtain⟨a,b,d,h1⟩:=R.cellsMut y C h;by_cases f:C=c
  ·subst f;exact⟨a,b,_,z⟩
  ·exact⟨a,b,d,O C _ f h1⟩
end
def AS (sc:t_) (nm:g? k!) (d:m?) (t:Ó->s?->Sem ŝ) (v:V) (ρ:Ă) (H:Hp) (Q:Ă->Hp->Prop):Prop:=
 ∀(w:u!) (A:D!) (env:Ó) (ι:ć) (s:y?) (c:s?) (K:ŝ->y?->Prop) (E:s?->y?->Prop),
  cK sc env->cJ A d->SR w ι H s.heap->LR ι s.heap env nm ρ->VR ι s.heap v c->
  (∀b H' a s',Q b H'->bR s s'->cg env ι s.heap a s'.heap->SR w a H' s'.heap->LR a s'.heap env nm b->K () s')->n! (j! pw w) A (t env c) K E s
section
variable {Q:Ă->Hp->Prop}
theorem yf {d:m?} {ρ:Ă} {H:Hp} {cx:Cx} (j:cx.nm.Nodup) (h:cx.eL x=d? i) (q:Q (put v ρ i) H):AS cx.sc cx.nm d (λenv v=>abE env x v) v ρ H Q:=by
 intro w A env ι s m K E o l S R r T;show r! (λg f=>?_) (Ah h);have k:env.kindOf x=cx.sc.names.lookup x:=by rw[<- o.scope];rfl
 have e:env.scope.kind=b!:=by rw[o.scope];exact o.kind
 rcases f with f|f
 ·exact yk e S R j g (k.trans f) r λs' a b c d=>T _ H ι s' q a b c d
 ·exact CA e S R j g (k.trans f) r λs' a b c d=>T _ H ι s' q a b c d
theorem qj {d:m?} {ρ:Ă} {H:Hp} {cx:Cx} {p:ś} (b:cx.nm.Nodup) (h:cx.eL x=d? i) (q:Q (put v ρ i) H):AS cx.sc cx.nm d (Ĝ (x! x p)) v ρ H Q:=by
 intro w A env ι s c K E o r S R a T;exact assign_Name (yf b h q w A env ι s c K E o r S R a T)
theorem Qh (h:EV sc nm d o ρ H λx H=>ok (ck x a v H) λH=>Q ρ H):AS sc nm d (Ĝ (.Attribute o a p)) v ρ H Q:=by
 intro w A env ι s u K E O r S R k T;show l? (h! (h w A env ι s _ E O r S R ?_));intro x n i X t m f b j R1;show bf (bw.mp m) λH' e q=>l? (q! (l? (h! (Kb j R1 (k.mono b.ext (b.tup S)) e λs' g c l=>?_))));exact acE (T ρ H' i s' q (f.trans g) (b.trans c).toF l ((R.step S b).step j c))
theorem Ua (h:EV sc nm d o ρ H λx H=>EV sc nm d i ρ H λy H=>ok (cG x y v H) λH=>Q ρ H):AS sc nm d (Ĝ (.Subscript o i p)) v ρ H Q:=by
 intro w A env ι s L K E O r S R u T;show l? (h! (h w A env ι s _ E O r S R ?_));intro x F m X D B j c g R1;show l? (h! (B w A env m D _ E O r g (R.step S c) ?_));intro y I n Y J C k b t R2;show bf (bw.mp C) λH' e q=>?_;have a:=c.trans b;show l? (q! (l? (h! (vO r t (R1.mono b.ext (b.tup g)) R2 (u.mono a.ext (a.tup S)) e λs' l f z=>?_))));exact acE (T ρ H' n s' q ((j.trans k).trans l) (a.trans f).toF z (((R.step S c).step g b).step t f))
end
theorem cg.trans (x:cg env a h b h') (R:LR b h' env nm ρ) (y:cg env b h' c i):cg env a h c i where
 ext:=x.ext.trans y.ext
 fresh:=λd m=>by
  rcases y.fresh d m with m|n
  ·exact x.fresh d m
  ·by_cases M:eN a d
   ·exact x? M
   ·show u? ?_;cases e:h.get? d using aaa with
    |none=>rfl
    |some o=>
     by_cases f:d=env.locals
     ·subst f;obtain⟨m,r,_⟩:=R.ns;show Hv r λO p l H Z=>?_;rw[H] at n;cases n
     ·by_cases g:∃x,env.cells.lookup x=d? d
      ·obtain⟨x,j⟩:=g;obtain⟨_,_,v,O,H,_⟩:=R.cellsMut x d j;rw[H] at n;cases n
      ·rw[x.keep d o M f (λy k=>g ⟨y,k⟩) e] at n;cases n
 keep:=λd o M f g e=>by
  show y.keep d o (λm=>?_) f g (x.keep d o M f g e);rcases x.fresh d m with m|n
  ·exact M m
  ·rw[e] at n;cases n
theorem cg.tup (S:SR w a H h) (R:LR a h env nm ρ) (x:cg env a h b h'):aP h h':=λp vs t=>by
 have n:=S.uH t;have T:=t;show bf t λo e r=>?_;try clear t
 show⟨o,x.keep p o n ?_ ?_ e,r⟩
 ·rintro rfl;exact bf R.ns λm c Z=>dp c _ T
 ·intro y f;obtain⟨_,_,v,d⟩:=R.cellsMut y p f;exact i0 d _ T
section
theorem rd {cx:Cx} {e:k?} {r:g? k?} {is:g? m?} {P:Prop} (h:Ċ cx (e::r)=d? is) (k:∀x p i l,e=x! x p->cx.eL x=d? i->Ċ cx r=d? l->is=i::l->P):P:=
 Qc h λi H h=>by
  show bf (K!.mp h) λl b a=>?_;cases e using uy with
  |hit x p=>exact k _ _ i l rfl H b a.symm
  |bt e n=>exact nS ((show JS cx e=_ from A_ n).symm.trans H)
theorem oS:∀{a:g? k?} {is:g? m?},Ċ cx a=d? is->b? is=b? a:=by
 intro L;induction L with
 |nil=>
  rintro is h;cases h;rfl
 |cons e r I=>
  rintro is h;exact rd h λx p i l Z Z H b=>by rw[b];exact R? (λZ=>Z+1) (I H)
theorem ll:∀{c:g? k?} {is:g? m?},Ċ cx c=d? is->b? (ű c env)=b? c/\(ű c env).findIdx? (λZ=>Z.1)=none
 |[],is,_=>⟨rfl,rfl⟩
 |e::r,is,h=>rd h λx p i l d Z H Z=>by
  subst d;obtain⟨a,b⟩:=ll (env:=env) H;show⟨R? (λZ=>Z+1) a,?_⟩;change List.findIdx? _ ((f?,Ĝ (x! x p) env)::ű r env)=none;rw[List.findIdx?_cons,b];rfl
theorem oH {P:Ă->Prop} (H:2<=b? is) (q:cA is v ρ P):∃l,v=ύ l/\b? l=b? is/\P ((is.zip l).foldl (λρ p=>put p.2 ρ p.1) ρ):=by
 rcases is with _| ⟨i,_| ⟨j,r⟩⟩
 ·exact absurd H (by decide)
 ·exact absurd H (Nat.not_succ_le_self 1)
 ·cases v using ϔ with
  |tup l=>
   by_cases h:b? l=b? (i::j::r)
   ·exact⟨l,rfl,h,aci (P? h) q⟩
   ·exact x_ (aci (E? h) q)
  |_=>exact x_ q
set_option tactic.hygienic true in
theorem yW (J:cx.nm.Nodup) (o:cK cx.sc env) (c:cJ A d):∀{y:g? k?} {is:g? m?} {vs:g? V} {a:g? s?} {ρ:Ă} {ι:ć} {s:y?} {K:ŝ->y?->Prop},Ċ cx y=d? is->b? vs=b? is->
  SR w ι H s.heap->LR ι s.heap env cx.nm ρ->bJ ι s.heap vs a->
  (∀b s',bR s s'->cg env ι s.heap b s'.heap->SR w b H s'.heap->LR b s'.heap env cx.nm ((is.zip vs).foldl (λρ p=>put p.2 ρ p.1) ρ)->K () s')->
  n! (j! pw w) A (acF ((ű y env).map (λZ=>Z.2)) a) K E s:=by
 intro L;induction L with
 |nil=>
  rintro is vs a ρ ι s K h g S R t T;obtain rfl:=z! h;exact v? (T ι s (bR.refl s) (cg.refl _ _ _) S R)
 |cons e r I=>
  rintro is vs a ρ ι s K h g S R t T;show rd h λx p i l C D F B=>?_;subst C B;cases t with
  |nil=>simp at g
  |@cons v m vs a r0 rs=>
   show l? (h! (qj (d:=d) J D (Q:=λf H'=>f=put v ρ i/\H'=H) ⟨rfl,rfl⟩ w A env ι s m _ E o c S R r0 ?_));intro f H' b O q N st u R1;rw[q.1] at R1;rw[q.2] at u;show I F (by simpa using g) u R1 (rs.mono st.ext (st.tup S R)) ?_;intro n M j k z R2;exact T n M (N.trans j) (st.trans R1 k) z R2
set_option tactic.hygienic true in
theorem Ut {Q:Ă->Hp->Prop} (M:cx.nm.Nodup) (h:Ċ cx x=d? is) (J:2<=b? x) (q:cA is v ρ λρ=>Q ρ H):AS cx.sc cx.nm d (Ĝ (.Tuple x k p)) v ρ H Q:=by
 intro w A env ι s W K E O r S R B T;have c:=oS h;have g:=oH (by rw[c];exact J) q;obtain⟨l,rfl,y,g⟩:=g;show fL B.isTup λa i m N z=>?_;subst m;obtain⟨F,I⟩:=ll (env:=env) h;show l? (q! (unpack_tuple r.2.2 N (by rw[F,<- c,<- y,z.length,W?]) I (λh' L=>?_)));have j:∀b o,s.heap.get? b=d? o->h'.get? b=d? o:=λb o e=>L b o (λD=>İ _ (D▸b_ e)) e;have f:ą ι s.heap ι h':=ą.keeps j;show yW (s:={s with heap:=h'}) M O r h y (S.keeps j) (R.step S f) (z.mono (ĉ.refl _) (aP.of j)) ?_;intro u P n t C R2;exact T _ H u P g (bR.trans (b:={s with heap:=h'}) ⟨rfl,rfl⟩ n) (cg.trans f.toF (R.step S f) t) C R2
end
section
variable {Q:Fl->Ă->Hp->Prop}
theorem pd (o:cK sc env):interactive env=f?:=by
 unfold interactive;rw[o.scope,o.kind];rfl
theorem oP.after {K:acv->y?->Prop} (st:cg env ι s.heap a s'.heap) (R:LR a s'.heap env nm j) (i:bR s s') (T:oP w env nm ι s Q K):oP w env nm a s' Q K:=
 λf c H b F d q e g S r h=>T f c H b F d q (i.trans e) (st.trans R g) S r h
theorem oP.now {K:acv->y?->Prop} (T:oP w env nm ι s Q K) (S:SR w ι H s.heap) (R:LR ι s.heap env nm ρ) (q:Q f ρ H) (a:FR ι s.heap f F):K F s:=
 T f ρ H ι F s q (bR.refl s) (cg.refl _ _ _) S R a
theorem jT (h:vF e=f?):abF e t n env=pure f?:=by
 cases e using H!<;>first|rfl|cases h
theorem PK (f:vF e=f?) (h:EV sc nm d e ρ H λZ H=>Q ϒ ρ H):ST sc nm d (Λ (.Expr e p)) ρ H Q:=by
 intro w A env ι s K E o r S R T;show wpAny_Expr_any (h w A env ι s _ E o r S R ?_) (pd o) (jT f);intro v b a j g q i st c R1;exact T ϒ ρ b a G_ g q i st.toF c (R.step S st) trivial
theorem QR (q:Q ϒ ρ H):ST sc nm d (Λ (.Pass p)) ρ H Q:=
 λZ Z Z Z Z Z Z Z Z S R T=>l? (q! (v? (T.now S R q trivial)))
theorem QC (q:Q Ϭ ρ H):ST sc nm d (Λ (.Continue p)) ρ H Q:=
 λZ Z Z Z Z Z Z Z Z S R T=>l? (q! (v? (T.now S R q trivial)))
theorem TM (h:EV sc nm d e ρ H λv H=>Q (ϣ v) ρ H):ST sc nm d (Λ (.Return (d? e) p)) ρ H Q:=by
 intro w A env ι s K E o r S R T;show wpAny_Return_some (h w A env ι s _ E o r S R ?_);intro v b a i f q g st c R1;exact T (ϣ v) ρ b a (.ret i) f q g st.toF c (R.step S st) R1
theorem W4 (h:TS sc nm d c ρ H (jg λt H=>match t with|true=>ST sc nm d (Ũ a) ρ H Q|false=>ST sc nm d (Ũ b) ρ H Q)):ST sc nm d (Λ (.If c a b p)) ρ H Q:=by
 intro w A env ι s K E o r S R T;show l? (q! (xv h o r S R ?_));intro t j e g q i st f R1;cases t using so with
 |true=>exact q w A env e g K E o r f R1 (T.after st.toF R1 i)
 |false=>exact q w A env e g K E o r f R1 (T.after st.toF R1 i)
theorem U7 (q:Q ϒ ρ H):ST sc nm d (Ũ []) ρ H Q:=λZ Z Z Z Z Z Z Z Z S R T=>v? (T.now S R q trivial)
theorem Uj (h:ST sc nm d (Λ x) ρ H λf ρ H=>match f with| ϒ=>ST sc nm d (Ũ r) ρ H Q| ϲ=>Q ϲ ρ H| Ϭ=>Q Ϭ ρ H| ϣ v=>Q (ϣ v) ρ H):ST sc nm d (Ũ (x::r)) ρ H Q:=by
 intro w A env ι s K E o b S R T;show l? (h w A env ι s _ E o b S R ?_);intro f c j a k g q i st e R1 F;cases f using ϸ<;>cases k using ħ<;>first|exact F.elim|skip
 ·exact q w A env a g K E o b e R1 (T.after st R1 i)
 ·exact v? (T _ c j a _ g q i st e R1 F)
 ·exact v? (T _ c j a _ g q i st e R1 F)
 ·exact v? (T _ c j a _ g q i st e R1 F)
theorem TT (h:ST sc nm d (Λ x) ρ H Q):ST sc nm d (Ũ [x]) ρ H Q:=by
 intro w A env ι s K E o r S R T;show l? (h w A env ι s _ E o r S R ?_);intro f b c a g i q j st e R1 F;cases f using ϸ<;>cases g using ħ<;>first|exact F.elim|exact v? (T _ b c a _ i q j st e R1 F)
theorem Tw (h:ST sc nm d (Ũ b) ρ H Q):ST sc nm d (Λ (.Try b (i::m) [] [] p)) ρ H Q:=by
 intro w A env ι s K E o r S R T;show wpAny_Try_except (h w A env ι s _ _ o r S R ?_);intro f c e a l j q k st g R1 F;cases f using ϸ<;>cases l using ħ<;>first|exact F.elim|exact T _ c e a _ j q k st g R1 F|exact v? (T _ c e a _ j q k st g R1 F)
def xa (t e:k?):D?:=wV (Xr f? (λZ Z=>j?) t) (λZ Z Z=>qd e) t
theorem NJ (h:xa t e=f?):swappedStores [t] e env=pure none:=by
 cases t using H! with
 |Tuple a k p=>cases e using H!<;>first|rfl|cases h
 |List a p=>cases h
 |_=>rfl
set_option tactic.hygienic true in
theorem UK {d:m?} {ρ:Ă} {H:Hp} {cx:Cx} {e:k?} {N p:ś} (I:cx.nm.Nodup) (v:cx.eL x=d? i) (F:(x== ("__classdict__":k!))=f?)
  (h:ok (look ρ i) λu=>EV cx.sc cx.nm d e ρ H λy H=>match u,y with
   |ϋ a,ϋ b=>Q ϒ (put (ϋ (a+b)) ρ i) H
   |_,_=>a_):ST cx.sc cx.nm d (Λ (.AugAssign (x! x N) v! e p)) ρ H Q:=by
 intro w A env ι s K E o r S R T;show bf (bw.mp h) λu J h=>?_;have f:cx.slot x=d? i:=by
  rcases Vv v with⟨k,c⟩| ⟨k,c⟩| ⟨_,c⟩| ⟨_,c⟩
  ·unfold Cx.slot;rw[k];exact c
  ·unfold Cx.slot;rw[k];exact c
  ·exact nS c
  ·exact nS c
 show l? (q! (l? (ug o R f J F (λO B=>l? (h! (h w A env ι s _ E o r S R ?_))))));intro y M t Y j q L st D R1;clear h J;cases u using ϔ<;>cases y using ϔ<;>first|exact q.elim|skip
 rename_i a b;obtain⟨_,e⟩:=VR.int_inv B;subst e;obtain⟨_,e⟩:=VR.int_inv R1;subst e;show l? (q! (l? (acd (wpAny_iadd_int ?_))));show l? (q! (l? (wpAny_bindName (yf (d:=d) I v (Q:=λg H'=>Q ϒ g H') q w A env t {j with toks:=j.toks+1} _ _ E o r D (R.step S st) (.int _ _) ?_))));intro g H' n s' q l m C z;show v? (T ϒ g H' n G_ s' q (L.trans (bR.trans (b:={j with toks:=j.toks+1}) ⟨rfl,rfl⟩ l)) (cg.trans st.toF (R.step S st) m) C z trivial)
end
section
variable {Q:Fl->Ă->Hp->Prop}
theorem Mj (I:m?->Ă->Hp->Prop) (n:m?) (h0:I n ρ H)
  (h:∀n ρ H,I n ρ H->TS sc nm d c ρ H (jg λt H=>match t with
   |true=>ST sc nm d (Ũ b) ρ H λf ρ H=>match f with| ϒ=>∃k,k<n/\I k ρ H| Ϭ=>∃k,k<n/\I k ρ H| ϲ=>Q ϒ ρ H| ϣ v=>Q (ϣ v) ρ H
   |false=>Q ϒ ρ H)):ST sc nm d (Λ (.While c b [] pos)) ρ H Q:=by
 intro w A env ι s K E O r S R T;show wpAny_While<|codeAny_whileLoop (λn s'=>∃z H' l,I n z H'/\bR s s'/\cg env ι s.heap l s'.heap/\SR w l H' s'.heap/\LR l s'.heap env nm z) ?_ n ⟨ρ,H,ι,h0,bR.refl s,cg.refl _ _ _,S,R⟩;intro n s1 o;show Ni λG k_=>ZJ o λB H1 W m p N X R1=>?_;try clear o
 show k_<|h n B H1 m w A env W s1 _ _ O r X R1 ?_;intro t H2 y s2 q u x Y;have R2:=R1.step X x;have j:=cg.trans N R1 x.toF;cases t using so with
 |true=>
  rw[P? rfl];show q w A env y s2 _ _ O r Y R2 ?_;intro f i C g f' s3 J M P F D fr;have e:=cg.trans j R2 P;have a:=(p.trans u).trans M;cases f using ϸ<;>cases f' using ħ<;>first|exact fr.elim|skip
  ·obtain⟨k,L,m⟩:=J;exact⟨k,L,i,C,g,m,a,e,F,D⟩
  ·exact T ϒ i C g G_ s3 J a e F D trivial
  ·obtain⟨k,L,m⟩:=J;exact⟨k,L,i,C,g,m,a,e,F,D⟩
  ·exact T (ϣ _) i C g (.ret _) s3 J a e F D fr
 |false=>
  rw[E? (by decide)];exact abV (T ϒ B H2 y G_ s2 q (p.trans u) j Y R2 trivial)
end
def b9 (I:e!) (h h':Y!):Prop:=∀b o,b≠I->h.get? b=d? o->h'.get? b=d? o
theorem b9.tup (k:b9 I h h') (c:∀vs,¬Ŗ h I vs):aP h h':=λa vs t=>by
 have H:a≠I:=by rintro rfl;exact c _ t
 exact bf t λo b r=>⟨o,k a o H b,r⟩
theorem SR.keepsBut (S:SR w ι H h) (k:b9 I h h') (g:974<=I) (l:¬eN ι I) (q:∀vs,¬Ŗ h I vs):SR w ι H h' where
 base:=λb o e=>by
  show k b o ?_ (S.base b o e);rintro rfl;have d:=b_ e;have f:(H1 w.params).objs.size=974:=aba _ _ _;exact absurd (P! (f▸d) g) (İ _)
 len:=S.len
 cells:=λn c p j e=>(S.cells n c p j e).mono (ĉ.refl _) (k.tup q) (λb o i m=>k b o (λa=>l ⟨n,p,e,a▸i⟩) m)
 two:=S.two
 sep:=S.sep
 above:=S.above
theorem LR.keepsBut (R:LR ι h env nm ρ) (k:b9 I h h') (z:I≠env.locals) (A:∀x,env.cells.lookup x≠d? I) (D:∀vs,¬Ŗ h I vs):LR ι h' env nm ρ:=by
 obtain⟨m,f,C⟩:=R.ns;show Hv f λo w u l r=>?_;have t:=k.tup D;have K:∀y c d,env.cells.lookup y=d? c->h.IsCell c d->h'.IsCell c d:=λy c d q ⟨o,l,B⟩=>⟨o,k c o (λe=>A y (e▸q)) l,B⟩
 show⟨⟨m,⟨o,w,u,k _ o (N_ z) l,r⟩,λi y v g n j=>?_⟩,λi y v g n j=>?_,λy q=>?_,R.apart,R.notMut,λy c H=>?_,R.high⟩
 ·exact bf (C i y v g n j) λs e p=>⟨s,e,p.mono (ĉ.refl _) t⟩
 ·exact fL (R.held i y v g n j) λc s e H p=>⟨c,s,e,K y c _ e H,p.mono (ĉ.refl _) t⟩
 ·exact pq (R.cells y q) λc d e H=>⟨c,d,e,K y c _ e H⟩
 ·obtain⟨a,b,d,F⟩:=R.cellsMut y c H;exact⟨a,b,d,K y c _ H F⟩
def Mm:g? Q_:=["enumerate","zip","dict_itemiterator","dict_reverseitemiterator","odict_iterator","itertools.zip_longest","itertools.pairwise"]
def jN (h:Y!) (I:e!):Prop:=∃o n,h.get? I=d? o/\o.cls=r? n/\Mm.contains n=f?/\n≠"tuple"
theorem jN.fC (x:jN h I) (vs:O_ s?):¬Ŗ h I vs:=by
 rintro q;show jU q λO a H Z=>DI x λo n d b Z c=>?_;rw[d] at a;cases a;rw[b] at H;injection H with e
 exact c e
theorem jN.go {Q:ŝ->y?->Prop} (x:jN s.heap I) (q:Q () s):n! (j! pw w) A (φ t (n? I) v) Q E s:=by
 show DI x λr n e h b Z=>?_;obtain⟨c,dd,d,S⟩:=r;subst h;have m:∀a:e!,n! (j! pw w) A (do
   let o <- load I
   match o.cls,o.data with
   |Value.type n,d! vs=>
    if["enumerate","zip","dict_itemiterator","dict_reverseitemiterator","odict_iterator","itertools.zip_longest","itertools.pairwise"].contains n&&vs[0]? == d? (ż a) then
     rule "for.unpacks-the-owned-tuple"
     updateField I 0 T?
   |_,_=>pure ()) Q E s:=by
  intro a;show l? (wpAny_load e ?_);cases d using aaS with
  |fields vs=>
   dsimp only;have H:(["enumerate","zip","dict_itemiterator","dict_reverseitemiterator","odict_iterator","itertools.zip_longest","itertools.pairwise"].contains n&&vs[0]? == d? (ż a))=f?:=by
    rw[show["enumerate","zip","dict_itemiterator","dict_reverseitemiterator","odict_iterator","itertools.zip_longest","itertools.pairwise"].contains n=f? from b];rfl
   rw[H,E? (by decide)];exact v? q
  |_=>exact v? q
 cases t using H!<;>first|exact v? q|(cases v using n_<;>first|exact v? q|exact m _)
structure gr (chk:Hp->Prop) (x:V) (x':s?) (xs:g? V) (I:e!) (St:m?->Y!->Prop):Prop where
 frame:∀j h h',St j h->(∀o,h.get? I=d? o->h'.get? I=d? o)->St j h'
 live:∀j h,St j h->jN h I
 item:∀(w:u!) (A:D!) (ι:ć) (H:Hp) (s:y?) (Q:p? s?->y?->Prop) (E:s?->y?->Prop) (j:m?) (v:V),A.handled=none->SR w ι H s.heap->VR ι s.heap x x'->chk H->¬eN ι I->
  xs[j]? = d? v->St j s.heap->(∀v' h' tk,VR ι s.heap v v'->St (j+1) h'->b9 I s.heap h'->Q (d? v') {s with heap:=h',toks:=tk})->n! (j! pw w) A (acj (n? I)) Q E s
 done:∀(w:u!) (A:D!) (ι:ć) (H:Hp) (s:y?) (Q:p? s?->y?->Prop) (E:s?->y?->Prop),A.handled=none->SR w ι H s.heap->VR ι s.heap x x'->chk H->¬eN ι I->
  St (b? xs) s.heap->(∀h' tk,b9 I s.heap h'->Q none {s with heap:=h',toks:=tk})->n! (j! pw w) A (acj (n? I)) Q E s
 self:∀(w:u!) (A:D!) (s:y?) (Q:s?->y?->Prop) (E:s?->y?->Prop) (j:m?),A.handled=none->St j s.heap->Q (n? I) s->n! (j! pw w) A (pyIter (n? I)) Q E s
theorem zc {chk:Hp->Prop} (B:∀(ι:ć) (h:Y!),VR ι h (ϊ n) (n? a)->∃D,ι[n]? = d? (a,D)) (g:a≠I) (y:∀H:Hp,chk H->H[n]? = d? (ό xs)):gr chk (ϊ n) (n? a) xs I (λj h=>h.IsListIter I a j) where
 frame:=λj h h' st J=>by
  exact bf st λo c r=>⟨o,J o c,r⟩
 live:=λj h st=>by
  exact jU st λo c C Z=>⟨o,_,c,C,by decide,by decide⟩
 item:=λw A ι H s Q E j v hh S R l L F st q=>by
  obtain⟨D,d⟩:=B ι _ R;show fL (S.listAt (y H l) d) λvs k c p Z=>bf (p.at F) λN x M=>?_;have m:j<vs.size:=(Array.getElem?_eq_some_iff.mp x).1;show(ado hh I a g vs).item j s Q E m ⟨st,eh c⟩ (λu h' T z t K=>?_);rw[x] at z;cases z;exact q N h' T M t.1 (λb o i e=>K b o (by simpa using i) e)
 done:=λw A ι H s Q E hh S R l L st q=>by
  obtain⟨D,d⟩:=B ι _ R;show fL (S.listAt (y H l) d) λvs k c p Z=>?_;have f:b? xs=vs.size:=by rw[p.length,W?]
  show(ado hh I a g vs).done s Q E ⟨f▸st,eh c⟩ (λh' T K=>q h' T (λb o i e=>K b o (by simpa using i) e))
 self:=λw A s Q E j hh st q=>wpAny_pyIter_listiter st q
theorem sx {chk:Hp->Prop}:gr chk (ύ l) (n? a) l I (λj h=>IsTupIter h I a j) where
 frame:=λj h h' st y=>by
  show bf st λo f r=>?_;try clear st
  exact⟨o,y o f,r⟩
 live:=λj h st=>by
  show jU st λo f t Z=>?_;try clear st
  exact⟨o,_,f,t,by decide,by decide⟩
 item:=λw A ι H s Q E j v hh S R u z x st q=>by
  show fL R.isTup λm vs e g i=>?_;cases e;exact bf (i.at x) λC n B=>next_tuple_item st g n λh' k sb=>q C h' s.toks B k (λb o d e=>(sb.2 b d).trans e)
 done:=λw A ι H s Q E hh S R u z st q=>by
  show fL R.isTup λm vs e g i=>?_;cases e;have c:b? l=vs.size:=by rw[i.length,W?]
  exact next_tuple_end hh st g (by rw[c];simp) λh' p=>q h' s.toks (λb o d e=>p b o d e)
 self:=λw A s Q E j hh st q=>by
  show abk st.typeIs Ŧ (L_ Ŧ st.typeIs PySem.F.entry_tuple_iterator_iter ?_ (PySem.F.args_tuple_iterator_iter_1 _));change n! _ _ (ret (n? I)) _ _ s;exact v? ⟨_,rfl,"tuple_iterator",_,st.typeIs,slot_tupleiter_next.lookup,q⟩
theorem lX:gr (λZ=>ŀ) ϖ T? ((l! n).map λ(j:m?)=>ϋ (j:C?)) I (λj h=>IsRangeIter h I (0+(j:m?) * 1) ((n:C?) - (j:m?)) 1) where
 frame:=λj h h' st i=>i _ st
 live:=λj h st=>⟨_,_,st,rfl,by decide,by decide⟩
 item:=λw A ι H s Q E j v hh S R g l d st q=>by
  have a:j<n:=by
   have:=(i?.mp d).1
   simpa using this
  have p:v=ϋ (j:C?):=by
   rw[X!,ſ a] at d
   simpa using d.symm
  subst p;show(abN hh I 0 1 n).item j s Q E a st (λu h' T m f k=>?_);obtain⟨t,rfl⟩:=m;rw[acV,abI];exact q _ h' T (.int _ t) f (λb o c e=>k b o (by simpa using c) e)
 done:=λw A ι H s Q E hh S R g l st q=>by
  have e:b? ((l! n).map λ(j:m?)=>ϋ (j:C?))=n:=by simp
  rw[e] at st;exact(abN hh I 0 1 n).done s Q E st (λh' T k=>q h' T (λb o c e=>k b o (by simpa using c) e))
 self:=λw A s Q E j hh st q=>(abN hh I 0 1 n).self j s Q E st q
section
variable {Q:Fl->Ă->Hp->Prop}
def ZV (I:m?->y?->Prop) (n:m?) (R:Ž->y?->Prop):acv->y?->Prop:=λf s=>match f with
 |Flow.next| .cont=>∃m,m<n/\I m s
 |.brk=>R (.ok G_) s
 |.ret v=>R (.ok (.ret v)) s
def ZQ (w:u!) (A:D!) (body:g? Ĩ) (env:Ó) (I:m?->y?->Prop) (n:m?) (R:Ž->y?->Prop):ŝ->y?->Prop:=λZ s=>
 n! (j! pw w) A (Ũ body env) (ZV I n R) (ŵ (j! pw w) A env λe s'=>R (.error e) s') s
def Z1 (w:u!) (A:D!) (t:k?) (body:g? Ĩ) (env:Ó) (I:m?->y?->Prop) (n:m?) (R:Ž->y?->Prop) (v:s?):ŝ->y?->Prop:=λZ s=>
 n! (j! pw w) A (Ĝ t env v) (ZQ w A body env I n R) (ŵ (j! pw w) A env λe s'=>R (.error e) s') s
def Z8 (w:u!) (A:D!) (t:k?) (i:s?) (body:g? Ĩ) (env:Ó) (I:m?->y?->Prop) (n:m?) (R:Ž->y?->Prop):p? s?->y?->Prop:=λr s=>
 match r with
  |none=>n! (j! pw w) A (Ũ [] env) (λf S=>R (.ok f) S) (ŵ (j! pw w) A env λe s'=>R (.error e) s') s
  |some v=>n! (j! pw w) A (φ t i v) (Z1 w A t body env I n R v) (ŵ (j! pw w) A env λe s'=>R (.error e) s') s
theorem F5 {R:Ž->y?->Prop} (I:m?->y?->Prop)
  (T:∀n s,I n s->n! (j! pw w) A (acj i) (Z8 w A t i body env I n R) (ŵ (j! pw w) A env λe s'=>R (.error e) s') s) (n:m?) (h:I n s):abl (j! pw w) A (.forLoop t i body [] env) R s:=
 codeAny_forLoop_any I T n h
def fkR (w:u!) (A:D!) (env:Ó) (K:acv->y?->Prop) (E:s?->y?->Prop):Ž->y?->Prop:=λr s'=>match r with| .ok f=>K f s'| .error e=>cameBackBy (j! pw w) A env E e s'
inductive Va (sc:t_) (nm:g? k!) (d:m?) (t:k?) (b:g? Ĩ) (Q:Fl->Ă->Hp->Prop) (chk:Hp->Prop) (xs:g? V) (w:u!) (env:Ó) (ι0:ć) (s0:y?) (I:e!) (x:V) (x':s?) (St:m?->Y!->Prop) (n:m?) (s':y?):Prop
 |mk (j:m?) (ρ':Ă) (H':Hp) (ι':ć):n=b? xs - j->j<=b? xs->bG (λρ H Q=>ST sc nm d (Ũ b) ρ H Q) (λv ρ H Q=>AS sc nm d (Ĝ t) v ρ H Q) chk (xs.drop j) ρ' H' Q->
   bR s0 s'->cg env ι0 s0.heap ι' s'.heap->SR w ι' H' s'.heap->LR ι' s'.heap env nm ρ'->VR ι' s'.heap x x'->¬eN ι' I->St j s'.heap->Va sc nm d t b Q chk xs w env ι0 s0 I x x' St n s'
theorem Df {chk:Hp->Prop} {St:m?->Y!->Prop} (O:gr chk x x' xs I St)
  {K:acv->y?->Prop} (aw:cK sc env) (g:cJ A d)
  (hI0:s0.heap.get? I=none) (hI:974<=I) (hL:I≠env.locals) (hC:∀x,env.cells.lookup x≠d? I)
  (T:oP w env nm ι0 s0 Q K) (sm:bR s0 s) (st:cg env ι0 s0.heap ι s.heap) (S:SR w ι H s.heap) (R:LR ι s.heap env nm ρ) (Rx:VR ι s.heap x x') (hm:¬eN ι I) (hSt:St 0 s.heap)
  (h:bG (λρ H Q=>ST sc nm d (Ũ b) ρ H Q) (λv ρ H Q=>AS sc nm d (Ĝ t) v ρ H Q) chk xs ρ H Q) :
  abl (j! pw w) A (.forLoop t (n? I) b [] env) (λr s'=>match r with| .ok f=>K f s'| .error e=>cameBackBy (j! pw w) A env E e s') s:=by
 change abl _ _ _ (fkR w A env K E) s;show F5 (Va sc nm d t b Q chk xs w env ι0 s0 I x x' St) ?_ (b? xs) (.mk 0 ρ H ι rfl (w_ _) h sm st S R Rx hm hSt);rintro n Y ⟨j,ρ1,H1,c,rfl,hj,X,sm1,i,S1,R1,N,y,p⟩;have lv:=O.live _ _ p;cases hd:xs.drop j using aab with
 |nil=>
  have hjl:j=b? xs:=by
   have:=R? b? hd;simp at this;exact ny hj this
  subst hjl;rw[hd] at X;obtain⟨P,q⟩:=X;show O.done w A c H1 Y _ _ g.2.2 S1 N P y p (λh' tk M=>?_);show abV ?_;have S2:=S1.keepsBut M hI y lv.fC;have R2:=R1.keepsBut M hL hC lv.fC;show T ϒ ρ1 H1 c G_ {Y with heap:=h',toks:=tk} q (sm1.trans ⟨rfl,rfl⟩) ⟨i.ext,i.fresh,λb o m h1 h2 e=>M b o ?_ (i.keep b o m h1 h2 e)⟩ S2 R2 trivial;rintro rfl;rw[hI0] at e;cases e
 |cons v r=>
  have hv:xs[j]? = d? v:=by
   have:=R? (λl=>l[0]?) hd
   simpa using this
  have hr:r=xs.drop (j+1):=by
   have:=R? adr hd
   simpa using this.symm
  have hlt:j<b? xs:=(i?.mp hv).1;rw[hd] at X;obtain⟨P,X⟩:=X;show O.item w A c H1 Y _ _ j v g.2.2 S1 N P y hv p (λv' h' tk rv u M=>?_);have tk2:=M.tup lv.fC;have S2:=S1.keepsBut M hI y lv.fC;have R2:=R1.keepsBut M hL hC lv.fC;have st2:cg env ι0 s0.heap c h':=⟨i.ext,i.fresh,λb o m h1 h2 e=>M b o (by rintro rfl;rw[hI0] at e;cases e) (i.keep b o m h1 h2 e)⟩
  show(O.live _ _ u).go (s:={Y with heap:=h',toks:=tk}) ?_;show X w A env c {Y with heap:=h',toks:=tk} v' _ _ aw g S2 R2 (rv.mono (ĉ.refl _) tk2) ?_;intro ρ3 H3 ι3 s3 q3 sm3 D S3 R3;have z:∀{ι a b:ć} {h h':Y!},cg env a h b h'->¬eN a I->(∃o,h.get? I=d? o)->(∀o,h.get? I=d? o->h'.get? I=d? o)/\¬eN b I:=by
   intro Z a b h h' st hm W;show⟨λo e=>st.keep I o hm hL hC e,λm=>?_⟩;rcases st.fresh I m with m|n
   ·exact hm m
   ·obtain⟨o,W⟩:=W;rw[W] at n;cases n
  have ex2:∃o,h'.get? I=d? o:=let⟨o,_,W,_⟩:=O.live _ _ u;⟨o,W⟩
  obtain⟨k3,m3⟩:=z (ι:=c) D y ex2;have ex3:∃o,s3.heap.get? I=d? o:=let⟨o,W⟩:=ex2;⟨o,k3 o W⟩
  show q3 w A env ι3 s3 _ _ aw g S3 R3 ?_;intro f L H4 J f' s4 q4 sm4 F S4 R4 fr;obtain⟨k4,m4⟩:=z (ι:=c) F m3 ex3;have C:=cg.trans (cg.trans st2 R2 D) R3 F;have B:bR s0 s4:=(sm1.trans (bR.trans (b:={Y with heap:=h',toks:=tk}) ⟨rfl,rfl⟩ sm3)).trans sm4;have Rx4:VR J s4.heap x x':=((N.mono (ĉ.refl _) tk2).mono D.ext (D.tup S2 R2)).mono F.ext (F.tup S3 R3);have hSt4:St (j+1) s4.heap:=O.frame _ _ _ (O.frame _ _ _ u k3) k4;have k:bG (λρ H Q=>ST sc nm d (Ũ b) ρ H Q) (λv ρ H Q=>AS sc nm d (Ĝ t) v ρ H Q) chk r L H4 Q->
    ∃m,m<b? xs - j/\Va sc nm d t b Q chk xs w env ι0 s0 I x x' St m s4:=
   λq=>⟨b? xs - (j+1),Ņ _ _ hlt,.mk (j+1) L H4 J rfl hlt (hr▸q) B C S4 R4 Rx4 m4 hSt4⟩
  cases f using ϸ<;>cases f' using ħ<;>first|exact fr.elim|skip
  ·exact k q4
  ·exact T ϒ L H4 J G_ s4 q4 B C S4 R4 trivial
  ·exact k q4
  ·exact T (ϣ _) L H4 J (.ret _) s4 q4 B C S4 R4 fr
end
theorem qF (h:isSet e=f?):foldedSetIterable e env x=pure x:=by
 cases e using H!<;>first|rfl|cases h
def nX (x:V) (xs:g? V) (H:Hp):Prop:=
 ∀(w:u!) (A:D!) (ι:ć) (s:y?) (X:s?) (K:s?->y?->Prop) (E:s?->y?->Prop),SR w ι H s.heap->VR ι s.heap x X->
  (∀(o:Æ) (S:m?->Y!->Prop),gr (λH'=>aH H' x=d? xs/\ao H' x=ao H x) x X xs s.heap.objs.size S->S 0 (s.heap.push o)->jN (s.heap.push o) s.heap.objs.size->K (n? s.heap.objs.size) {s with heap:=s.heap.push o})->n! (j! pw w) A (pyIter X) K E s
theorem I6:nX (ύ l) l H:=by
 intro w A ι s x K E S R q;show fL R.isTup λa vs b h c=>?_;subst b;show iter_tuple h ?_;have st:IsTupIter (s.heap.push {cls:=r? "tuple_iterator",data:=d! #[n? a,z? 0 0]}) s.heap.objs.size a 0:=⟨_,y! _ rfl,rfl,rfl⟩
 exact q _ _ (sx (chk:=λH'=>aH H' (ύ l)=d? l/\ao H' (ύ l)=ao H (ύ l))) st (sx (l:=l) (chk:=λZ=>ŀ) |>.live _ _ st)
set_option tactic.hygienic true in
theorem G6 (f:H[n]? = d? (ό xs)):nX (ϊ n) xs H:=by
 intro w A ι s x K E S R q;show VR.gH R λb D c l=>?_;subst l;show fL (S.listAt f c) λvs k g u Z=>wpAny_pyIter_list (eh g) ?_;have st:(s.heap.push {cls:=r? "list_iterator",data:=d! #[n? b,z? 0 0]}).IsListIter s.heap.objs.size b 0:=⟨_,y! _ rfl,rfl,rfl⟩
 have T:gr (λH'=>aH H' (ϊ n)=d? xs/\ao H' (ϊ n)=ao H (ϊ n)) (ϊ n) (n? b) xs s.heap.objs.size (λj h=>h.IsListIter s.heap.objs.size b j):=by
  show zc (λι h r=>by cases r with|ref e=>exact⟨_,e⟩) (λe=>İ _ (e▸b_ g)) (λH' d=>?_);have m:ao H (ϊ n)=f?:=by change(fO H[n]? _ _ _ _).isSome=f?;rw[f];rfl
  rw[m] at d;obtain⟨o,p⟩:=d;rcases hZ o with⟨ys,e,a⟩| ⟨_,_,a⟩| ⟨_,_,a⟩| ⟨kvs,e,a⟩
  ·exact jf a λZ i=>i▸e
  ·exact nS a
  ·exact nS a
  ·have t:ao H' (ϊ n)=j?:=by change(fO H'[n]? _ _ _ _).isSome=j?;rw[e];rfl
   exact nB (p.symm.trans t)
 exact q _ _ T st (T.live _ _ st)
section
variable {Q:Fl->Ă->Hp->Prop}
theorem Tj (W:isSet I=f?)
  (h:EV sc nm d I ρ H λx H=>∃xs,nX x xs H/\bG (λρ H Q=>ST sc nm d (Ũ b) ρ H Q) (λv ρ H Q=>AS sc nm d (Ĝ t) v ρ H Q) (λH'=>aH H' x=d? xs/\ao H' x=ao H x) xs ρ H Q) :
  ST sc nm d (Λ (.For t I b [] Y)) ρ H Q:=by
 intro w A env ι s K E O r S R T;show l? (q! (l? (h w A env ι s _ E O r S R ?_)));intro x H1 g x' f q sm st i R1;show bf q λxs z P=>?_;rw[qF W];show l? (v? (l? (q! (l? (h! (z w A g f x' _ E i R1 ?_))))));intro o St L F Z;have C:=dg f.heap o;have l:ą g f.heap g (f.heap.push o):=ą.keeps C;have u:=R.step S st;have a:f.heap.get? f.heap.objs.size=none:=gK _;show wpAny_runOwn (Df (ι0:=ι) (s0:=s) (s:={f with heap:=f.heap.push o}) L O r ?_ i.size ?_ ?_ T (sm.trans ⟨rfl,rfl⟩) (st.trans l).toF (i.keeps C) (u.step i l) (R1.mono (ĉ.refl _) (aP.of C)) ?_ F P)
 ·cases e:s.heap.get? f.heap.objs.size using aaa with
  |none=>rfl
  |some oo=>
   exfalso;by_cases B:eN ι f.heap.objs.size
   ·obtain⟨D,j⟩:=i.iq (b:=f.heap.objs.size) (by
     exact pq B λn p M N=>⟨n,p,st.ext _ _ M,N⟩)
    rw[a] at j;cases j
   ·rw[st.keep _ _ B e] at a;cases a
 ·intro e;obtain⟨m,k,_⟩:=u.ns;show Hv k λD es ep c Z=>?_;rw[<- e,a] at c;cases c
 ·intro y X;obtain⟨_,_,J,D,c,_⟩:=u.cellsMut y _ X;rw[a] at c;cases c
 ·intro m;obtain⟨D,j⟩:=i.iq m;rw[a] at j;cases j
end
theorem qE {cx:Cx} {p:ś} {e:k?} {a:ś} {P:V->Hp->Prop} (C:cx.glob f=d? (.blt "range")) (B:(f== ("__debug__":k!))=f?) (l:Ć e=j?) (h:EV cx.sc cx.nm d e ρ H P)
  {A:D!} {env:Ó} {s:y?} {K:s?->y?->Prop} {E:s?->y?->Prop} (o:cK cx.sc env) (g:cJ A d) (S:SR w ι H s.heap) (R:LR ι s.heap env cx.nm ρ)
  (q:∀v H' c m s',P v H'->bR s s'->ą ι s.heap c s'.heap->SR w c H' s'.heap->VR c s'.heap v m->n! (j! pw w) A (call (r? "range") [m]) K E s') :
  n! (j! pw w) A (aaL (.Call (x! f p) [e] [] a) env) K E s:=by
 obtain⟨I,D⟩:=nq C;obtain⟨x,y⟩:=LJ (D w.params);change n! _ _ (aaL (x! f p) env >>= λF=>callWith a F [] (ţ a (Ļ [e] env)) (abf a (Ø [] env))) K E s;show l? (È (Af o S I x y ?_) B);have b:[e].all Ć=j?:=by simp[l]
 have z:CJ cx.sc cx.nm d [e] ρ H (λvs H=>∃v,vs=[v]/\P v H):=gP l (h.mono λv H' q=>jL ⟨v,rfl,q⟩);have i:(ţ a (Ļ [e] env)).any (λZ=>Z.1)=f?:=by rw[dS b];unfold ţ;simp
 change n! _ _ (callWith a (r? "range") [] (ţ a (Ļ [e] env)) []) K E s;show aat i (dM b z o g S R ?_);intro vs n k M J j L st t R1;obtain⟨v,rfl,j⟩:=j;show bJ.oW R1 λZ Z u r rs=>?_;subst u;cases rs;exact q v n k _ J j L st t r
theorem I5 (k:m?):ò 0 (k:C?) 1=(k:C?):=by
 unfold ò;simp;lia
theorem Nf {k:m?} (h:k<100000):aay 0 (k:C?) 1=j?:=by
 have a:∀x:C?,0<=x->x<100000->Ä x=j?:=λx b c=>by
  unfold Ä;simp;lia
 unfold aay;rw[I5];simp[a 0 (by lia) (by lia),a 1 (by lia) (by lia),a k (by lia) (by lia)]
section
variable {d:m?} {ρ:Ă} {H:Hp} {Q:Fl->Ă->Hp->Prop}
set_option tactic.hygienic true in
theorem Pe {cx:Cx} {t:k?} {f:k!} {p:ś} {a:k?} {I:ś} {b:g? Ĩ} {W:ś} (L:cx.glob f=d? (.blt "range")) (hd:(f== ("__debug__":k!))=f?) (hs:Ć a=j?)
  (h:EV cx.sc cx.nm d a ρ H λx H=>match x with
   |ϋ k=>0<=k/\k<100000/\bG (λρ H Q=>ST cx.sc cx.nm d (Ũ b) ρ H Q) (λv ρ H Q=>AS cx.sc cx.nm d (Ĝ t) v ρ H Q) (λZ=>ŀ) ((l! k.toNat).map λ(j:m?)=>ϋ (j:C?)) ρ H Q
   |_=>a_) :
  ST cx.sc cx.nm d (Λ (.For t (.Call (x! f p) [a] [] I) b [] W)) ρ H Q:=by
 intro w A env ι s K E O r S R T;show l? (q! (l? (qE L hd hs h O r S R ?_)));intro x H1 X x' g q sm st u R1;cases x using ϔ<;>first|exact q.elim|skip
 rename_i k;show fP q λM hk1 L=>?_;try clear q
 obtain⟨k,rfl⟩:=Ř M;obtain⟨_,e⟩:=VR.int_inv R1;subst e;rename_i l;show call_range_1<|l? (v? (l? (q! (l? (h! ?_)))));show aaY (a:=0) (b:=(k:C?)) (c:=1) (y! _ rfl) (Nf (by lia)) ?_;rw[I5];have k1:=dg g.heap {cls:=r? "range",data:=d! #[z? 0 g.toks,z? (k:C?) l,z? 1 (g.toks+1)]};have k2:=dg (g.heap.push {cls:=r? "range",data:=d! #[z? 0 g.toks,z? (k:C?) l,z? 1 (g.toks+1)]}) {cls:=r? "range_iterator",data:=d! #[ż 0,ż (k:C?),ż 1]};have Y:∀b o,g.heap.get? b=d? o->_:=λb o e=>k2 b o (k1 b o e);have C:=ą.keeps (ι:=X) Y;have D:=R.step S st;have z:g.heap.objs.size<=(g.heap.push {cls:=r? "range",data:=d! #[z? 0 g.toks,z? (k:C?) l,z? 1 (g.toks+1)]}).objs.size:=by rw[aah];exact abO _
 have F:∀{b o},g.heap.get? b=d? o->b≠(g.heap.push {cls:=r? "range",data:=d! #[z? 0 g.toks,z? (k:C?) l,z? 1 (g.toks+1)]}).objs.size:=λe e'=>by
  subst e';exact absurd (b_ e) (œ.mpr z)
 have S2:=u.keeps Y;show wpAny_runOwn (Df (ι0:=ι) (s0:=s) (H:=H1) (lX (n:=k)) O r ?_ (S? u.size z) ?_ ?_ T (bR.trans sm (b:=g) ⟨rfl,rfl⟩) (st.trans C).toF S2 (D.step u C) .none ?_ ?_ L)
 ·cases e:s.heap.get? (g.heap.push {cls:=r? "range",data:=d! #[z? 0 g.toks,z? (k:C?) l,z? 1 (g.toks+1)]}).objs.size with
  |none=>rfl
  |some oo=>
   exfalso;by_cases N:eN ι (g.heap.push {cls:=r? "range",data:=d! #[z? 0 g.toks,z? (k:C?) l,z? 1 (g.toks+1)]}).objs.size
   ·show pq N λn p e1 hb=>?_;obtain⟨P,J⟩:=u.iq ⟨n,p,st.ext _ _ e1,hb⟩;exact F J rfl
   ·exact F (st.keep _ _ N e) rfl
 ·intro e;obtain⟨m,B,_⟩:=D.ns;exact Hv B λP es ep i Z=>F i e.symm
 ·intro y hy;obtain⟨_,_,v₀,P,i,_⟩:=D.cellsMut y _ hy;exact F i rfl
 ·intro m;obtain⟨P,J⟩:=u.iq m;exact F J rfl
 ·exact y! _ rfl
end
section
variable {R:Ž->y?->Prop}
def tkE (w:u!) (A:D!) (acc:s?) (env:Ó) (I:m?->y?->Prop) (n:m?) (R:Ž->y?->Prop):s?->y?->Prop:=λx s=>
 n! (j! pw w) A (call (.builtin "list.append") [acc,x]) (λZ S=>∃m,m<n/\I m S) (ŵ (j! pw w) A env λe s'=>R (.error e) s') s
def Z2 (w:u!) (A:D!) (a:k?) (acc:s?) (env:Ó) (I:m?->y?->Prop) (n:m?) (R:Ž->y?->Prop):D?->y?->Prop:=λo s=>
 if o=j? then n! (j! pw w) A (aaL a env) (tkE w A acc env I n R) (ŵ (j! pw w) A env λe s'=>R (.error e) s') s else ∃m,m<n/\I m s
def tkA (w:u!) (A:D!) (a:k?) (i:g? k?) (acc:s?) (env:Ó) (I:m?->y?->Prop) (n:m?) (R:Ž->y?->Prop):ŝ->y?->Prop:=λZ s=>
 n! (j! pw w) A (forIn i j? λc r=>if r=j? then do let o <- ac1 c env (aaL c env);pure (ĝ o) else pure (ĝ r)) (Z2 w A a acc env I n R) (ŵ (j! pw w) A env λe s'=>R (.error e) s') s
def ZP (w:u!) (A:D!) (a t:k?) (i:g? k?) (acc:s?) (env:Ó) (I:m?->y?->Prop) (n:m?) (R:Ž->y?->Prop) (v:s?):ŝ->y?->Prop:=λZ s=>
 n! (j! pw w) A (Ĝ t env v) (tkA w A a i acc env I n R) (ŵ (j! pw w) A env λe s'=>R (.error e) s') s
def ZR (w:u!) (A:D!) (a t:k?) (i:g? k?) (b acc:s?) (env:Ó) (I:m?->y?->Prop) (n:m?) (R:Ž->y?->Prop):p? s?->y?->Prop:=λr s=>
 ĥ r (R (.ok G_) s) λv=>n! (j! pw w) A (φ t b v) (ZP w A a t i acc env I n R v) (ŵ (j! pw w) A env λe s'=>R (.error e) s') s
theorem sQ (I:m?->y?->Prop)
  (T:∀n s,I n s->n! (j! pw w) A (acj k) (ZR w A c t i k acc env I n R) (ŵ (j! pw w) A env λe s'=>R (.error e) s') s)
  (n:m?) (h:I n s):abl (j! pw w) A (.compLoop (.ListComp c [⟨t,j,i,0⟩] S p) 0 k acc env) R s:=by
 show codeAny_loop rfl I (λn s z=>?_) n h;change n! _ A ((compTurn (.ListComp c [⟨t,j,i,0⟩] S p) 0 k acc env).onRaise (λx=>do noteFrame x env;theTreesLotGoes x)) _ _ s;show wpAny_noted ?_;rw[compTurn_list];show l? (q! (l? (ł (T n s z) (λr m H=>?_) λZ Z h'=>h')));cases r using aaa with
 |none=>exact v? H
 |some v=>
  show l? (ł H (λZ l b=>?_) λZ Z h'=>h');show l? (ł b (λZ o d=>l? (ł d (λO q a=>?_) λZ Z h'=>h')) λZ Z h'=>h');cases O using so with
  |false=>exact v? ⟨rfl,a⟩
  |true=>exact l? (l? (ł a (λx u f=>l? (ł f (λZ y g=>v? (v? ⟨rfl,g⟩)) λZ Z h'=>h')) λZ Z h'=>h'))
end
def du (C:g? (k!×e!)):g? (k!×ĭ)->g? (k!×e!)->g? (k!×e!)
 |[],acc=>acc
 |(n,k)::r,acc=>if k== a! then(match C.lookup n with
  |some c=>du C r ((n,c)::acc)
  |none=>du C r acc) else du C r acc
theorem sF (C x:g? (k!×e!)) (n:k!) (k:ĭ) (r:g? (k!×ĭ)):du C ((n,k)::r) x=if(k== a!)=j? then match E_ n C with|some c=>du C r ((n,c)::x)|none=>du C r x else du C r x:=rfl
set_option tactic.hygienic true in
theorem ox:∀{names:g? (k!×ĭ)} {acc:g? (k!×e!)} {x:k!} {c:e!},(du C names acc).lookup x=d? c->acc.lookup x=d? c\/C.lookup x=d? c:=by
 intro l;induction l with
 |nil=>
  rintro _ _ _ h;exact x? h
 |cons p r i=>
  obtain⟨n,k⟩:=p;rintro acc x c h;rw[sF] at h;split at h
  ·split at h
   ·rename_i c' a;rcases i h with h|h
    ·rw[Ĥ] at h;cases H:x== n using so with
     |true=>rw[H] at h;cases h;exact u? (by rw[U?.mp H];exact a)
     |false=>rw[H] at h;exact x? h
    ·exact u? h
   ·exact i h
  ·exact i h
theorem G5:∀{names:g? (k!×ĭ)} {acc:g? (k!×e!)} {x:k!} {c:e!},C.lookup x=d? c->((x,a!)∈names\/(acc.lookup x).isSome=j?)->((du C names acc).lookup x).isSome=j?:=by
 intro l;induction l with
 |nil=>
  rintro _ _ _ _ h;rcases h with h|h<;>first|(cases h;done)|exact h
 |cons p r i=>
  obtain⟨n,k⟩:=p;rintro acc x c H h;rw[sF];by_cases a:(k== a!)=j?
  ·rw[P? a];by_cases b:x=n
   ·subst b;rw[H];exact i H (u? (by simp))
   ·have d:(x== n)=f?:=D_.mpr b;have h':(x,a!)∈r\/(acc.lookup x).isSome=j?:=by
     rcases h with h|h
     ·rcases G?.mp h with h|h
      ·cases h<;>exact absurd rfl b
      ·exact x? h
     ·exact u? h
    split
    ·show i H ?_;rcases h' with h|h
     ·exact x? h
     ·exact u? (by simp only[E_,d];exact h)
    ·exact i H h'
  ·rw[E? a];show i H ?_;rcases h with h|h
   ·rcases G?.mp h with h|h
    ·cases h;exact absurd rfl a
    ·exact x? h
   ·exact u? h
theorem A7 (h:∀x,(x,a!)∈s.names->∃c,env.cells.lookup x=d? c):closureFor s env=pure (du env.cells s.names []):=by
 have K:∀(names:g? (k!×ĭ)) (acc:g? (k!×e!)),(∀x,(x,a!)∈names->∃c,env.cells.lookup x=d? c)->
   (forIn names acc (λ(x:k!×ĭ) (C:g? (k!×e!))=>(if x.2== a! then do let c <- cellOf env x.1;pure (ĝ ((x.1,c)::C)) else pure (ĝ C):Sem (ForInStep (g? (k!×e!))))))=pure (du env.cells names acc):=by
  intro names;induction names with
  |nil=>intro acc Z;rfl
  |cons p r i=>
   obtain⟨n,k⟩:=p;intro acc H;have g:∀x,(x,a!)∈r->∃c,env.cells.lookup x=d? c:=λx j=>H x (q? _ j);rw[List.forIn_cons];rw[sF];by_cases b:(k== a!)=j?
   ·have d:k=a!:=U?.mp b;subst d;obtain⟨c,f⟩:=H n o?;have a:cellOf env n=pure c:=by unfold cellOf;rw[f]
    simp only[a,f];exact i _ g
   ·simp only[E? b];exact i _ g
 have b:=K s.names [] h;have e:closureFor s env=((forIn s.names ([]:g? (k!×e!)) (λ(x:k!×ĭ) (C:g? (k!×e!))=>(if x.2== a! then do let c <- cellOf env x.1;pure (ĝ ((x.1,c)::C)) else pure (ĝ C):Sem (ForInStep (g? (k!×e!)))))) >>= λC=>pure C):=rfl;rw[e,b,pure_bind]
section
theorem L8 {Q:p? s?->y?->Prop} (hit:s.heap.IsKeyIter I d i c.size g)
  (a:s.heap.get? d=d? O) (H:O.data=r_ c g) (m:c[i]? = d? e)
  (k:∀h',h'.IsKeyIter I d (i+1) c.size g->Ŝ I s.heap h'->Q (d? e.key) {s with heap:=h'}) :
  n! (j! pw w) A (acj (n? I)) Q E s:=by
 show jU (id hit) λo j l f=>l? (acG (Ę (name:="__next__") hit.typeIs j_
  (L_ j_ hit.typeIs ŏ ?_ (ŉ _))))
 show l? (v? ?_);show l? (l? ?_);first|show l? (ĕ hit.typeIs (v? ?_))|show l? (Ĳ hit.typeIs (v? ?_))
 show l? (ack j f ?_);show l? (v? (l? (Ü a H ?_)));rw[E? (by simp)];show l? (v? (l? (χ a H ?_)));rw[E? (by simp)];show v? ?_;simp only[R_];rw[m];show l? ?_;first|show l? (ĕ hit.typeIs (v? ?_))|show l? (Ĳ hit.typeIs (v? ?_))
 show l? (Μ hit.typeIs ?_);change n! _ _ (setField (n? I) 1 (ż ((i:C?)+1)) >>= _) _ _ s;show l? (acm j f (by simp) ?_);have h:(s.heap.update I (acH (·.setIfInBounds 1 (ż ((i:C?)+1))))).IsKeyIter I d (i+1) c.size g:=
  ⟨_,Ľ _ j (Obj.isFreed_of_fields (aaZ f _)),(Obj.cls_mapFields ..).trans l,by rw[aaZ f];simp[ż]⟩
 show l? (h! ?_);show l? (Μ (s:={s with heap:=s.heap.update I (acH (·.setIfInBounds 1 (ż ((i:C?)+1))))}) h.typeIs ?_);exact v? (v? ⟨_,rfl,v? (k _ h (Ġ ..))⟩)
theorem Qu {Q:p? s?->y?->Prop} (hh:A.handled=none) (hit:s.heap.IsKeyIter I d i f.size k)
  (H:s.heap.get? d=d? O) (h:O.data=r_ f k) (e:f.size<=i)
  (l:∀h',Heap.ExtBut I s.heap h'->Q none {s with heap:=h'}):n! (j! pw w) A (acj (n? I)) Q E s:=by
 show jU (id hit) λo j n g=>l? (acG (Ę (name:="__next__") hit.typeIs j_
  (L_ j_ hit.typeIs ŏ ?_ (ŉ _))))
 show l? (v? ?_);show l? (l? ?_);first|show l? (ĕ hit.typeIs (v? ?_))|show l? (Ĳ hit.typeIs (v? ?_))
 show l? (ack j g ?_);show l? (v? (l? (Ü H h ?_)));rw[E? (by simp)];show l? (v? (l? (χ H h ?_)));rw[E? (by simp)];show v? ?_;simp only[R_];rw[Array.getElem?_eq_none e];show l? ?_;first|show l? (ĕ hit.typeIs (v? ?_))|show l? (Ĳ hit.typeIs (v? ?_))
 change n! _ _ (setField (n? I) 0 T? >>= _) _ _ s;show l? (acm j g (by simp) ?_);show l?<|l? (U_ ?_ (by size_fits));show l? (m:=acn _ _) (wpAny_of_eq (a:=T?) (by first|rfl|(simp only[acn];rfl)) ?_);show U_ ?_ (by size_fits);show l? (wpAny_handled ?_);rw[show A.in1.handled=none from hh];show l? (v? (wpAny_throw ?_));show l? (aby (T:="StopIteration") (b:=j?) ⟨_,y! _ rfl,rfl⟩ isSubtype_stop ?_);exact v? (l _ (((Ġ ..).extBut.push _).push _))
theorem FK {Q:s?->y?->Prop} (f:(d== ü)=f?) (a:s.heap.get? d=d? o) (g:o.ExactDict) (h:o.data=r_ b e)
  (c:Q (n? s.heap.objs.size) {s with heap:=s.heap.push {cls:=r? "dict_keyiterator",data:=d! #[n? d,z? 0 0,z? b.size 0,z? e 0]}}) :
  n! (j! pw w) A (pyIter (n? d)) Q E s:=by
 have H:s.TypeIs (n? d) "dict":=⟨o,a,g.1⟩
 show abk H μ (L_ μ H PySem.F.entry_dict_iter ?_ (PySem.F.args_dict_iter_1 _));show l?<|l? (Ι H ?_);change n! _ _ (pure (n? d)) _ _ s;show v? ?_;change n! _ _ (Ν d >>= _) _ _ s;unfold Ν;rw[E? (by rw[f];exact O?)];show l? (v? (l? (Ü a h (l? (χ a h ?_)))));show l? (U_ (v? ⟨_,rfl,"dict_keyiterator",_,⟨_,y! _ rfl,rfl⟩,j_.lookup,?_⟩))
 simpa [ż] using c
end
theorem qL.length (r:qL w ι h l e):b? l=b? e:=by
 induction r with
 |nil=>rfl
 |cons _ _ _ _ _ _ i=>simp[i]
theorem qL.at (r:qL w ι h l b):∀{j:m?} {v:V},(l.map (λZ=>Z.1))[j]? = d? v->∃e,b[j]? = d? e/\VR ι h v e.key:=by
 induction r with
 |nil=>intro j v h;simp at h
 |@cons k u a e l b f H d hh g _ i=>
  intro j v h;cases j using aac with
  |zero=>simp at h;subst h;exact⟨e,rfl,H▸d.mono (λZ Z e=>by simp at e) (aP.refl _)⟩
  |succ j=>simp only[C!] at h;obtain⟨c,h',r⟩:=i h;exact⟨c,h',r⟩
theorem yi {chk:Hp->Prop} {kvs:g? (V×V)} (C:∀(ι:ć) (h:Y!),VR ι h (ϊ n) (n? a)->∃D,ι[n]? = d? (a,D)) (B:∀H:Hp,chk H->∃k,H[n]? = d? (Ϝ k)/\k.map (λZ=>Z.1)=kvs.map (λZ=>Z.1)) :
  gr chk (ϊ n) (n? a) (kvs.map (λZ=>Z.1)) I (λj h=>h.IsKeyIter I a j (b? kvs) (b? kvs)) where
 frame:=λj h h' st N=>by
  exact bf st λo f r=>⟨o,N o f,r⟩
 live:=λj h st=>by
  exact jU st λo f J Z=>⟨o,_,f,J,by decide,by decide⟩
 item:=λw A ι H s Q E j v hh S R t O M st q=>by
  obtain⟨D,g⟩:=C ι _ R;show bf (B H t) λk u c=>Mk (S.cells n _ _ u g) λo m f y d i x=>bf (i.at (c▸M)) λe K P=>?_;have l:b? k=b? kvs:=by simpa using R? b? c
  have L:m.size=b? kvs:=by rw[<- l,i.length,W?]
  rw[l] at d;rw[<- L] at st d;exact L8 st f d (e:=e) (by simpa using K) λh' z sb=>q _ h' s.toks P (L▸z) (λb o p e=>(sb.2 b p).trans e)
 done:=λw A ι H s Q E hh S R t O st q=>by
  obtain⟨D,g⟩:=C ι _ R;show bf (B H t) λk u c=>Mk (S.cells n _ _ u g) λo m f y d i x=>?_;have l:b? k=b? kvs:=by simpa using R? b? c
  have L:m.size=b? kvs:=by rw[<- l,i.length,W?]
  rw[l] at d;rw[show(kvs.map (λZ=>Z.1)).length=b? kvs from by simp] at st;rw[<- L] at st d;exact Qu hh st f d (J? _) λh' F=>q h' s.toks (λb o p e=>F b o p e)
 self:=λw A s Q E j hh st q=>wpAny_pyIter_keyiter st q
set_option tactic.hygienic true in
theorem F4 (l:H[n]? = d? (Ϝ kvs)):nX (ϊ n) (kvs.map (λZ=>Z.1)) H:=by
 intro w A ι s X K E S R q;have b:∀(ι:ć) (h:Y!) {a:e!},VR ι h (ϊ n) (n? a)->∃D,ι[n]? = d? (a,D):=λι h a r=>by cases r with|ref e=>exact⟨_,e⟩
 show VR.gH R λd D c p=>?_;subst p;show Mk (S.cells n _ _ l c) λo g B f y C z=>?_;have L:g.size=b? kvs:=by rw[C.length,W?]
 show FK (qQ S ⟨n,_,c,x? rfl⟩) B f y ?_;have st:(s.heap.push {cls:=r? "dict_keyiterator",data:=d! #[n? d,z? 0 0,z? g.size 0,z? (b? kvs) 0]}).IsKeyIter s.heap.objs.size d 0 (b? kvs) (b? kvs):=⟨_,y! _ rfl,rfl,by rw[L];rfl⟩
 have T:gr (λH'=>aH H' (ϊ n)=d? (kvs.map (λZ=>Z.1))/\ao H' (ϊ n)=ao H (ϊ n)) (ϊ n) (n? d) (kvs.map (λZ=>Z.1)) s.heap.objs.size (λj h=>h.IsKeyIter s.heap.objs.size d j (b? kvs) (b? kvs)):=by
  show yi (λι h r=>b ι h r) (λH' i=>?_);have t:ao H (ϊ n)=j?:=by change(fO H[n]? _ _ _ _).isSome=j?;rw[l];rfl
  rw[t] at i;obtain⟨u,v⟩:=i;rcases hZ u with⟨ys,e,b⟩| ⟨_,_,b⟩| ⟨_,_,b⟩| ⟨k,e,b⟩
  ·have x:ao H' (ϊ n)=f?:=by change(fO H'[n]? _ _ _ _).isSome=f?;rw[e];rfl
   exact nB (x.symm.trans v)
  ·exact nS b
  ·exact nS b
  ·exact jf b λZ m=>⟨k,e,m⟩
 exact q _ _ T st (T.live _ _ st)
theorem b9.trans (x:b9 I a b) (y:b9 I b c):b9 I a c:=λp o h e=>y p o h (x p o h e)
section
variable {K:ŝ->y?->Prop}
theorem xg (t:env.scope.kind=b!) (S:SR w ι H s.heap) (R:LR ι s.heap env nm ρ) (P:nm.Nodup) (B:nm[i]? = d? x) (I:env.kindOf x=d? .local) (L:VR ι s.heap v J)
  (q:∀s',bR s s'->b9 env.locals s.heap s'.heap->SR w ι H s'.heap->LR ι s'.heap env nm (put v ρ i)->K () s'):n! (j! pw w) A (abE env x J) K E s:=by
 show bf R.ns λm l O=>Κ I l (λh' z sb=>?_) (by rw[t];rfl);have T:aP s.heap h':=vy sb (dp l);have D:∀c d,s.heap.IsCell c d->h'.IsCell c d:=λc d f=>by
  have k:=kZ l f;exact bf f λo W N=>⟨o,(sb.2 c k).trans W,N⟩
 show q {s with heap:=h',toks:=s.toks+1} ⟨rfl,rfl⟩ (λb o M e=>(sb.2 b M).trans e) (S.sameBut sb R.high R.notMut (dp l))<|⟨⟨_,z,λj y u n p g=>?_⟩,λj y u n p g=>?_,λy X=>?_,R.apart,R.notMut,λy c f=>?_,R.high⟩
 ·rcases iv p with⟨rfl,rfl⟩| ⟨k,p⟩
  ·rw[B] at n;cases n;exact⟨J,by simp,L.mono (ĉ.refl _) T⟩
  ·show bf (O j y u n p g) λF e r=>?_;have C:y≠x:=by rintro rfl;exact k (gR P n B)
   exact⟨F,by simp[C,e],r.mono (ĉ.refl _) T⟩
 ·rcases iv p with⟨rfl,rfl⟩| ⟨k,p⟩
  ·rw[B] at n;cases n;rw[I] at g;rcases g with h|h<;>cases h
  ·exact fL (R.held j y u n p g) λc F e f r=>⟨c,F,e,D c _ f,r.mono (ĉ.refl _) T⟩
 ·exact pq (R.cells y X) λc d e f=>⟨c,d,e,D c _ f⟩
 ·obtain⟨a,b,d,f⟩:=R.cellsMut y c f;exact⟨a,b,d,D c _ f⟩
end
def SQ (sc:t_) (nm:g? k!) (d:m?) (t:Ó->s?->Sem ŝ) (v:V) (ρ:Ă) (Q:Ă->Prop):Prop:=
 ∀(w:u!) (A:D!) (env:Ó) (ι:ć) (H:Hp) (s:y?) (b:s?) (K:ŝ->y?->Prop) (E:s?->y?->Prop),
  cK sc env->cJ A d->SR w ι H s.heap->LR ι s.heap env nm ρ->VR ι s.heap v b->
  (∀a s',Q a->bR s s'->b9 env.locals s.heap s'.heap->SR w ι H s'.heap->LR ι s'.heap env nm a->K () s')->n! (j! pw w) A (t env b) K E s
section
theorem xV {d:m?} {ρ:Ă} {cx:Cx} {p:ś} {Q:Ă->Prop} (k:cx.nm.Nodup) (h:cx.eL x=d? i) (j:cx.sc.names.lookup x=d? .local) (q:Q (put v ρ i)):SQ cx.sc cx.nm d (Ĝ (x! x p)) v ρ Q:=by
 intro w A env ι H s m K E o r S R f T;obtain⟨g,_⟩:=Ah h;have l:env.kindOf x=cx.sc.names.lookup x:=by rw[<- o.scope];rfl
 have e:env.scope.kind=b!:=by rw[o.scope];exact o.kind
 exact assign_Name (xg e S R k g (l.trans j) f λs' a b c d=>T _ s' q a b c d)
theorem LR.Eg (R:LR ι h env nm ρ) (vs:O_ s?):¬Ŗ h env.locals vs:=by
 exact bf R.ns λm H Z=>dp H vs
set_option tactic.hygienic true in
theorem xl (M:cx.nm.Nodup) (o:cK cx.sc env) (f:cJ A d):∀{j:g? k?} {is:g? m?} {vs:g? V} {c:g? s?} {ρ:Ă} {s:y?} {K:ŝ->y?->Prop},Ċ cx j=d? is->uF cx.sc j=j?->b? vs=b? is->
  SR w ι H s.heap->LR ι s.heap env cx.nm ρ->bJ ι s.heap vs c->
  (∀s',bR s s'->b9 env.locals s.heap s'.heap->SR w ι H s'.heap->LR ι s'.heap env cx.nm ((is.zip vs).foldl (λρ p=>put p.2 ρ p.1) ρ)->K () s')->
  n! (j! pw w) A (acF ((ű j env).map (λZ=>Z.2)) c) K E s:=by
 intro O;induction O with
 |nil=>
  rintro is vs c ρ s K h _ k S R z T;obtain rfl:=z! h;exact v? (T s (bR.refl s) (λZ Z Z e=>e) S R)
 |cons e r I=>
  rintro is vs c ρ s K h N k S R z T;show rd h λx p i l F J L D=>?_;subst F D;obtain⟨m,n⟩:cx.sc.names.lookup x=d? .local/\uF cx.sc r=j?:=by
   obtain⟨a,b⟩:=t?.mp N;exact⟨U?.mp a,b⟩
  cases z with
  |nil=>simp at k
  |@cons v y vs c r0 rs=>
   show l? (h! (xV (d:=d) M J m (Q:=λg=>g=put v ρ i) rfl w A env ι H s y _ E o f S R r0 ?_));intro g X q W st B R1;rw[q] at R1;show I L n (by simpa using k) B R1 (rs.mono (ĉ.refl _) (st.tup R.Eg)) ?_;intro P t u C R2;exact T P (W.trans t) (st.trans u) C R2
set_option tactic.hygienic true in
theorem PO {Q:Ă->Prop} (M:cx.nm.Nodup) (h:Ċ cx g=d? is) (N:uF cx.sc g=j?) (F:2<=b? g) (q:cA is v ρ λρ=>Q ρ):SQ cx.sc cx.nm d (Ĝ (.Tuple g k p)) v ρ Q:=by
 intro w A env ι H s X K E O r S R y T;have c:=oS h;have i:=oH (by rw[c];exact F) q;obtain⟨l,rfl,u,i⟩:=i;show fL y.isTup λa I j P x=>?_;subst j;obtain⟨C,D⟩:=ll (env:=env) h;show l? (q! (unpack_tuple r.2.2 P (by rw[C,<- c,<- u,x.length,W?]) D (λh' L=>?_)));have f:∀b o,s.heap.get? b=d? o->h'.get? b=d? o:=λb o e=>L b o (λB=>İ _ (B▸b_ e)) e;have n:ą ι s.heap ι h':=ą.keeps f;show xl (s:={s with heap:=h'}) M O r h N u (S.keeps f) (R.step S n) (x.mono (ĉ.refl _) (aP.of f)) ?_;intro W m t z R2;exact T _ W i (bR.trans (b:={s with heap:=h'}) ⟨rfl,rfl⟩ m) (λb o J e=>t b o J (f b o e)) z R2
end
theorem uL {outer sc:t_} (b:outer.kind=b!):∀{names:g? (k!×ĭ)} (_:∀p∈names,p.2=a!->outer.names.lookup p.1=d? g!) (x:k!),
  (names.map λp=>if p.2== a!&&outer.kind== b!&&outer.names.lookup p.1== d? g! then(p.1,g!) else p).lookup x=match names.lookup x with|some a!=>d? g!|o=>o
 |[]=>λZ x=>rfl
 |(n,k)::r=>λh x=>by
  have i:=uL (outer:=outer) (sc:=sc) b (names:=r) (λp c=>h p (q? _ c)) x;simp only[C!];by_cases H:k=a!
  ·subst H;have a:=h (n,a!) o? rfl;simp only at a;have e:((a!== a!)&&outer.kind== b!&&outer.names.lookup n== d? g!)=j?:=by rw[b,a];rfl
   rw[P? e];simp only[Ĥ];cases d:x== n using so with
   |true=>rfl
   |false=>exact i
  ·have e:((k== a!)&&outer.kind== b!&&outer.names.lookup n== d? g!)=f?:=by
    have:(k== a!)=f?:=by simpa using H
    rw[this];rfl
   rw[E? (by rw[e];exact O?)];simp only[Ĥ];cases d:x== n using so with
   |true=>cases k using Ş<;>first|rfl|exact absurd rfl H
   |false=>exact i
structure eS (outer sc:t_):Prop where
 kind:sc.kind=b!
 okind:outer.kind=b!
 nodup:(az sc).Nodup
 free:∀p∈sc.names,p.2=a!->outer.names.lookup p.1=d? g!
 cell:∀p∈sc.names,p.2≠g!
 same:∀p∈sc.names,sc.names.lookup p.1=d? p.2
theorem eS.of (h:qr outer sc=j?):eS outer sc:=by
 unfold qr at h;simp only[Y?,O!,L?,U?] at h;obtain⟨⟨⟨b,c⟩,d⟩,a⟩:=h;show⟨b,c,d,λp H e=>?_,λp H e=>?_,λp H=>?_⟩
 ·have:=a p H;rw[e] at this;simp only[Y?,U?] at this;exact this.1
 ·have:=a p H;rw[e] at this;cases this
 ·have:=a p H;cases e:p.2<;>rw[e] at this<;>simp only[Y?,U?,Œ] at this<;>first|exact this|exact this.2
theorem eS.lookup (o:eS outer sc) (x:k!):(aB outer sc).names.lookup x=match sc.names.lookup x with|some a!=>d? g!|o=>o:=uL (sc:=sc) o.okind o.free x
theorem lookup_mem:∀{l:g? (k!×ĭ)},l.lookup x=d? k->(x,k)∈l:=by
 intro L;induction L with
 |nil=>
  exact λh=>by simp at h
 |cons p r i=>
  obtain⟨n,j⟩:=p;exact λh=>by
   rw[Ĥ] at h;cases H:x== n using so with
   |true=>rw[H] at h;cases h;rw[U?.mp H];exact o?
   |false=>rw[H] at h;exact q? _ (i h)
set_option tactic.hygienic true in
theorem E9 {cx:Cx} {sc:t_} {ρ:Ă} {i:m?} {x:k!} {v:V} (c:(az sc)[i]? = d? x) (H:((dW cx sc).map λo=>o.bind (look ρ))[i]? = d? (d? v)) :
  sc.names.lookup x=d? a!/\∃j,cx.slot x=d? j/\look ρ j=d? v:=by
 unfold dW at H;rw[X!,X!,c] at H;show Qc (z! H) λj a b=>?_;rcases Vv a with⟨_,h⟩| ⟨_,h⟩| ⟨e,h⟩| ⟨_,h⟩
 ·exact nS h
 ·exact nS h
 ·exact⟨e,j,h,b⟩
 ·exact nS h
theorem LR.inner (o:eS cx.sc sc) (O:cK cx.sc env) (R:LR ι h' env cx.nm ρ) (z:∃m,h'.Ns C m) (D:¬eN ι C) (hh:974<=C) :
  LR ι h' (aai sc (du env.cells sc.names []) C env) (az sc) ((dW cx sc).map λo=>o.bind (look ρ)):=by
 have t:∀x,(aai sc (du env.cells sc.names []) C env).kindOf x=match sc.names.lookup x with|some a!=>d? g!|o=>o:=λx=>by
  rw[<- o.lookup,<- O.scope];rfl
 have K:∀x,env.kindOf x=cx.sc.names.lookup x:=λx=>by rw[<- O.scope];rfl
 have s:∀x c,(du env.cells sc.names []).lookup x=d? c->env.cells.lookup x=d? c:=λx c e=>by
  rcases ox e with h|h
  ·simp at h
  ·exact h
 have b:∀x,sc.names.lookup x=d? a!->∃c,(du env.cells sc.names []).lookup x=d? c/\env.cells.lookup x=d? c:=λx e=>by
  show pq (R.cells x ((K x).trans (o.free (x,a!) (lookup_mem e) rfl))) λc a g Z=>?_;obtain⟨c',d⟩:=H_.mp (G5 (names:=sc.names) (acc:=[]) g (x? (lookup_mem e)));exact⟨c',d,s x c' d⟩
 show⟨?_,?_,?_,?_,D,?_,hh⟩
 ·obtain⟨m,q⟩:=z;show⟨m,q,λi x v n r p=>?_⟩;obtain⟨e,_⟩:=E9 n r;rw[t,e] at p;cases p
 ·intro i x v n r p;obtain⟨e,j,F,B⟩:=E9 n r;obtain⟨A,_⟩:=slot_of F;show fL (R.held j x v A (xN B) (x? ((K x).trans (o.free (x,a!) (lookup_mem e) rfl)))) λc J g d u=>bf (b x e) λc' l f=>?_;rw[g] at f;cases f;exact⟨c,J,l,d,u⟩
 ·intro x H;rw[t] at H;cases e:sc.names.lookup x using aaa with
  |none=>rw[e] at H;cases H
  |some k=>
   cases k using Ş with
   |free=>
    show bf (b x e) λc l f=>?_;obtain⟨_,_,a,w⟩:=R.cellsMut x c f;exact⟨c,a,l,w⟩
   |cell=>exact absurd rfl (o.cell _ (lookup_mem e))
   |_=>rw[e] at H;cases H
 ·intro x y c H I;exact R.apart x y c (s x c H) (s y c I)
 ·intro x c H;exact R.cellsMut x c (s x c H)
structure It (ι:ć) (s:y?) (I:e!) (ι':ć) (s':y?):Prop where
 same:bR s s'
 ext:ĉ ι ι'
 fresh:∀b,eN ι' b->eN ι b\/s.heap.get? b=none
 keep:∀b o,¬eN ι b->b≠I->s.heap.get? b=d? o->s'.heap.get? b=d? o
theorem It.step (c:It ι s I d s') (f:∃o,s'.heap.get? I=d? o) (g:bR s' S) (st:ą d s'.heap a S.heap):It ι s I a S where
 same:=c.same.trans g
 ext:=c.ext.trans st.ext
 fresh:=λb m=>by
  rcases st.fresh b m with m|n
  ·exact c.fresh b m
  ·by_cases M:eN ι b
   ·exact x? M
   ·show u? ?_;cases e:s.heap.get? b using aaa with
    |none=>rfl
    |some o=>
     by_cases h:b=I
     ·subst h;obtain⟨O,H⟩:=f;rw[n] at H;cases H
     ·rw[c.keep b o M h e] at n;cases n
 keep:=λb o M h e=>st.keep b o (λm=>by
  rcases c.fresh b m with m|n
  ·exact M m
  ·rw[e] at n;cases n) (c.keep b o M h e)
theorem It.but (c:It ι s I a s') (d:C=I\/s.heap.get? C=none) (f:bR s' S) (k:b9 C s'.heap S.heap):It ι s I a S where
 same:=c.same.trans f
 ext:=c.ext
 fresh:=c.fresh
 keep:=λb o m H e=>k b o (by
  rintro rfl;rcases d with h|h
  ·exact H h
  ·rw[h] at e;cases e) (c.keep b o m H e)
section
def iN (sc:t_) (nm:g? k!) (d:m?):g? k?->Ă->Hp->(D?->Hp->Prop)->Prop
 |[],_,H,P=>P j? H
 |[c],ρ,H,P=>TS sc nm d c ρ H (jg P)
 |_,_,_,_=>a_
theorem yP {P:D?->Hp->Prop} {K:D?->y?->Prop} (h:iN sc nm d i ρ H P)
  (o:cK sc env) (e:cJ A d) (S:SR w ι H s.heap) (R:LR ι s.heap env nm ρ) (T:∀b H' a s',P b H'->bR s s'->ą ι s.heap a s'.heap->SR w a H' s'.heap->K b s') :
  n! (j! pw w) A (forIn i j? λc r=>if r=j? then do let O <- ac1 c env (aaL c env);pure (ĝ O) else pure (ĝ r)) K E s:=by
 cases i using aab with
 |nil=>exact wpAny_tests_nil (T j? H ι s h (bR.refl s) (ą.refl _ _) S)
 |cons c r=>
  cases r using aab with
  |nil=>
   show wpAny_tests_one (h w A env ι s _ E o e S R ?_);intro b H' a s' q g st f;exact T b H' a s' q g st f
  |cons _ _=>exact h.elim
inductive VY (cx:Cx) (sc:t_) (d:m?) (elt:k?) (ifs:g? k?) (is_:g? m?) (chk:Hp->Prop) (Hl:m?) (xs:g? V) (Q:Hp->Prop) (w:u!) (ι:ć) (s:y?) (I:e!) (ι0:ć) (cenv:Ó) (x:V) (x':s?) (St:m?->Y!->Prop) (n:m?) (s':y?):Prop
 |mk (j:m?) (ρ':Ă) (H':Hp) (ι':ć):n=b? xs - j->j<=b? xs->cC is_ (iN (aB cx.sc sc) (az sc) d ifs) (λρ H P=>EV (aB cx.sc sc) (az sc) d elt ρ H P) chk Hl (xs.drop j) ρ' H' Q->
   It ι s I ι' s'->ĉ ι0 ι'->SR w ι' H' s'.heap->LR ι' s'.heap cenv (az sc) ρ'->VR ι' s'.heap x x'->¬eN ι' I->St j s'.heap->VY cx sc d elt ifs is_ chk Hl xs Q w ι s I ι0 cenv x x' St n s'
theorem Bi {chk:Hp->Prop} {St:m?->Y!->Prop} (Tn:gr chk x x' xs I St)
  (o:eS cx.sc sc) (hasg:∀(v:V) (ρ:Ă) (P:Ă->Prop),cA is v ρ P->SQ (aB cx.sc sc) (az sc) d (Ĝ tg) v ρ P)
  {R:s?->e!->Ž->y?->Prop} {Q:Hp->Prop}
  (aw:cK cx.sc env) (g:cJ A d) (S:SR w ι H s.heap) (L:LR ι s.heap env cx.nm ρ) (Rx:VR ι s.heap x x') (hm:¬eN ι I) (hI:974<=I) (hIc:∀x,env.cells.lookup x≠d? I) (hSt:St 0 s.heap)
  (h:cC is (iN (aB cx.sc sc) (az sc) d ifs) (λρ H P=>EV (aB cx.sc sc) (az sc) d elt ρ H P) chk (b? H) xs ((dW cx sc).map λo=>o.bind (look ρ)) (H++[ό []]) Q)
  (T:∀H3 ι3 s3 C D dx,Q H3->It ι s I ι3 s3->SR w ι3 H3 s3.heap->ι3[b? H]? = d? (D,dx)->s.heap.get? C=none->(∃m,s3.heap.Ns C m)->974<=C->¬eN ι3 C->R (n? D) C (.ok G_) s3) :
  n! (j! pw w) A (newList []) (λacc t=>n! (j! pw w) A (newFunctionEnv sc env.globals (du env.cells sc.names []) [] env.qual none T? (d? env)) (λcenv s₄=>
   abl (j! pw w) A (.compStart (.ListComp elt [⟨tg,it,ifs,0⟩] sc pos) 0 (n? I) acc {cenv with scope:=relabel sc env}) (R acc cenv.locals) s₄) E t) E s:=by
 show Ni λG k_=>pq (Tn.live _ _ hSt) λoI nI hoI Z=>k_<|U_ (wpAny_newFunctionEnv o.cell (by intro y hy;simp at hy) (λp a f=>?_) o.kind);dsimp only at a f ⊢;show fP (S.newList (xs:=[]) (vs:=([]:g? s?).toArray) (k:=0) ϫ) λY z rD=>?_;revert Y z rD a f;generalize hH2:s.heap.push {cls:=r? "list",dict:=none,data:=Z! ([]:g? s?).toArray}=B;intro a f Y z rD;have hC:B.objs.size=s.heap.objs.size+1:=by rw[<- hH2,aah]
 have kk:∀b o,B.get? b=d? o->p.get? b=d? o:=λb o e=>f.extBut b o (þ (b_ e)) (T_ _ e);have st2:ą (ι++[(s.heap.objs.size,s.heap.objs.size)]) B (ι++[(s.heap.objs.size,s.heap.objs.size)]) p:=ą.keeps kk;have S2:=Y.keeps kk;have L2:=(L.step S z).step Y st2;have F:s.heap.get? B.objs.size=none:=by
  cases e:s.heap.get? B.objs.size using aaa with
  |none=>rfl
  |some o'=>exact absurd (b_ e) (by rw[hC];exact œ.mpr (abO _))
 have hmC:¬eN (ι++[(s.heap.objs.size,s.heap.objs.size)]) B.objs.size:=λm=>absurd (Y.RY m) (İ _);have hiC:974<=B.objs.size:=Y.size;have Li:=LR.inner o aw L2 ⟨_,a⟩ hmC hiC;have bo:cK (aB cx.sc sc) (aai sc (du env.cells sc.names []) B.objs.size env):=by
  show⟨?_,o.kind,aw.globals,aw.builtins⟩;rw[<- aw.scope];rfl
 have hIC:I≠B.objs.size:=by rintro rfl;rw[F] at hoI;cases hoI
 have sound:∀x c,(du env.cells sc.names []).lookup x=d? c->env.cells.lookup x=d? c:=λx c e=>by
  rcases ox e with h|h
  ·simp at h
  ·exact h
 have hIcc:∀x,(aai sc (du env.cells sc.names []) B.objs.size env).cells.lookup x≠d? I:=λx e=>hIc x (sound x I e);have hDn:(ι++[(s.heap.objs.size,s.heap.objs.size)])[b? H]? = d? (s.heap.objs.size,s.heap.objs.size):=by rw[<- S.len];exact eg _ _
 have loop:∀t:y?,t= {s with heap:=p,toks:=s.toks+b? ([]:g? (k!×s?))}->
   St 0 t.heap/\abl (j! pw w) A (.compLoop (.ListComp elt [⟨tg,it,ifs,0⟩] sc pos) 0 (n? I) (n? s.heap.objs.size) (aai sc (du env.cells sc.names []) B.objs.size env))
    (R (n? s.heap.objs.size) B.objs.size) t:=by
  rintro t rfl;have c0:It ι s I (ι++[(s.heap.objs.size,s.heap.objs.size)]) {s with heap:=p,toks:=s.toks+b? ([]:g? (k!×s?))}:=
   ⟨⟨rfl,rfl⟩,z.ext.trans st2.ext,λb m=>z.fresh b m,λb o mb Z e=>kk b o (z.keep b o mb e)⟩
  have k1:∀o,s.heap.get? I=d? o->p.get? I=d? o:=λo e=>kk _ _ (z.keep I o hm e);have i:St 0 p:=Tn.frame _ _ _ hSt k1;show⟨i,?_⟩;have hmI:¬eN (ι++[(s.heap.objs.size,s.heap.objs.size)]) I:=λm=>by
   rcases c0.fresh I m with m|n
   ·exact hm m
   ·rw[hoI] at n;cases n
  show sQ (VY cx sc d elt ifs is chk (b? H) xs Q w ι s I (ι++[(s.heap.objs.size,s.heap.objs.size)]) (aai sc (du env.cells sc.names []) B.objs.size env) x x' St) ?_ (b? xs)
   (.mk 0 _ _ _ rfl (w_ _) h c0 (ĉ.refl _) S2 Li ((Rx.mono z.ext (z.tup S)).mono st2.ext (st2.tup Y)) hmI i)
  rintro n s1 ⟨j,ρ1,H1,X,rfl,hj,hf,cs1,ex1,Y,R1,Rx1,W,i⟩;have lv:=Tn.live _ _ i;cases hd:xs.drop j using aab with
  |nil=>
   have hjl:j=b? xs:=by
    have:=R? b? hd;simp at this;exact ny hj this
   subst hjl;rw[hd] at hf;obtain⟨hck,q⟩:=hf;show Tn.done w A X H1 s1 _ _ g.2.2 Y Rx1 hck W i (λh' tk kb=>?_);have R2:=R1.keepsBut kb hIC hIcc lv.fC;exact bf R2.ns λm hns Z=>T H1 X {s1 with heap:=h',toks:=tk} B.objs.size s.heap.objs.size s.heap.objs.size q (cs1.but (x? rfl) ⟨rfl,rfl⟩ kb) (Y.keepsBut kb hI W lv.fC) (ex1 _ _ hDn) F ⟨m,hns⟩ hiC R2.notMut
  |cons v r=>
   have hv:xs[j]? = d? v:=by
    have:=R? (λl=>l[0]?) hd
    simpa using this
   have hr:r=xs.drop (j+1):=by
    have:=R? adr hd
    simpa using this.symm
   have hlt:j<b? xs:=(i?.mp hv).1;rw[hd] at hf;obtain⟨hck,hf⟩:=hf;show Tn.item w A X H1 s1 _ _ j v g.2.2 Y Rx1 hck W hv i (λv' h' tk rv hSt2 kb=>?_);have S2:=Y.keepsBut kb hI W lv.fC;have R2:=R1.keepsBut kb hIC hIcc lv.fC;have cs2:It ι s I X {s1 with heap:=h',toks:=tk}:=cs1.but (x? rfl) ⟨rfl,rfl⟩ kb;show(Tn.live _ _ hSt2).go (s:={s1 with heap:=h',toks:=tk}) ?_;show hasg v ρ1 _ hf w A _ X H1 {s1 with heap:=h',toks:=tk} v' _ _ bo g S2 R2 (rv.mono (ĉ.refl _) (kb.tup lv.fC)) ?_;intro ρ3 s3 hf3 sm3 kb3 S3 R3;have cs3:=cs2.but (C:=B.objs.size) (u? F) sm3 kb3;have hSt3:=Tn.frame _ _ _ hSt2 (λo e=>kb3 I o hIC e);have O:∀{h:Y!} {j:m?},St j h->∃o,h.get? I=d? o:=λst=>let⟨o,_,ho,_⟩:=Tn.live _ _ st;⟨o,ho⟩
   have Rx3:VR X s3.heap x x':=(Rx1.mono (ĉ.refl _) (kb.tup lv.fC)).mono (ĉ.refl _) (kb3.tup (R2.Eg));show yP hf3 bo g S3 R3 ?_;intro b H4 ι4 s4 hf4 sm4 J S4;have cs4:=cs3.step (O hSt3) sm4 J;have nm4:∀{ιa ιb:ć} {ha hb:Y!},ą ιa ha ιb hb->¬eN ιa I->(∃o,ha.get? I=d? o)->¬eN ιb I:=λst nm ex m=>by
    rcases st.fresh I m with m|n
    ·exact nm m
    ·obtain⟨o,ho⟩:=ex;rw[ho] at n;cases n
   have m4:=nm4 J W (O hSt3);have N:=Tn.frame _ _ _ hSt3 (λo e=>J.keep I o W e);have R4:=R3.step S3 J;have Rx4:=Rx3.mono J.ext (J.tup S3);have ex4:=ex1.trans J.ext;cases b using so with
   |false=>
    exact⟨b? xs - (j+1),Ņ _ _ hlt,.mk (j+1) ρ3 H4 ι4 rfl hlt (hr▸kA.mp hf4) cs4 ex4 S4 R4 Rx4 m4 N⟩
   |true=>
    show kM.mp hf4 w A _ ι4 s4 _ _ bo g S4 R4 ?_;intro y H5 ι5 y' s5 hf5 sm5 K S5 R5y;have cs5:=cs4.step (O N) sm5 K;have m5:=nm4 K m4 (O N);have hSt5:=Tn.frame _ _ _ N (λo e=>K.keep I o m4 e);have R5:=R4.step S4 K;have Rx5:=Rx4.mono K.ext (K.tup S4);have ex5:=ex4.trans K.ext;have h5:yX d "list.append" [ϊ (b? H),y] H5 (λ(v:V) (H':Hp)=>v=ϖ/\cC is (iN (aB cx.sc sc) (az sc) d ifs) (λρ H P=>EV (aB cx.sc sc) (az sc) d elt ρ H P) chk (b? H) r ρ3 H' Q):=by
     exact bf (bw.mp hf5) λH' e q=>mH (bw.mpr ⟨H',e,rfl,q⟩)
    show h5 w A ι5 s5 _ _ _ g S5 (ϧ (.ref (ex5 _ _ hDn)) (ϧ R5y ϫ)) ?_;intro u H6 ι6 u' s6 q6 sm6 M S6 Z;have cs6:=cs5.step (O hSt5) sm6 M;have m6:=nm4 M m5 (O hSt5);have hSt6:=Tn.frame _ _ _ hSt5 (λo e=>M.keep I o m5 e);exact⟨b? xs - (j+1),Ņ _ _ hlt,.mk (j+1) ρ3 H6 ι6 rfl hlt (hr▸q6.2) cs6 (ex5.trans M.ext) S6 (R5.step S5 M) (Rx5.mono M.ext (M.tup S5)) m6 hSt6⟩
 obtain⟨hs0,hl⟩:=loop _ rfl;exact codeAny_compStart_list hl (Tn.self w A _ _ _ 0 g.2.2 hs0 hl)
end
def Vw (cx:Cx) (d:m?) (e:k?) (ρ:Ă) (H:Hp) (P:g? V->(Hp->Prop)->Hp->Prop):Prop:=
 ∀(w:u!) (A:D!) (env:Ó) (ι:ć) (s:y?) (K:s?->y?->Prop) (E:s?->y?->Prop),cK cx.sc env->cJ A d->SR w ι H s.heap->LR ι s.heap env cx.nm ρ->
  (∀(xs:g? V) (chk:Hp->Prop) (x:V) (X:s?) (I:e!) (b:m?->Y!->Prop) (h:Hp) (a:ć) (S:y?),P xs chk h->gr chk x X xs I b->bR s S->ą ι s.heap a S.heap->SR w a h S.heap->VR a S.heap x X->
   ¬eN a I->974<=I->s.heap.get? I=none->(∀y,env.cells.lookup y≠d? I)->b 0 S.heap->K (n? I) S)->
  n! (j! pw w) A (aaL e env) (λx S=>n! (j! pw w) A (pyIter x) K E S) E s
theorem lE {s S:y?} (f:SR w c H S.heap) (st:ą ι s.heap c S.heap) (h:S.heap.get? I=none):s.heap.get? I=none:=by
 cases e:s.heap.get? I using aaa with
 |none=>rfl
 |some O=>
  exfalso;by_cases a:eN ι I
  ·show pq a λn p g i=>?_;obtain⟨o,d⟩:=f.iq (b:=I) ⟨n,p,st.ext _ _ g,i⟩;rw[h] at d;cases d
  ·rw[st.keep _ _ a e] at h;cases h
section
theorem TB {d:m?} {ρ:Ă} {H:Hp} {cx:Cx} {e:k?} {P:g? V->(Hp->Prop)->Hp->Prop} (h:EV cx.sc cx.nm d e ρ H λx c=>∃xs,nX x xs c/\P xs (λH'=>aH H' x=d? xs/\ao H' x=ao c x) c):Vw cx d e ρ H P:=by
 intro w A env ι s K E O r S R T;show h w A env ι s _ E O r S R ?_;intro x c i X b q D st f R1;show bf q λxs j z=>j w A i b X _ E f R1 ?_;intro o t u l Z;have k:=dg b.heap o;have p:=R.step S st;have a:b.heap.get? b.heap.objs.size=none:=gK _;show T xs _ x X _ t c i {b with heap:=b.heap.push o} z u (D.trans ⟨rfl,rfl⟩) (st.trans (ą.keeps k)) (f.keeps k) (R1.mono (ĉ.refl _) (aP.of k)) ?_ f.size (lE f st a) ?_ l
 ·intro m;obtain⟨C,n⟩:=f.iq m;rw[a] at n;cases n
 ·intro y B;obtain⟨_,_,v,C,g,_⟩:=p.cellsMut y _ B;rw[a] at g;cases g
set_option tactic.hygienic true in
theorem Gm {d:m?} {ρ:Ă} {H:Hp} {cx:Cx} {p:ś} {a:k?} {I:ś} {P:g? V->(Hp->Prop)->Hp->Prop} (X:cx.glob f=d? (.blt "range")) (W:(f== ("__debug__":k!))=f?) (hs:Ć a=j?)
  (h:EV cx.sc cx.nm d a ρ H λx H=>match x with
   |ϋ k=>0<=k/\k<100000/\P ((l! k.toNat).map λ(j:m?)=>ϋ (j:C?)) (λZ=>ŀ) H
   |_=>a_):Vw cx d (.Call (x! f p) [a] [] I) ρ H P:=by
 intro w A env ι s K E O r S R T;show qE X W hs h O r S R ?_;intro x J B x' g q sm st u R1;cases x using ϔ<;>first|exact q.elim|skip
 rename_i k;show fP q λv Y hp=>?_;try clear q
 obtain⟨k,rfl⟩:=Ř v;obtain⟨_,e⟩:=VR.int_inv R1;subst e;rename_i t;show call_range_1<|aaY (a:=0) (b:=(k:C?)) (c:=1) (y! _ rfl) (Nf (by lia)) ?_;rw[I5];have k1:=dg g.heap {cls:=r? "range",data:=d! #[z? 0 g.toks,z? (k:C?) t,z? 1 (g.toks+1)]};have k2:=dg (g.heap.push {cls:=r? "range",data:=d! #[z? 0 g.toks,z? (k:C?) t,z? 1 (g.toks+1)]}) {cls:=r? "range_iterator",data:=d! #[ż 0,ż (k:C?),ż 1]};have C:∀b o,g.heap.get? b=d? o->_:=λb o e=>k2 b o (k1 b o e);have L:=R.step S st;have l:g.heap.objs.size<=(g.heap.push {cls:=r? "range",data:=d! #[z? 0 g.toks,z? (k:C?) t,z? 1 (g.toks+1)]}).objs.size:=by rw[aah];exact abO _
 have F:∀{b o},g.heap.get? b=d? o->b≠(g.heap.push {cls:=r? "range",data:=d! #[z? 0 g.toks,z? (k:C?) t,z? 1 (g.toks+1)]}).objs.size:=λe M=>by
  subst M;exact absurd (b_ e) (œ.mpr l)
 have i:g.heap.get? (g.heap.push {cls:=r? "range",data:=d! #[z? 0 g.toks,z? (k:C?) t,z? 1 (g.toks+1)]}).objs.size=none:=by
  cases e:g.heap.get? (g.heap.push {cls:=r? "range",data:=d! #[z? 0 g.toks,z? (k:C?) t,z? 1 (g.toks+1)]}).objs.size using aaa with
  |none=>rfl
  |some o=>exact absurd rfl (F e)
 show T _ _ ϖ T? _ _ J B _ hp (lX (n:=k)) (bR.trans sm (b:=g) ⟨rfl,rfl⟩) (st.trans (ą.keeps C)) (u.keeps C) .none ?_ (S? u.size l) (lE u st i) ?_ ?_
 ·intro m;obtain⟨o2,N⟩:=u.iq m;exact F N rfl
 ·intro y hy;obtain⟨_,_,D,o2,z,_⟩:=L.cellsMut y _ hy;exact F z rfl
 ·exact y! _ rfl
theorem It.toStep {s S f:y?} (st:ą ι s.heap a S.heap) (h:s.heap.get? I=none) (c:It a S I d f):ą ι s.heap d f.heap where
 ext:=st.ext.trans c.ext
 fresh:=λb m=>by
  rcases c.fresh b m with m|n
  ·exact st.fresh b m
  ·by_cases M:eN ι b
   ·exact x? M
   ·show u? ?_;cases e:s.heap.get? b using aaa with
    |none=>rfl
    |some o=>rw[st.keep b o M e] at n;cases n
 keep:=λb o M e=>c.keep b o (st.mut M e) (by rintro rfl;rw[h] at e;cases e) (st.keep b o M e)
theorem yA {d:m?} {ρ:Ă} {H:Hp} {cx:Cx} {sc:t_} {g Y t:k?} {j:g? k?} {N k:ś} {is:g? m?} {use:p? (s?->Sem ŝ)} {Q:V->Hp->Prop}
  (o:eS cx.sc sc) (i:∀(v:V) (ρ:Ă) (P:Ă->Prop),cA is v ρ P->SQ (aB cx.sc sc) (az sc) d (Ĝ Y) v ρ P) (hs:isSet t=f?)
  (h:Vw cx d t ρ H λxs chk l=>cC is (iN (aB cx.sc sc) (az sc) d j) (λρ H P=>EV (aB cx.sc sc) (az sc) d g ρ H P) chk (b? l) xs ((dW cx sc).map λo=>o.bind (look ρ)) (l++[ό []]) λH'=>Q (ϊ (b? l)) H')
  {A:D!} {env:Ó} {s:y?} {K:s?->y?->Prop} {E:s?->y?->Prop}
  (O:cK cx.sc env) (b:cJ A d) (S:SR w ι H s.heap) (L:LR ι s.heap env cx.nm ρ)
  (T:∀r n a f C D u,Q (ϊ r) n->bR s f->ą ι s.heap a f.heap->SR w a n f.heap->a[r]? = d? (D,u)->s.heap.get? C=none->(∃m,f.heap.Ns C m)->974<=C->¬eN a C->compPost (j! pw w) A E use K (n? D) C (.ok G_) f) :
  n! (j! pw w) A (comprehension (.ListComp g [⟨Y,t,j,0⟩] sc N) sc env k (newList []) f? (aaL t env) use) K E s:=by
 show wpAny_comprehension_free (cl:=du env.cells sc.names []) rfl (λx=>qF hs) (A7 λx hx=>?_) o.kind (λp M e=>e▸o.same p M) (h w A env ι s _ E O b S L ?_)
 ·obtain⟨c,_,hc,_⟩:=L.cells x (by rw[<- o.free _ hx rfl,<- O.scope];rfl);exact⟨c,hc⟩
 ·intro xs chk x x' I St l ι1 s1 M Tn sm st W R1 hm hI hf y z;show Bi Tn o i O b W (L.step S st) R1 hm hI y z M (R:=λacc C r s'=>compPost (j! pw w) A E use K acc C r s') ?_;intro n a f C D u q X S3 hD hC J B F;exact T _ n a f C D u q (sm.trans X.same) (X.toStep st hf) S3 hD (lE W st hC) J B F
theorem PB
  (o:eS cx.sc sc) (c:∀(v:V) (ρ:Ă) (P:Ă->Prop),cA is v ρ P->SQ (aB cx.sc sc) (az sc) d (Ĝ N) v ρ P) (B:isSet l=f?)
  (h:Vw cx d l ρ H λxs chk f=>cC is (iN (aB cx.sc sc) (az sc) d I) (λρ H P=>EV (aB cx.sc sc) (az sc) d g ρ H P) chk (b? f) xs ((dW cx sc).map λo=>o.bind (look ρ)) (f++[ό []]) λH'=>Q (ϊ (b? f)) H') :
  EV cx.sc cx.nm d (.ListComp g [⟨N,l,I,0⟩] sc F) ρ H Q:=by
 intro w A env ι s K E O R S L T;show yA (use:=none) o c B h O R S L ?_;intro r t k p C D W q J st u y x a i j;obtain⟨m,a⟩:=a;show⟨m,a,λh' sb=>?_⟩;have n:b9 C p.heap h':=λb o z e=>(sb.2 b z).trans e;show T _ t k _ {p with heap:=h'} q (J.trans ⟨rfl,rfl⟩) ⟨st.ext,st.fresh,λb o M e=>n b o (by rintro rfl;rw[x] at e;cases e) (st.keep b o M e)⟩ (u.keepsBut n i j (dp a)) (.ref y)
theorem xr {Q:Fl->Ă->Hp->Prop} (hn:cx.nm.Nodup) (hw:cx.eL y=d? i)
  (hsw:∀env,cK cx.sc env->abF (.ListComp l [⟨tg,it,I,0⟩] sc pos) (d? (x! y py)) J.line env=pure j?)
  (o:eS cx.sc sc) (u:∀(v:V) (ρ:Ă) (P:Ă->Prop),cA is v ρ P->SQ (aB cx.sc sc) (az sc) d (Ĝ tg) v ρ P) (hs:isSet it=f?)
  (h:Vw cx d it ρ H λxs chk N=>cC is (iN (aB cx.sc sc) (az sc) d I) (λρ H P=>EV (aB cx.sc sc) (az sc) d l ρ H P) chk (b? N) xs ((dW cx sc).map λo=>o.bind (look ρ)) (N++[ό []]) λH'=>Q ϒ (put (ϊ (b? N)) ρ i) H') :
  ST cx.sc cx.nm d (Λ (.Assign [x! y py] (.ListComp l [⟨tg,it,I,0⟩] sc pos) J)) ρ H Q:=by
 intro w A env ι s K E O R S L T;rw[exec_Assign_Name_used _ _ _ _ (hsw env O)];show l? (q! (l? ?_));show l? (ł (yA (use:=d? (Ĝ (x! y py) env)) (Q:=λv H'=>Q ϒ (put v ρ i) H') (K:=λZ s'=>K G_ s') o u hs h O R S L ?_) (λZ s' hq=>v? (v? hq)) λZ Z e=>e);intro r H3 ι3 s3 C D dx q sm st S3 hD Y a hiC z;obtain⟨m,a⟩:=a;have L3:=L.step S st;have p:C≠env.locals:=by
  rintro rfl;obtain⟨m,F,_⟩:=L.ns;show Hv F λo2 X W f Z=>?_;rw[Y] at f;cases f
 have t:∀x,env.cells.lookup x≠d? C:=λx hx=>by
  obtain⟨_,_,v₀,o2,f,_⟩:=L.cellsMut x _ hx;rw[Y] at f;cases f
 show qj (d:=d) hn hw (Q:=λk H'=>Q ϒ k H') q w A env ι3 s3 _ _ E O R S3 L3 (.ref hD) ?_;intro k H' M s4 q4 sm4 g S4 L4;have B:¬eN M C:=λmm=>by
  rcases g.fresh C mm with mm|n
  ·exact z mm
  ·obtain⟨o,X,W,ho,_⟩:=a;rw[ho] at n;cases n
 have c:s4.heap.Ns C m:=by
  exact Hv a λo X W ho r=>⟨o,X,W,g.keep C o z p t ho,r⟩
 show⟨m,c,λh' sb=>?_⟩;have kb:b9 C s4.heap h':=λb o hb e=>(sb.2 b hb).trans e;have j:=cg.trans st.toF L3 g;show T ϒ k H' M G_ {s4 with heap:=h'} q4 ((sm.trans sm4).trans ⟨rfl,rfl⟩) ⟨j.ext,j.fresh,λb o mb hl hc e=>kb b o (by rintro rfl;rw[Y] at e;cases e) (j.keep b o mb hl hc e)⟩ (S4.keepsBut kb hiC B (dp c)) (L4.keepsBut kb p t (dp c)) trivial
end
section
theorem gI {Q b:g? V->Hp->Prop} (x:CJ sc nm d e ρ H Q) (h:∀v H',Q v H'->b v H'):CJ sc nm d e ρ H b:=
 λw A env ι s p K E o r S R T=>x w A env ι s p K E o r S R (λv H' a c s' q=>T v H' a c s' (h v H' q))
theorem xH {Q b:g? V->Hp->Prop} (x:T3 sc nm d ks l e ρ H Q) (h:∀v H',Q v H'->b v H'):T3 sc nm d ks l e ρ H b:=
 λw A env ι s p K E o r S R T=>x w A env ι s p K E o r S R (λv H' a ps s' q=>T v H' a ps s' (h v H' q))
theorem mw {b:Type} {o:p? b} {P p:b->Prop} (x:ok o P) (h:∀a,P a->p a):ok o p:=by
 rcases x with⟨x⟩
 exact .mk (h _ x)
theorem MZ {b:Type} {o:p? b} {P p:b->Prop} (x:Aq o P) (h:∀a,P a->p a):Aq o p:=by
 cases o using aaa with
 |none=>exact x.elim
 |some a=>exact h a x
theorem NB {A B a b:ŝ->Prop} (x:dG t A B) (h:A ()->a ()) (k:B ()->b ()):dG t a b:=by
 cases t using so with
 |false=>exact k x
 |true=>exact h x
theorem eI {Q q:D?->Hp->Prop} (h:∀b H,Q b H->q b H) (v:V) (H:Hp) (x:jg Q v H):jg q v H:=by
 cases v using ϔ<;>first|exact h _ _ x|exact x.elim
theorem wF {t:Ó->Sem acv} {Q c:Fl->Ă->Hp->Prop} (x:ST sc nm d t ρ H Q) (h:∀f ρ H,Q f ρ H->c f ρ H):ST sc nm d t ρ H c:=
 λw A env ι s K E o r S R T=>x w A env ι s K E o r S R (λf a H' b F s' q=>T f a H' b F s' (h f a H' q))
theorem QK {t:Ó->s?->Sem ŝ} {Q c:Ă->Hp->Prop} (x:AS sc nm d t v ρ H Q) (h:∀ρ H,Q ρ H->c ρ H):AS sc nm d t v ρ H c:=
 λw A env ι s f K E o r S R e T=>x w A env ι s f K E o r S R e (λa H' b s' q=>T a H' b s' (h a H' q))
theorem EZ {P p:Ă->Prop} (x:aT is v ρ P) (h:∀ρ,P ρ->p ρ):aT is v ρ p:=by
 cases v using ϔ with
 |tup l=>
  by_cases H:b? l=b? is
  ·exact Eq.mpr (P? H) (h _ (aci (P? H) x))
  ·exact x_ (aci (E? H) x)
 |_=>exact x_ x
theorem v3 {P p:Ă->Prop} (x:cA t v ρ P) (h:∀ρ,P ρ->p ρ):cA t v ρ p:=by
 cases t using aab with
 |nil=>exact EZ x h
 |cons i r=>
  cases r using aab with
  |nil=>exact h _ x
  |cons j r=>exact EZ (is:=i::j::r) x h
theorem AI {c c':Ă->Hp->(D?->Hp->Prop)->Prop} {e d:Ă->Hp->(V->Hp->Prop)->Prop} {chk:Hp->Prop}
  (k:∀ρ H P p,(∀b H,P b H->p b H)->c ρ H P->c' ρ H p) (l:∀ρ H P p,(∀b H,P b H->p b H)->e ρ H P->d ρ H p) {Q:Hp->Prop}:∀{xs:g? V} {ρ:Ă} {H:Hp},cC t c e chk r xs ρ H Q->cC t c' d chk r xs ρ H Q:=by
 intro L;induction L with
 |nil=>
  rintro _ _ h;exact h
 |cons x xs i=>
  rintro ρ H h;show⟨h.1,v3 h.2 λm f=>k _ _ _ _ (λb n a=>?_) f⟩;exact NB a (λa=>l _ _ _ _ (λv o g=>mw g λq j=>i j) a) λa=>i a
theorem Gh {st s:Ă->Hp->(Fl->Ă->Hp->Prop)->Prop} {as a:V->Ă->Hp->(Ă->Hp->Prop)->Prop} {chk:Hp->Prop}
  (e:∀ρ H P p,(∀f ρ H,P f ρ H->p f ρ H)->st ρ H P->s ρ H p) (d:∀v ρ H P p,(∀ρ H,P ρ H->p ρ H)->as v ρ H P->a v ρ H p) {Q:Fl->Ă->Hp->Prop}:∀{xs:g? V} {ρ:Ă} {H:Hp},bG st as chk xs ρ H Q->bG s a chk xs ρ H Q:=by
 intro l;induction l with
 |nil=>
  rintro _ _ h;exact h
 |cons x xs i=>
  rintro ρ H h;show⟨h.1,d _ _ _ _ _ (λg k c=>e _ _ _ _ (λf j m b=>?_) c) h.2⟩;cases f using ϸ with
  |next=>exact i b
  |cont=>exact i b
  |brk=>exact b
  |ret v=>exact b
theorem mZ (h:aH H x=d? xs):nX x xs H:=by
 cases x using ϔ with
 |tup l=>exact jf h λZ e=>e▸I6
 |ref n=>
  rcases hZ h with⟨ys,e,a⟩| ⟨_,_,a⟩| ⟨_,_,a⟩| ⟨kvs,e,a⟩
  ·exact jf a λZ b=>b▸G6 e
  ·exact nS a
  ·exact nS a
  ·exact jf a λZ b=>b▸F4 e
 |_=>exact nS h
end
theorem WM {k:p? k?} {P:Prop} (h:keyOf k=d? s) (q:∀a b,k=d? (.Constant (.str s) a b)->P):P:=
 Qc h λe d h=>by
  cases e using oq with
  |hit c a b=>cases c using Ŋ<;>first|exact nS h|(obtain rfl:=z! h;exact q _ _ d)
  |bt e n=>exact nS ((A_ n).symm.trans h)
def lF (d n:m?):Prop:=∀(cx:Cx) (e:k?) (m:D?) (ρ:Ă) (H:Hp) (Q:V->Hp->Prop),bh Ā d m (comp n cx e) ρ H Q->uj m cx.sc cx.nm d e ρ H Q
section
variable (ih:lF d n)
include ih
theorem nh:∀{b:g? k?} (a:b.all Ć=j?) {ρ:Ă} {H:Hp} {Q:g? V->Hp->Prop},i7 Ā d (gL (b.map (comp n cx))) ρ H Q->CJ cx.sc cx.nm d b ρ H λvs H=>b? vs=b? b/\Q vs H:=by
 intro l;induction l with
 |nil=>
  rintro a ρ H Q h;exact jL ⟨rfl,h⟩
 |cons e r i=>
  rintro a ρ H Q h;simp only[Ŏ,Y?] at a;exact gP a.1 (EV.mono (ih cx e f? ρ H _ h) λv H' h'=>gI (i a.2 h') λvs c q=>⟨by simp[q.1],q.2⟩)
set_option tactic.hygienic true in
theorem TX:∀{ks:g? (p? k?)} {l:g? k!} {c:g? k?} (f:ċ ks=d? l) (g:b? l=b? c) {ρ:Ă} {H:Hp} {Q:g? V->Hp->Prop},i7 Ā d (gL (c.map (comp n cx))) ρ H Q->T3 cx.sc cx.nm d ks l c ρ H λvs H=>b? vs=b? l/\Q vs H:=by
 intro L;induction L with
 |nil=>
  rintro l c f g ρ H Q h;obtain rfl:=z! f;cases c using aab with
  |nil=>exact Ql ⟨rfl,h⟩
  |cons _ _=>simp at g
 |cons k r i=>
  rintro l c f g ρ H Q h;show Qc f λs t f=>bf (K!.mp f) λu p m=>?_;subst m;show WM t λa b o=>?_;subst o;cases c using aab with
  |nil=>simp at g
  |cons e c=>
   exact LU (EV.mono (ih cx e f? ρ H _ h) λv H' h'=>xH (i p (by simpa using g) h') λvs j q=>⟨by simp[q.1],q.2⟩)
theorem xM:∀{vs:g? k?} {ρ:Ă} {H:Hp} {Q:V->Hp->Prop},bh Ā d f? (p8 (vs.map (comp n cx))) ρ H Q->VC cx.sc cx.nm d (λenv=>ace p .And (î vs env)) ρ H Q
 |[],ρ,H,Q,h=>x_ h
 |[a],ρ,H,Q,h=>ih cx a f? ρ H Q h
 |a::b::r,ρ,H,Q,h=>by
  show zk (EV.mono (ih cx a f? ρ H _ h) λv H' h'=>mw h' λt c=>?_);cases t using so with
  |true=>exact xM (vs:=b::r) (kM.mp c)
  |false=>exact kA.mp c
theorem EJ:∀{vs:g? k?} {ρ:Ă} {H:Hp} {Q:V->Hp->Prop},bh Ā d f? (vt (vs.map (comp n cx))) ρ H Q->VC cx.sc cx.nm d (λenv=>ace p .Or (î vs env)) ρ H Q
 |[],ρ,H,Q,h=>x_ h
 |[a],ρ,H,Q,h=>ih cx a f? ρ H Q h
 |a::b::r,ρ,H,Q,h=>by
  show Cb (EV.mono (ih cx a f? ρ H _ h) λv H' h'=>mw h' λt c=>?_);cases t using so with
  |true=>exact kM.mp c
  |false=>exact EJ (vs:=b::r) (kA.mp c)
omit ih in
theorem DR {sc:t_} {nm:g? k!} {op:BoolOp} {ρ:Ă} {H:Hp} {Q:V->Hp->Prop} (q:Q (ϑ (op== .And)) H):ON sc nm d (λenv=>aao op [] env) ρ H Q:=
 λw A env ι s K E o r S R T=>v? (T _ H ι s q (bR.refl s) (ą.refl _ _) S)
omit ih in
theorem LY {sc:t_} {nm:g? k!} {t:Ó->Sem D?} {ρ:Ă} {H:Hp} {Q:V->Hp->Prop} (x:ON sc nm d t ρ H Q):ON sc nm d t ρ H (jg λb H=>Q (ϑ b) H):=
 λw A env ι s K E o r S R T=>x w A env ι s K E o r S R (λv H' a s' q=>T v H' a s' q)
theorem uT:∀{vs:g? k?} {ρ:Ă} {H:Hp} {Q:V->Hp->Prop},bh Ā d j? (p8 (vs.map (comp n cx))) ρ H Q->ON cx.sc cx.nm d (λenv=>aao .And vs env) ρ H Q
 |[],ρ,H,Q,h=>x_ h
 |[a],ρ,H,Q,h=>by
  show DC (fT (LY (ih cx a j? ρ H Q h)) (eI λt H' h'=>?_));cases t using so with
  |true=>exact DR h'
  |false=>exact h'
 |a::b::r,ρ,H,Q,h=>by
  show DC (fT (ih cx a j? ρ H _ h) (eI λt H' h'=>?_));cases t using so with
  |true=>exact uT (vs:=b::r) (kM.mp h')
  |false=>exact kA.mp h'
theorem zd:∀{vs:g? k?} {ρ:Ă} {H:Hp} {Q:V->Hp->Prop},bh Ā d j? (vt (vs.map (comp n cx))) ρ H Q->ON cx.sc cx.nm d (λenv=>aao .Or vs env) ρ H Q
 |[],ρ,H,Q,h=>x_ h
 |[a],ρ,H,Q,h=>by
  show JK (fT (LY (ih cx a j? ρ H Q h)) (eI λt H' h'=>?_));cases t using so with
  |true=>exact h'
  |false=>exact DR h'
 |a::b::r,ρ,H,Q,h=>by
  show JK (fT (ih cx a j? ρ H _ h) (eI λt H' h'=>?_));cases t using so with
  |true=>exact kM.mp h'
  |false=>exact zd (vs:=b::r) (kA.mp h')
end
def wz (d n:m?):Prop:=∀(cx:Cx) (i:g? k?) (ρ:Ă) (H:Hp) (P:D?->Hp->Prop),bh Ā d j? (oL n cx i) ρ H (jg P)->iN cx.sc cx.nm d i ρ H P
theorem Be {sc:t_} {nm:g? k!} {d:m?} {i:g? k?} {ρ:Ă} {H:Hp} {P p:D?->Hp->Prop} (x:iN sc nm d i ρ H P) (h:∀b H,P b H->p b H):iN sc nm d i ρ H p:=by
 cases i using aab with
 |nil=>exact h _ _ x
 |cons c r=>
  cases r using aab with
  |nil=>exact fT x (eI h)
  |cons _ _=>exact x.elim
theorem yN {d n:m?} (I:lF d n):wz d (n+1):=by
 intro cx i ρ H P h;cases i using aab with
 |nil=>exact h
 |cons c r=>
  cases r using aab with
  |nil=>exact I cx c j? ρ H _ h
  |cons _ _=>exact h.elim
theorem mP {cx:Cx} {f:k!} {k:GK} (h:cx.glob f=d? k):(f== ("__debug__":k!))=f?:=by
 cases e:f== ("__debug__":k!) using so with
 |false=>rfl
 |true=>
  rw[U?.mp e] at h;rcases Vv h with⟨_,h⟩| ⟨_,h⟩| ⟨_,h⟩| ⟨_,h⟩
  ·exact nS h
  ·exact nS h
  ·exact nS h
  ·rw[show G.lookup ("__debug__":k!)=e? from by decide+kernel] at h;exact nS h
theorem JQ {d:m?} {cx:Cx} {t:k?} {is:g? m?} (b:cx.nm.Nodup) (h:jH cx t=d? is) (v:V) (ρ:Ă) (P:Ă->Prop) (q:cA is v ρ P):SQ cx.sc cx.nm d (Ĝ t) v ρ P:=by
 cases t using BR with
 |hit j k p=>
  exact VL h λH a=>PO b a (t?.mp H).2 (F_ (t?.mp H).1) q
 |bt t N=>
 replace h:=(show jH cx t=_ from A_ N).symm.trans h;cases t using uy with
 |hit x p=>
  show VL h λH a=>rd a λX m i l E c f e=>?_;cases f;cases E;clear h;subst e;exact xV b c (U?.mp (t?.mp H).1) q
 |bt t g=>exact nS ((A_ g).symm.trans h)
theorem DO {d n:m?} {m:D?} {cx:Cx} {i:k?} {ρ:Ă} {H:Hp} {Q:V->Hp->Prop} (h:bh Ā d m (comp n cx i) ρ H Q):isSet i=f?:=by
 cases i using Yu with
 |hit=>cases n using aac<;>exact h.elim
 |bt e n=>exact A_ n
theorem yH {d n:m?} {m:D?} {cx:Cx} {i:k?} {ρ:Ă} {H:Hp} {Q:V->Hp->Prop} (h:bh Ā d m (comp n cx i) ρ H Q):Ć i=j?:=by
 cases i using Mt with
 |hit=>cases n using aac<;>exact h.elim
 |bt e n=>exact A_ n
theorem oe {e:k?} (h:isName e=j?):∃y p,e=x! y p:=by
 cases e using uy with
 |hit x p=>exact⟨_,_,rfl⟩
 |bt e n=>exact nB ((show isName e=_ from A_ n).symm.trans h)
theorem xm {f:Type} {c:Prop} [ů c] {a:p? f} {b:f} (h:(if c then a else e?)=d? b):c/\a=d? b:=by
 by_cases H:c
 ·exact⟨H,(P? H).symm.trans h⟩
 ·exact absurd ((E? H).symm.trans h) (λe=>by cases e)
theorem kz {cx:Cx} {I a:k?} (h:eH cx I=d? a):∃f F i,I= .Call (x! f F) [a] [] i/\cx.glob f=d? (.blt "range"):=by
 have K:∀{e:k?},eH cx e=d? a->∃f as ks i,e= .Call f as ks i:=λ{e} h=>by
  cases e using VJ with
  |hit f as ks i=>exact⟨_,_,_,_,rfl⟩
  |bt e n=>exact nS ((show eH cx e=_ from A_ n).symm.trans h)
 show Zh (K h) λf as ks i Q=>?_;subst Q;clear K;obtain⟨l,h⟩:=xm (c:=isName f=j?) h;show zp (oe l) λy F q=>?_;subst q;cases as using aab with
 |nil=>cases h
 |cons b r=>
  obtain⟨H,h⟩:=xm (c:=(r.isEmpty&&(ks.isEmpty&&DW (cx.glob y)))=j?) h;cases h;obtain⟨g,H⟩:=t?.mp H;obtain⟨j,H⟩:=t?.mp H;cases ó.mp g;clear h g;cases ó.mp j;show⟨y,F,i,rfl,?_⟩;cases e:cx.glob y using aaa with
  |none=>rw[e] at H;exact(O? H).elim
  |some k=>rw[e] at H;cases k using GK.casesOn<;>first|exact(O? H).elim|rw[U?.mp H]
structure AB (d:m?) (m:D?) (cx:Cx) (elt tg it:k?) (ifs:g? k?) (sc:t_) (ρ:Ă) (H:Hp) (Q:V->Hp->Prop):Prop where
 okc:eS cx.sc sc
 set:isSet it=f?
 run:∃is,(∀(v:V) (ρ:Ă) (P:Ă->Prop),cA is v ρ P->SQ (aB cx.sc sc) (az sc) d (Ĝ tg) v ρ P)/\
  Vw cx d it ρ H λxs chk H1=>cC is (iN (aB cx.sc sc) (az sc) d ifs) (λρ H P=>EV (aB cx.sc sc) (az sc) d elt ρ H P) chk (b? H1) xs ((dW cx sc).map λo=>o.bind (look ρ)) (H1++[ό []]) λH'=>fin m (ϊ (b? H1)) H' Q
section
variable {d n:m?} (ih:lF d n) (ihC:wz d n)
include ih ihC
theorem turns {cx:Cx} {sc:t_} {e:k?} {i:g? k?} {is:g? m?} {chk:Hp->Prop} {r:m?} {xs:g? V} {ρ:Ă} {H:Hp} {Q:Hp->Prop}
  (h:cC is (λρ H Q=>bh Ā d j? (oL n ⟨aB cx.sc sc,az sc⟩ i) ρ H (jg Q)) (bh Ā d f? (comp n ⟨aB cx.sc sc,az sc⟩ e)) chk r xs ρ H Q) :
  cC is (iN (aB cx.sc sc) (az sc) d i) (λρ H P=>EV (aB cx.sc sc) (az sc) d e ρ H P) chk r xs ρ H Q:=
 AI (λρ H P p a h=>Be (ihC ⟨aB cx.sc sc,az sc⟩ i ρ H P h) a) (λρ H P p a h=>EV.mono (ih ⟨aB cx.sc sc,az sc⟩ e f? ρ H P h) a) h
theorem vW {cx:Cx} {E t I:k?} {i:g? k?} {sc:t_} {m:D?} {is:g? m?} {ρ:Ă} {H:Hp} {Q:V->Hp->Prop} (c:qr cx.sc sc=j?) (b:jH ⟨aB cx.sc sc,az sc⟩ t=d? is)
  (h:bh Ā d m (ϵ (dW cx sc) is (comp n ⟨aB cx.sc sc,az sc⟩ E) (comp n cx I) (oL n ⟨aB cx.sc sc,az sc⟩ i)) ρ H Q):AB d m cx E t I i sc ρ H Q:=by
 have o:=eS.of c;have h':bh Ā d f? (comp n cx I) ρ H λx H=>ok (aH H x) λxs=>cC is (λρ H Q=>bh Ā d j? (oL n ⟨aB cx.sc sc,az sc⟩ i) ρ H (jg Q)) (bh Ā d f? (comp n ⟨aB cx.sc sc,az sc⟩ E)) (λH'=>aH H' x=d? xs/\ao H' x=ao H x) (b? H) xs ((dW cx sc).map λo=>o.bind (look ρ)) (H++[ό []]) λH'=>fin m (ϊ (b? H)) H' Q:=h;show⟨o,DO h',is,JQ (cx:=⟨aB cx.sc sc,az sc⟩) o.nodup b,TB (EV.mono (ih cx I f? ρ H _ h') λx f a=>?_)⟩;exact bf (bw.mp a) λxs e a=>⟨xs,mZ e,turns ih ihC a⟩
theorem xp {cx:Cx} {e t a:k?} {f:k!} {F I:ś} {i:g? k?} {sc:t_} {m:D?} {is:g? m?} {ρ:Ă} {H:Hp} {Q:V->Hp->Prop} (l:qr cx.sc sc=j?) (g:jH ⟨aB cx.sc sc,az sc⟩ t=d? is) (c:cx.glob f=d? (.blt "range"))
  (h:bh Ā d m (.compR (dW cx sc) is (comp n ⟨aB cx.sc sc,az sc⟩ e) (comp n cx a) (oL n ⟨aB cx.sc sc,az sc⟩ i)) ρ H Q):AB d m cx e t (.Call (x! f F) [a] [] I) i sc ρ H Q:=by
 have o:=eS.of l;have h':bh Ā d f? (comp n cx a) ρ H λx H=>match x with
   |ϋ k=>0<=k/\k<100000/\cC is (λρ H Q=>bh Ā d j? (oL n ⟨aB cx.sc sc,az sc⟩ i) ρ H (jg Q)) (bh Ā d f? (comp n ⟨aB cx.sc sc,az sc⟩ e)) (λZ=>ŀ) (b? H) ((l! k.toNat).map λ(j:m?)=>ϋ (j:C?)) ((dW cx sc).map λo=>o.bind (look ρ)) (H++[ό []]) λH'=>fin m (ϊ (b? H)) H' Q
   |_=>a_:=h
 show⟨o,rfl,is,JQ (cx:=⟨aB cx.sc sc,az sc⟩) o.nodup g,Gm c (mP c) (yH h') (EV.mono (ih cx a f? ρ H _ h') λx p b=>?_)⟩;cases x using ϔ<;>first|exact b.elim|skip
 exact⟨b.1,b.2.1,turns ih ihC b.2.2⟩
set_option tactic.hygienic true in
theorem uN {cx:Cx} {e:k?} {g:g? Ō} {sc:t_} {m:D?} {ρ:Ă} {H:Hp} {Q:V->Hp->Prop} (h:bh Ā d m (BH (comp n) (oL n) cx e g sc) ρ H Q):∃t I i,g=[⟨t,I,i,0⟩]/\AB d m cx e t I i sc ρ H Q:=by
 rcases g with _| ⟨⟨t,I,i,a⟩,_| ⟨_,_⟩⟩
 ·exact h.elim
 ·unfold BH at h;dsimp only at h;split at h
  ·rename_i c;obtain⟨rfl,c⟩:=c;show⟨t,I,i,rfl,?_⟩;cases b:jH ⟨aB cx.sc sc,az sc⟩ t using aaa with
   |none=>rw[b] at h;exact h.elim
   |some is=>
    rw[b] at h;cases j:eH cx I using aaa with
    |none=>rw[j] at h;exact vW ih ihC c b h
    |some a=>
     rw[j] at h;show Hv (kz j) λf F l q k=>?_;clear j;subst q;exact xp ih ihC c b k h
  ·exact h.elim
 ·exact h.elim
end
theorem i3 {m:D?} {c:Prop} [ů c] {a b:ME} {Q:V->Hp->Prop} {P:Prop} (h:bh Ā d m (if c then a else b) ρ H Q) (k:c->bh Ā d m a ρ H Q->P) (l:¬c->bh Ā d m b ρ H Q->P):P:=by
 by_cases f:c
 ·exact k f (aci (R? (λe=>bh Ā d m e ρ H Q) (P? f)) h)
 ·exact l f (aci (R? (λe=>bh Ā d m e ρ H Q) (E? f)) h)
section
variable (ih:lF d n)
include ih
set_option tactic.hygienic true in
theorem GG (o:ks≠[]) (c:ċ ks=d? l) (f:b? l=b? vs/\b? l<=15)
  (h:bh Ā d m (.dictS l (gL (vs.map (comp n cx)))) ρ H Q):uj m cx.sc cx.nm d (.Dict ks vs P) ρ H Q:=by
 have e:∀{ks:g? (p? k?)} {l:g? k!},ċ ks=d? l->ks.all (λZ=>Z.isSome)=j?/\b? ks=b? l:=by
  intro ks;induction ks with
  |nil=>intro l h;obtain rfl:=z! h;exact⟨rfl,rfl⟩
  |cons k r i=>
   intro l c;show Qc c λs t c=>bf (K!.mp c) λL p g=>?_;subst g;show WM t λa b j=>?_;subst j;obtain⟨a,b⟩:=i p;exact⟨by simp[a],by simp[b]⟩
 obtain⟨u,K⟩:=e c;exact bc (λZ=>rfl) (M7 u (K.trans f.1) o (K▸f.2) (xH (TX ih c f.1 h) λvs H' q=>⟨q.2.1,q.1,q.2.2⟩))
theorem jQ (j:(A.endLine== p.line)=j?) (g:eE o=f?) (a:e.all Ć=j?) (i:b? e<20)
  (h:bh Ā d m (.meth (comp n cx o) M (gL (e.map (comp n cx)))) ρ H Q):uj m cx.sc cx.nm d (.Call (.Attribute o M A) e [] p) ρ H Q:=
 bc (λZ=>rfl) (Qp g a i j (EV.mono (ih cx o f? ρ H _ h) λv H' h'=>mw h' λc h'=>mw h' λf h'=>⟨h'.1,gI (nh ih a h'.2) λvs b q=>q.2⟩))
theorem ja {d:m?} {cx:Cx} {p P:ś} {x:k?} {b:Q_} {m:D?} {Q:V->Hp->Prop} (a:cx.glob f=d? (.blt b)) (c:Ć x=j?) (h:EV cx.sc cx.nm d x ρ H λv H=>oJ d b v H λv H=>fin m v H Q):uj m cx.sc cx.nm d (.Call (x! f p) [x] [] P) ρ H Q:=
 bc (λZ=>rfl) (Um a (mP a) c h)
theorem CZ {d:m?} {c:Const} {p:ś} {cx:Cx} {m:D?} {Q:V->Hp->Prop} (h:bh Ā d m (uq c) ρ H Q):uj m cx.sc cx.nm d (.Constant c k p) ρ H Q:=by
 cases c using Ŋ with
 |none=>exact bc (λZ=>rfl) (QI h)
 |bool b=>exact bc (λZ=>rfl) (PE (by cases m using so;exact h;exact .mk h))
 |int i=>exact bc (λZ=>rfl) (Ts h)
 |str s=>exact bc (λZ=>rfl) (Uv h)
 |_=>exact h.elim
set_option tactic.hygienic true in
theorem Fp (h:bh Ā d m (zf cx x) ρ H Q):uj m cx.sc cx.nm d (x! x p) ρ H Q:=by
 show i3 h (λZ h=>x_ h) λg h=>?_;obtain⟨a,b⟩:=Į.mp (W_.mpr g);cases e:cx.slot x using aaa with
 |some i=>
  rw[e] at h;exact bf (xC.mp h) λv f q=>bc (λZ=>rfl) (MH e f a b q)
 |none=>
  rw[e] at h;cases c:cx.glob x using aaa with
  |none=>rw[c] at h;exact h.elim
  |some k=>
   rw[c] at h;cases k using GK.casesOn with
   |val v=>exact bc (λZ=>rfl) (V2 c a h)
   |_=>exact h.elim
theorem JO {d:m?} {x:k?} {p:ś} {cx:Cx} {m:D?} {Q:V->Hp->Prop} (h:bh Ā d m (xf x) ρ H Q):uj m cx.sc cx.nm d (.UnaryOp .USub x p) ρ H Q:=by
 cases x using oq with
 |hit c k q=>
  cases c using Ŋ with
  |int i=>exact bc (λZ=>rfl) (Vj h)
  |_=>exact h.elim
 |bt e n=>rw[show xf e=ϟ from A_ n] at h;exact h.elim
theorem Pg (h:bh Ā d m (JY (comp n cx) x op) ρ H Q):uj m cx.sc cx.nm d (.UnaryOp op x p) ρ H Q:=by
 cases op using Ξ with
 |USub=>exact JO ih h
 |Not=>
  cases m using so with
  |false=>exact Uq (ih cx x f? ρ H _ h)
  |true=>exact T6 (ih cx x j? ρ H _ h)
 |_=>exact h.elim
theorem Fn (h:bh Ā d m (zJ (vs.map (comp n cx)) op) ρ H Q):uj m cx.sc cx.nm d (.BoolOp op vs p) ρ H Q:=by
 cases op using adi with
 |And=>cases m using so with
  |false=>exact xM ih h
  |true=>exact uT ih h
 |Or=>cases m using so with
  |false=>exact EJ ih h
  |true=>exact zd ih h
set_option tactic.hygienic true in
theorem Lf (h:bh Ā d m (Dn (comp n cx) l o rs) ρ H Q):uj m cx.sc cx.nm d (.Compare l o rs p) ρ H Q:=by
 rcases o with _| ⟨op,_| ⟨_,_⟩⟩
 ·exact h.elim
 ·rcases rs with _| ⟨r,_| ⟨_,_⟩⟩
  ·exact h.elim
  ·show i3 h (λZ h=>x_ h) λk h=>?_;have a:â op r=f?:=W_.mpr k;cases m using so with
   |false=>exact Vm a (EV.mono (ih cx l f? ρ H _ h) λx c g=>EV.mono (ih cx r f? ρ c _ g) λy j i=>
     λw A ι s X Y K E R S e f T=>uw i w A ι s X Y K E R S e f λb t q=>T _ j ι _ _ q ⟨rfl,rfl⟩ (ą.refl _ _) S (.bool b))
   |true=>exact UN a (EV.mono (ih cx l f? ρ H _ h) λx c g=>EV.mono (ih cx r f? ρ c _ g) λy j i=>
     λw A ι s X Y K E R S e f T=>uw (Q:=λb H=>Q (ϑ b) H) i w A ι s X Y K E R S e f T)
  ·exact h.elim
 ·exact h.elim
set_option tactic.hygienic true in
theorem xD {f:ME->ME} (h:bh Ā d m (xc f (comp n cx) e) ρ H Q):e.all Ć=j?/\b? e<64/\bh Ā d m (f (gL (e.map (comp n cx)))) ρ H Q:=by
 show i3 h (λc h=>?_) λZ h=>x_ h;obtain⟨a,b⟩:=t?.mp c;exact⟨a,F_ b,h⟩
omit ih in
theorem vQ {ks:g? (p? k?)} {e:k?} (h:nameKey ks=d? e):∃x p,e=x! x p/\ks=[d? (x! x p)]:=by
 rcases ks with _| ⟨_|k,_| ⟨_,_⟩⟩<;>first|exact nS h|skip
 obtain⟨H,h⟩:=xm (c:=isName k=j?) h;show zp (oe H) λx p q=>?_;subst q;obtain rfl:=z! h;exact⟨_,_,rfl,rfl⟩
set_option tactic.hygienic true in
theorem BW (h:bh Ā d m (q9 (comp n cx) ks vs) ρ H Q):uj m cx.sc cx.nm d (.Dict ks vs p) ρ H Q:=by
 cases ks using aab with
 |nil=>
  cases vs using aab with
  |nil=>exact bc (λZ=>rfl) (xX h)
  |cons _ _=>exact h.elim
 |cons k ks=>
  unfold q9 at h;dsimp only at h;cases c:nameKey (k::ks) using aaa with
  |some e=>
   rw[c] at h;show pq (vQ c) λx P q g=>?_;clear c;subst q;rw[g];rcases vs with _| ⟨v,_| ⟨_,_⟩⟩
   ·exact h.elim
   ·have h':bh Ā d f? (comp n cx (x! x P)) ρ (H++[ώ []]) λx a=>bh Ā d f? (comp n cx v) ρ a λy b=>match x with
     |ϋ i=>b[b? H]? = d? (ώ [])/\fin m (ϊ (b? H)) (b.set (b? H) (ώ [(i,y)])) Q
     |_=>a_:=h
    exact bc (λZ=>rfl) (FW (EV.mono (ih cx (x! x P) f? ρ _ _ h') λx a j=>EV.mono (ih cx v f? ρ a _ j) λy b o=>o))
   ·exact h.elim
  |none=>
   rw[c] at h;cases f:ċ (k::ks) using aaa with
   |none=>rw[f] at h;exact h.elim
   |some l=>
    rw[f] at h;show i3 h (λr h=>?_) λZ h=>x_ h;exact GG ih (λe=>by cases e) f r h
omit ih in
theorem AQ {s:k?} (h:BG s=j?):∃k p q,s= .UnaryOp .USub (.Constant (.int 1) k p) q:=by
 cases s using IG with
 |hit op x q=>
  cases op using Ξ with
  |USub=>
   cases x using oq with
   |hit c k p=>
    cases c using Ŋ with
    |int i=>obtain rfl:=U?.mp h;exact⟨k,p,q,rfl⟩
    |_=>exact nB h
   |bt x n=>exact nB ((A_ n).symm.trans h)
  |_=>exact nB h
 |bt s n=>exact nB ((show BG s=_ from A_ n).symm.trans h)
set_option tactic.hygienic true in
theorem Ju (h:bh Ā d m (xd (comp n cx) v i) ρ H Q):uj m cx.sc cx.nm d (.Subscript v i p) ρ H Q:=by
 cases f:isSlice i using so with
 |true=>
  cases i using IU with
  |bt i n=>exact nB ((show isSlice i=_ from A_ n).symm.trans f)
  |hit a b c P=>
  cases a using aaa with
  |some _=>exact h.elim
  |none=>cases b using aaa with
   |none=>cases c using aaa with
    |none=>exact h.elim
    |some s=>
     show i3 h (λl h=>?_) λZ h=>x_ h;show ZU (AQ l) λk o t q=>?_;subst q;exact bc (λZ=>rfl) (Ub (ih cx _ f? ρ H _ h))
   |some u=>cases c using aaa with
    |none=>
     have h':bh Ā d f? (comp n cx v) ρ H λx H=>bh Ā d f? (comp n cx u) ρ H λy H=>ok (mF x y H) λr=>fin m r.1 r.2 Q:=h;exact bc (λZ=>rfl) (PV (EV.mono (ih cx v f? ρ H _ h') λx g j=>ih cx u f? ρ g _ j))
    |some _=>exact h.elim
 |false=>
  have e:xd (comp n cx) v i= .idx (comp n cx v) (comp n cx i):=by
   cases i using IU with
   |hit=>cases f
   |bt i n=>exact A_ n
  rw[e] at h;have h':bh Ā d f? (comp n cx v) ρ H λx H=>bh Ā d f? (comp n cx i) ρ H λy H=>ok (bN x y H) λr=>fin m r H Q:=h;exact bc (λZ=>rfl) (TY f (EV.mono (ih cx v f? ρ H _ h') λx g j=>ih cx i f? ρ g _ j))
set_option tactic.hygienic true in
theorem QL (a:cx.glob f=d? (.blt b)) (g:Ć x=j?) (h:bh Ā d m (EA b (comp n cx x)) ρ H Q):uj m cx.sc cx.nm d (.Call (x! f F) [x] [] p) ρ H Q:=by
 show i3 h (λe h=>?_) λZ h=>?_
 ·rw[U?.mp e] at a;exact ja ih a g (EV.mono (ih cx x f? ρ H _ h) λv H' h'=>Ml h')
 show i3 h (λe h=>?_) λZ h=>?_
 ·rw[U?.mp e] at a;exact ja ih a g (EV.mono (ih cx x f? ρ H _ h) λv H' h'=>Bt h')
 show i3 h (λe h=>?_) λZ h=>?_
 ·rw[U?.mp e] at a;exact ja ih a g (EV.mono (ih cx x f? ρ H _ h) λv H' h'=>Fo h')
 show i3 h (λe h=>?_) λZ h=>?_
 ·rw[U?.mp e] at a;have h':bh Ā d f? (comp n cx x) ρ H λx H=>match x with| ϋ i=>0<=i/\i<100/\fin m (Ϗ (A? (toString i))) H Q| _=>a_:=h
  show ja ih a g (EV.mono (ih cx x f? ρ H _ h') λv H' h'=>?_);cases v using ϔ<;>first|exact h'.elim|exact KQ h'.1 h'.2.1 h'.2.2
 show i3 h (λe h=>?_) λZ h=>x_ h;rw[U?.mp e] at a;have h':bh Ā d f? (comp n cx x) ρ H λx H=>match x with
  |ϊ n=>match H[n]? with
   |some (ώ kvs)=>b? kvs<64/\fin m (ϊ (b? H)) (H++[ό ((bz (kvs.map (λZ=>Z.1))).map ϋ)]) Q
   |_=>a_
  |_=>a_:=h
 show ja ih a g (EV.mono (ih cx x f? ρ H _ h') λv H' h'=>?_);cases v using ϔ<;>first|exact h'.elim|skip
 rename_i k;dsimp only at h';cases j:H'[k]? using aaa with
 |none=>rw[j] at h';exact h'.elim
 |some c=>
  rw[j] at h';cases c using Ϸ with
  |dictI kvs=>exact yV j h'.1 h'.2
  |_=>exact h'.elim
set_option tactic.hygienic true in
theorem PT (h:bh Ā d m (Kq (comp n cx) cx f as) ρ H Q):uj m cx.sc cx.nm d (.Call (x! f F) as [] p) ρ H Q:=by
 show i3 h (λZ h=>x_ h) λi h=>?_;have g:as.all Ć=j?:=by
  cases e:as.all Ć using so with
  |true=>rfl
  |false=>rw[e] at i;exact absurd rfl i
 cases c:cx.glob f using aaa with
 |none=>rw[c] at h;exact h.elim
 |some k=>
  rw[c] at h;cases k using GK.casesOn with
  |fn a=>exact bc (λZ=>rfl) (P9 c (mP c) g (gI (nh ih g h) λvs H' q=>q.2))
  |cls a=>exact bc (λZ=>rfl) (T9 c (mP c) g (gI (nh ih g h) λvs H' q=>q.2))
  |blt b=>
   rcases as with _| ⟨x,_| ⟨_,_⟩⟩
   ·exact h.elim
   ·exact QL ih c (t?.mp g).1 h
   ·exact h.elim
  |val _=>exact h.elim
set_option tactic.hygienic true in
theorem QD (g:(A.endLine== p.line)=j?) (c:eE o=f?) (a:as.all Ć=j?) (f:b? as<20) (h:bh Ā d m (yy (comp n cx) o M as) ρ H Q):uj m cx.sc cx.nm d (.Call (.Attribute o M A) as [] p) ρ H Q:=by
 rcases as with _| ⟨x,_| ⟨y,_| ⟨z,r⟩⟩⟩
 ·show i3 h (λj h=>?_) λZ h=>?_
  ·rw[U?.mp j];show bc (λZ=>rfl) (KZ (id:="list.pop") c a f g (EV.mono (ih cx o f? ρ H _ h) λv H' h'=>?_));have w:dB H' v=j?:=by
    show bf (bw.mp h') λr e Z=>Vz e λk s q=>rp q λxs u Z=>?_;subst s;change(nQ H'[k]? _).isSome=j?;rw[u];rfl
   exact⟨Uy w,jL (Gy h')⟩
  ·exact jQ ih g c a f h
 ·have l:Ć x=j?:=(t?.mp a).1;show i3 h (λj h=>?_) λZ h=>?_
  ·rw[U?.mp j];have h':bh Ā d f? (comp n cx o) ρ H λX H=>dB H X=j?/\bh Ā d f? (comp n cx x) ρ H λy H=>ok (dY X y H) λH=>fin m ϖ H Q:=h;exact bc (λZ=>rfl) (KZ (id:="list.append") c a f g (EV.mono (ih cx o f? ρ H _ h') λv H' h'=>⟨Gi h'.1,gP l (EV.mono (ih cx x f? ρ H' _ h'.2) λy i b=>jL (mH b))⟩))
  ·exact jQ ih g c a f h
 ·have l:Ć x=j?:=(t?.mp a).1;have B:Ć y=j?:=(t?.mp (t?.mp a).2).1;show i3 h (λj h=>?_) λZ h=>?_
  ·rw[U?.mp j];have h':bh Ā d f? (comp n cx o) ρ H λX H=>ao H X=j?/\bh Ā d f? (comp n cx x) ρ H λY H=>bh Ā d f? (comp n cx y) ρ H λz H=>ok (jb X Y z H) λr=>fin m r H Q:=h;exact bc (λZ=>rfl) (KZ (id:="dict.get") c a f g (EV.mono (ih cx o f? ρ H _ h') λv H' h'=>⟨U3 h'.1,gP l (EV.mono (ih cx x f? ρ H' _ h'.2) λY i b=>gP B (EV.mono (ih cx _ f? ρ i _ b) λz C t=>jL (F1 t)))⟩))
  ·exact jQ ih g c a f h
 ·exact jQ ih g c a f h
set_option tactic.hygienic true in
theorem G3 (h:bh Ā d m (rX (comp n cx) cx f as p) ρ H Q):uj m cx.sc cx.nm d (.Call f as [] p) ρ H Q:=by
 cases f using uy with
 |hit f F=>exact PT ih h
 |bt f N=>
 rw[show rX (comp n cx) cx f as p=_ from A_ N] at h;cases f using sH with
 |hit o M A=>
  show i3 h (λa h=>?_) λZ h=>x_ h;obtain⟨a,c⟩:=t?.mp a;obtain⟨a,g⟩:=t?.mp a;obtain⟨e,b⟩:=t?.mp a;exact QD ih e (aci (į _) b) g (F_ c) h
 |bt f i=>rw[show ir _ _ f=_ from A_ i] at h;exact h.elim
set_option tactic.hygienic true in
theorem yM (I:wz d n):lF d (n+1):=by
 intro cx e m ρ H Q h;cases e using H! with
 |Constant c k p=>exact CZ ih h
 |Name x p=>exact Fp ih h
 |Attribute v a p=>
  exact i3 h (λZ h=>x_ h) λA h=>bc (λZ=>rfl) (Qs (W_.mpr A) (ih cx v f? ρ H _ h))
 |BinOp l op r p=>
  show i3 h (λZ h=>?_) λZ h=>x_ h;exact bc (λZ=>rfl) (Uw (EV.mono (ih cx l f? ρ H _ h) λx s g=>EV.mono (ih cx r f? ρ s _ g) λy J j=>Ft j))
 |UnaryOp op x p=>exact Pg ih h
 |BoolOp op vs p=>exact Fn ih h
 |Compare l O rs p=>exact Lf ih h
 |IfExp t b o p=>
  show Qt (fT (ih cx t j? ρ H _ h) (eI λB H' h'=>?_));cases B using so with
  |true=>exact ih cx b m ρ H' Q (kM.mp h')
  |false=>exact ih cx o m ρ H' Q (kA.mp h')
 |Tuple w k p=>
  exact fP (xD ih (f:=.tup) h) λg j h=>bc (λZ=>rfl) (UC (gI (nh ih g h) λvs H' q=>⟨q.1▸j,q.2⟩))
 |List w p=>
  exact fP (xD ih (f:=.list) h) λg j h=>bc (λZ=>rfl) (PG (gI (nh ih g h) λvs H' q=>⟨q.1▸j,q.2⟩))
 |Dict ks vs p=>exact BW ih h
 |Subscript v i p=>exact Ju ih h
 |ListComp u K sc p=>
  obtain⟨T,L,F,rfl,o,D,is,z,C⟩:=uN ih I h;exact bc (λZ=>rfl) (PB o z D C)
 |Call f as ks p=>cases ks using aab with
  |nil=>exact G3 ih h
  |cons _ _=>exact h.elim
 |_=>exact h.elim
end
theorem Ac (d:m?):∀n,lF d n/\wz d n:=by
 intro l;induction l with
 |zero=>
  exact⟨λcx e m ρ H Q h=>h.elim,λcx I ρ H P h=>h.elim⟩
 |succ n i=>
  exact⟨yM (i).1 (i).2,yN (i).1⟩
theorem eR (d n:m?):lF d n:=(Ac d n).1
theorem qB {Q:Fl->Ă->Hp->Prop} (m:∀env,abF e (d? t) p.line env=pure f?) (l:xa t e=f?) (h:EV sc nm d e ρ H λv H=>AS sc nm d (Ĝ t) v ρ H λρ H=>Q ϒ ρ H) (n:∀env,ű [t] env=[(f?,Ĝ t env)]):ST sc nm d (Λ (.Assign [t] e p)) ρ H Q:=by
 intro w A env ι s K E o r S R T;show aaz (h w A env ι s _ E o r S R ?_) (m env) (NJ l);intro v z f y u q x st k R1;rw[n];show q w A env f u y _ E o r k (R.step S st) R1 ?_;intro g H' c s' q a b j i;exact T ϒ g H' c G_ s' q (x.trans a) (cg.trans st.toF (R.step S st) b) j i trivial
set_option tactic.hygienic true in
theorem wH {Q:Ă->Hp->Prop} (f:cx.nm.Nodup) (h:gM n cx t=d? T) (q:d6 Ā d T v ρ H Q):AS cx.sc cx.nm d (Ĝ t) v ρ H Q:=by
 cases t using BR with
 |hit e k p=>
  have h:(if 2<=b? e then(Ċ cx e).map Ϩ else e?)=d? T:=h;split at h
  ·rename_i l;cases b:Ċ cx e using aaa with
   |none=>rw[b] at h;cases h
   |some is=>rw[b] at h;cases h;exact Ut f b l q.2
  ·cases h
 |bt t N=>
 replace h:=(show gM n cx t=_ from A_ N).symm.trans h;cases t using uy with
 |hit x p=>
  have h:(cx.eL x).map ϝ=d? T:=h;cases c:cx.eL x using aaa with
  |none=>rw[c] at h;cases h
  |some i=>rw[c] at h;cases h;exact qj f c q
 |bt t m=>
 replace h:=(A_ m).symm.trans h;cases t using Br with
 |hit o i p=>
  have h:(if isSlice i=j? then e? else d? (MT.sub (comp n cx o) (comp n cx i)))=d? T:=h;split at h
  ·cases h
  ·cases h;have u:bh Ā d f? (comp n cx o) ρ H λx H=>bh Ā d f? (comp n cx i) ρ H λy H=>ok (cG x y v H) λH=>Q ρ H:=q;exact Ua (EV.mono (eR d n cx o f? ρ H _ u) λx g j=>eR d n cx i f? ρ g _ j)
 |bt t r=>
 replace h:=(A_ r).symm.trans h;cases t using sH with
 |hit o a p=>
  cases h;exact Qh (eR d n cx o f? ρ H _ q)
 |bt t s=>exact nS ((A_ s).symm.trans h)
theorem rg (h:gM n cx t=d? T) (env:Ó):ű [t] env=[(f?,Ĝ t env)]:=by
 cases t using H!<;>first|rfl|cases h
theorem sG (h:gM n cx t=d? T) (b:(Cg T&&qd e)=f?):xa t e=f?:=by
 cases t using BR with
 |hit a k p=>
  have h:(if 2<=b? a then(Ċ cx a).map Ϩ else e?)=d? T:=h;split at h
  ·cases H:Ċ cx a using aaa with
   |none=>rw[H] at h;cases h
   |some is=>rw[H] at h;cases h;exact b
  ·cases h
 |bt t N=>cases t using Xq with
  |hit=>cases h
  |bt t c=>exact(A_ N).trans (A_ c)
theorem W2 {cx:Cx} {e:k?} {g:g? Ō} {sc:t_} {P a:ś} (h:Q0 cx.sc sc y a P=j?) (env:Ó) (o:cK cx.sc env):abF (.ListComp e g sc P) (d? (x! y a)) l env=pure j?:=by
 unfold Q0 at h;simp only[Y?,U?] at h;obtain⟨⟨⟨d,H⟩,f⟩,i⟩:=h;have b:env.blockKind=b!:=by
  unfold Env.blockKind;rw[o.scope,d];rfl
 have c:env.kindOf y=d? .local:=by
  rw[<- o.scope] at H;exact H
 change(pure (env.blockKind== b!&&env.kindOf y== d? .local&&a.line== P.line&&!(sc.names.any λ(n,k)=>n== y&&(k== .local||k== g!))):Sem D?)=pure j?;rw[b,c,f];have:(sc.names.any λ(n,k)=>n== y&&(k== .local||k== g!))=(sc.names.any λp=>p.1== y&&(p.2== .local||p.2== g!)):=rfl;rw[this,i];simp
def CE (d n:m?):Prop:=∀(cx:Cx) (s:Ĩ) (ρ:Ă) (H:Hp) (Q:Fl->Ă->Hp->Prop),cx.nm.Nodup->bu Ā d (Dv n cx s) ρ H Q->ST cx.sc cx.nm d (Λ s) ρ H Q
def Cs (d n:m?):Prop:=∀(cx:Cx) (b:g? Ĩ) (ρ:Ă) (H:Hp) (Q:Fl->Ă->Hp->Prop),cx.nm.Nodup->bu Ā d (d9 n cx b) ρ H Q->ST cx.sc cx.nm d (Ũ b) ρ H Q
section
variable (ihS:CE d n) (ihB:Cs d n)
include ihS ihB
theorem yK:Cs d (n+1):=by
 intro cx b ρ H Q a h;rcases b with _| ⟨s,_| ⟨s',r⟩⟩
 ·exact U7 h
 ·exact TT (ihS _ _ ρ H Q a h)
 ·show Uj (wF (ihS _ _ ρ H _ a h) λf c H' h'=>?_);cases f using ϸ with
  |next=>exact ihB _ _ c H' Q a h'
  |_=>exact h'
omit ihS in
theorem zi {cx:Cx} {t:k?} {T:MT} {b:g? Ĩ} {chk:Hp->Prop} {xs:g? V} {ρ:Ă} {H:Hp} {Q:Fl->Ă->Hp->Prop} (c:cx.nm.Nodup) (e:gM n cx t=d? T)
  (h:bG (bu Ā d (d9 n cx b)) (λv ρ H Q=>d6 Ā d T v ρ H Q) chk xs ρ H Q):bG (λρ H Q=>ST cx.sc cx.nm d (Ũ b) ρ H Q) (λv ρ H Q=>AS cx.sc cx.nm d (Ĝ t) v ρ H Q) chk xs ρ H Q:=
 Gh (st:=bu Ā d (d9 n cx b)) (as:=λv ρ H Q=>d6 Ā d T v ρ H Q) (λρ H P p a h=>wF (ihB cx b ρ H P c h) a) (λv ρ H P p a h=>QK (wH c e h) a) h
omit ihS in
theorem FG {cx:Cx} {t i:k?} {T:MT} {b:g? Ĩ} {p:ś} {ρ:Ă} {H:Hp} {Q:Fl->Ă->Hp->Prop} (c:cx.nm.Nodup) (f:gM n cx t=d? T)
  (h:bu Ā d (ϥ T (comp n cx i) (d9 n cx b)) ρ H Q):ST cx.sc cx.nm d (Λ (.For t i b [] p)) ρ H Q:=by
 have h':bh Ā d f? (comp n cx i) ρ H λx H=>ok (aH H x) λxs=>bG (bu Ā d (d9 n cx b)) (d6 Ā d T) (λH'=>aH H' x=d? xs/\ao H' x=ao H x) xs ρ H Q:=h;show Tj (DO h') (EV.mono (eR d n cx i f? ρ H _ h') λx g a=>?_);exact bf (bw.mp a) λxs e a=>⟨xs,mZ e,zi ihB c f a⟩
omit ihS in
theorem FJ {cx:Cx} {t i:k?} {b:g? Ĩ} {p:ś} {ρ:Ă} {H:Hp} {Q:Fl->Ă->Hp->Prop} (m:cx.nm.Nodup) (h:bu Ā d (xu n cx t i (d9 n cx b)) ρ H Q):ST cx.sc cx.nm d (Λ (.For t i b [] p)) ρ H Q:=by
 unfold xu at h;cases c:gM n cx t using aaa with
 |none=>rw[c] at h;exact h.elim
 |some T=>
  rw[c] at h;have K:∀{T},gM n cx t=d? T->bu Ā d (match eH cx i with|some a=>ϴ T (comp n cx a) (d9 n cx b)| Option.none=>ϥ T (comp n cx i) (d9 n cx b)) ρ H Q->ST cx.sc cx.nm d (Λ (.For t i b [] p)) ρ H Q:=by
   intro T c h;cases g:eH cx i using aaa with
   |none=>rw[g] at h;exact FG ihB m c h
   |some a=>
    rw[g] at h;show Hv (kz g) λf F I q l=>?_;subst q;have h':bh Ā d f? (comp n cx a) ρ H λx H=>match x with
     |ϋ k=>0<=k/\k<100000/\bG (bu Ā d (d9 n cx b)) (d6 Ā d T) (λZ=>ŀ) ((l! k.toNat).map λ(j:m?)=>ϋ (j:C?)) ρ H Q
     |_=>a_:=h
    show Pe l (mP l) (yH h') (EV.mono (eR d n cx a f? ρ H _ h') λx o e=>?_);cases x using ϔ<;>first|exact e.elim|skip
    exact⟨e.1,e.2.1,zi ihB m c e.2.2⟩
  cases T using MT.casesOn with
  |attr _ _=>exact h.elim
  |sub _ _=>exact h.elim
  |_=>exact K c h
omit ihS ihB in
theorem Lz {e:k?} (h:Pm e=j?):∃d g sc C,e= .ListComp d g sc C:=by
 cases e using tW with
 |hit a b c p=>exact⟨_,_,_,_,rfl⟩
 |bt e n=>exact nB ((show Pm e=_ from A_ n).symm.trans h)
omit ihS ihB in
theorem zo {e:k?} (h:qg e=j?):∃p,e= .Dict [] [] p:=by
 cases e using WV with
 |hit ks vs p=>cases ks using aab<;>cases vs using aab<;>first|exact⟨_,rfl⟩|exact nB h
 |bt e n=>exact nB ((show qg e=_ from A_ n).symm.trans h)
set_option tactic.hygienic true in
omit ihS ihB in
theorem yZ {cx:Cx} {t e:k?} {P:ś} {ρ:Ă} {H:Hp} {Q:Fl->Ă->Hp->Prop} (g:cx.nm.Nodup) (h:bu Ā d (k6 n cx t e) ρ H Q):ST cx.sc cx.nm d (Λ (.Assign [t] e P)) ρ H Q:=by
 unfold k6 at h;cases b:qg e using so with
 |true=>
  rw[P? b] at h;obtain⟨p,rfl⟩:=zo b;cases a:gM n cx t using aaa with
  |none=>rw[a] at h;exact h.elim
  |some T=>
   rw[a] at h;show qB (λenv=>jT rfl) (sG a (by cases T using MT.casesOn<;>rfl)) ?_ (rg a);dsimp only at h;by_cases b:tZ t=j?
   ·rw[P? b] at h;exact Ly (wH g a h)
   ·rw[E? b] at h;exact xX (wH g a h)
 |false=>
  rw[E? (W_.mp b)] at h;cases j:isName t&&Pm e using so with
  |true=>
   rw[P? j] at h;obtain⟨l,w⟩:=t?.mp j;show zp (oe l) λy J q=>?_;subst q;show Zh (Lz w) λc s sc C r=>?_;subst r;replace h:bu Ā d (if Q0 cx.sc sc y J C=j? then(match cx.eL y with|some i=>Ϫ (ϝ i) (comp n cx (.ListComp c s sc C))| Option.none=>Ϟ) else Ϟ) ρ H Q:=h;split at h
   ·rename_i B;cases m:cx.eL y using aaa with
    |none=>rw[m] at h;exact h.elim
    |some i=>
     rw[m] at h;have h':bh Ā d f? (comp n cx (.ListComp c s sc C)) ρ H λv H=>Q ϒ (put v ρ i) H:=h;cases n using aac with
     |zero=>exact h'.elim
     |succ k=>
      obtain⟨M,L,I,rfl,o,A,is,x,z⟩:=uN (eR d k) (Ac d k).2 h';exact xr g m (W2 B) o x A z
   ·exact h.elim
  |false=>
   rw[E? (W_.mp j)] at h;cases a:gM n cx t using aaa with
   |none=>rw[a] at h;exact h.elim
   |some T=>
    rw[a] at h;dsimp only at h;split at h
    ·exact h.elim
    ·rename_i u;have f:(Cg T&&qd e)=f?:=W_.mpr u;have h':bh Ā d f? (comp n cx e) ρ H λv H=>d6 Ā d T v ρ H λρ H=>Q ϒ ρ H:=h;show qB (λenv=>?_) (sG a f) (EV.mono (eR d n cx e f? ρ H _ h') λv K l=>wH g a l) (rg a);clear h u f b g;cases e using tW with
     |hit=>cases t using H!<;>first|rfl|exact(Bool.noConfusion j)
     |bt e N=>cases e using KM with
      |hit=>cases n using aac<;>exact h'.elim
      |bt e D=>cases e using F3 with
       |hit=>cases n using aac<;>exact h'.elim
       |bt e F=>exact jT ((A_ F).trans ((A_ D).trans (A_ N)))
set_option tactic.hygienic true in
omit ihS in
theorem xP:CE d (n+1):=by
 intro cx s ρ H Q g h;cases s using aaN with
 |Expr e p=>
  have h:bu Ā d (if(isName e||vF e)=j? then Ϟ else .expr (comp n cx e)) ρ H Q:=h;split at h
  ·exact h.elim
  ·rename_i B;exact PK (Į.mp (W_.mpr B)).2 (eR d n cx e f? ρ H _ h)
 |Pass _=>exact QR h
 |Continue _=>exact QC h
 |Return e p=>cases e using aaa with
  |some e=>exact TM (eR d n cx e f? ρ H _ h)
  |none=>exact h.elim
 |Assign T e P=>
  rcases T with _| ⟨t,_| ⟨_,_⟩⟩
  ·exact h.elim
  ·exact yZ g h
  ·exact h.elim
 |AugAssign t op e P=>
  cases t using uy with
  |bt t N=>rw[show Dv (n+1) cx (.AugAssign t op e P)=Ϟ from A_ N] at h;exact h.elim
  |hit x p=>
  cases op using û<;>first|exact h.elim|skip
  have h:bu Ā d (if(x== ("__classdict__":k!))=j? then Ϟ else match cx.eL x with
   |some i=>ϻ i (comp n cx e)
   |Option.none=>Ϟ) ρ H Q:=h
  split at h
  ·exact h.elim
  ·rename_i C;cases r:cx.eL x using aaa with
   |none=>rw[r] at h;exact h.elim
   |some i=>
    rw[r] at h;show UK g r (W_.mpr C) (bw.mpr (xC.mp (MZ h λu v=>EV.mono (eR d n cx e f? ρ H _ v) λy q m=>?_)));clear v;cases u using ϔ with
    |int a=>cases y using ϔ<;>first|exact m.elim|exact m
    |_=>exact m.elim
 |If c a b p=>
  show W4 (fT (eR d n cx c j? ρ H _ h) (eI λt H' h'=>?_));cases t using so with
  |true=>exact ihB cx a ρ H' Q g (kM.mp h')
  |false=>exact ihB cx b ρ H' Q g (kA.mp h')
 |While c b o p=>cases o using aab with
  |cons _ _=>exact h.elim
  |nil=>
   show pq h λI k w m=>Mj I k w λj l q A=>fT (eR d n cx c j? l q _ (m j l q A)) (eI λt H' h'=>?_);cases t using so with
   |true=>exact wF (ihB cx b l H' _ g (kM.mp h')) λf F J z=>by cases f using ϸ<;>exact z
   |false=>exact kA.mp h'
 |For t K b o p=>cases o using aab with
  |cons _ _=>exact h.elim
  |nil=>exact FJ ihB g h
 |Try b D o f p=>
  cases o using aab<;>cases f using aab<;>cases D using aab<;>first|exact h.elim|exact Tw (ihB cx b ρ H Q g h)
 |_=>exact h.elim
end
theorem Ey (d:m?):∀n,CE d n/\Cs d n:=by
 intro l;induction l with
 |zero=>
  exact⟨λcx s ρ H Q a h=>h.elim,λcx b ρ H Q a h=>h.elim⟩
 |succ n i=>
  exact⟨xP (i).2,yK (i).1 (i).2⟩
theorem Gb (F:FnAt a ps sc body) (m:nm.Nodup) (o:nm.take (b? ps)=ps.map (λZ=>Z.arg)) (j:d9 n ⟨sc,nm⟩ body=s)
  (g:b? args=b? ps) (h:bu Ā d s (args.map d?++X? k e?) H λf Z H'=>Q f.val H'):aG (d+1) a args H Q:=by
 show QM F g (λi x v l b=>?_) ((Ey d n).2 ⟨sc,nm⟩ body _ H _ m (j▸h));have c:i<b? args:=by
  rcases abb i (b? args) with h|h
  ·exact h
  ·rw[c! (by simpa using h),Ĵ] at b;split at b<;>cases b
 rw[H? (by simpa using c),X!] at b;show⟨?_,?_⟩
 ·rw[<- o,List.getElem?_take,P? (g▸c)];exact l
 ·cases e:args[i]? using aaa with
  |none=>rw[e] at b;cases b
  |some u=>rw[e] at b;cases b;rfl
end
open Mine.Internal.Fl renaming next->ϒ,ret->ϣ,cont->Ϭ,brk->ϲ,casesOn->ϸ
open Mine.Internal.ME renaming cons->ϓ,var->Ϙ,gv->ϛ,bad->ϟ,bin->ϡ,nil->Ϥ,dictI->ϭ,call->Ϯ,ite->ϯ,int->ϰ,comp->ϵ,none->϶,tuple->Ϻ
open Mine.Internal.MT renaming var->ϝ,tup->Ϩ
open Mine.Internal.MS renaming bad->Ϟ,seq->Ϣ,fors->ϥ,ite->Ϧ,assign->Ϫ,forR->ϴ,skip->Ϲ,augAdd->ϻ
open Mine.Internal.GK renaming val->ϱ
section
set_option tactic.hygienic true
section
abbrev KE:=V->Hp->Prop
abbrev KS:=Fl->Ă->Hp->Prop
def zS (d:m?) (s:MS) (ρ:Ă) (H:Hp) (Q:KS):ŝ->Prop:=λZ=>bu Ā d s ρ H Q
def zE (d:m?) (m:D?) (e:ME) (ρ:Ă) (H:Hp) (Q:KE):ŝ->Prop:=λZ=>bh Ā d m e ρ H Q
def zQ (v:V) (H:Hp) (Q:KE):ŝ->Prop:=λZ=>Q v H
def zN (ρ:Ă) (H:Hp) (Q:KS):ŝ->Prop:=λZ=>Q ϒ ρ H
def kF (m:D?) (H:Hp) (Q:KE):V->Prop:=λv=>fin m v H Q
def kR (m:D?) (Q:KE):V×Hp->Prop:=λr=>fin m r.1 r.2 Q
def kB (H:Hp) (Q:KE):D?->Prop:=λb=>Q (ϑ b) H
def SP (a:k!) (m:D?) (Q:KE):KE:=λv H=>ok (aA H a v) (kF m H Q)
def L7 (op:Ĺ) (x:V) (m:D?) (Q:KE):KE:=λy H=>ok (cY op x y H) (kR m Q)
def UQ (d:m?) (op:Ĺ) (b:ME) (ρ:Ă) (m:D?) (Q:KE):KE:=λx H=>bh Ā d f? b ρ H (L7 op x m Q)
def IY (op:ab4) (x:V) (Q:KE):KE:=λy H=>ok (bZ op x y H) (kB H Q)
def Xl (d:m?) (op:ab4) (b:ME) (ρ:Ă) (Q:KE):KE:=λx H=>bh Ā d f? b ρ H (IY op x Q)
def Ti (d:m?) (b:ME) (ρ:Ă) (Q:KE):D?->Hp->Prop:=λt H=>dG t (zE d j? b ρ H Q) (zQ (ϑ f?) H Q)
def VZ (d:m?) (b:ME) (ρ:Ă) (Q:KE):D?->Hp->Prop:=λt H=>dG t (zQ (ϑ j?) H Q) (zE d j? b ρ H Q)
def AJ (d:m?) (b:ME) (ρ:Ă) (x:V) (H:Hp) (Q:KE):D?->Prop:=λt=>dG t (zE d f? b ρ H Q) (zQ x H Q)
def Sp (d:m?) (b:ME) (ρ:Ă) (Q:KE):KE:=λx H=>ok (bT H x) (AJ d b ρ x H Q)
def LA (d:m?) (b:ME) (ρ:Ă) (x:V) (H:Hp) (Q:KE):D?->Prop:=λt=>dG t (zQ x H Q) (zE d f? b ρ H Q)
def Xf (d:m?) (b:ME) (ρ:Ă) (Q:KE):KE:=λx H=>ok (bT H x) (LA d b ρ x H Q)
def Sr (Q:KE):D?->Hp->Prop:=λt H=>Q (ϑ !t) H
def Jv (H:Hp) (Q:KE):D?->Prop:=λt=>Q (ϑ !t) H
def R9 (Q:KE):KE:=λx H=>ok (bT H x) (Jv H Q)
def SZ (d:m?) (m:D?) (a b:ME) (ρ:Ă) (Q:KE):D?->Hp->Prop:=λt H=>dG t (zE d m a ρ H Q) (zE d m b ρ H Q)
def Xp (m:D?) (Q:KE):g? V->Hp->Prop:=λvs H=>fin m (ύ vs) H Q
def SJ (m:D?) (Q:KE):g? V->Hp->Prop:=λvs H=>fin m (ϊ (b? H)) (H++[ό vs]) Q
def Tx (n:m?) (x:V) (m:D?) (Q:KE):KE:=λy H2=>match x with
 |ϋ i=>H2[n]? = d? (ώ [])/\fin m (ϊ n) (H2.set n (ώ [(i,y)])) Q
 |_=>a_
def Zp (d:m?) (e:ME) (ρ:Ă) (n:m?) (m:D?) (Q:KE):KE:=λx H1=>bh Ā d f? e ρ H1 (Tx n x m Q)
def Zd (ks:g? k!) (n:m?) (m:D?) (Q:KE):g? V->Hp->Prop:=λvs H1=>H1[n]? = d? (Ϛ [])/\fin m (ϊ n) (H1.set n (Ϛ ((ks.zip vs).foldl (λl p=>au p.1 p.2 l) []))) Q
def ND (x:V) (m:D?) (Q:KE):KE:=λy H=>ok (bN x y H) (kF m H Q)
def VO (d:m?) (i:ME) (ρ:Ă) (m:D?) (Q:KE):KE:=λx H=>bh Ā d f? i ρ H (ND x m Q)
def Wg (m:D?) (Q:KE):KE:=λx H=>ok (tV x H) (kR m Q)
def BP (x:V) (m:D?) (Q:KE):KE:=λy H=>ok (mF x y H) (kR m Q)
def RW (d:m?) (n:ME) (ρ:Ă) (m:D?) (Q:KE):KE:=λx H=>bh Ā d f? n ρ H (BP x m Q)
def kQ (m:D?) (Q:KE):KE:=λv H=>fin m v H Q
def Si (d:m?) (f:e!) (m:D?) (Q:KE):g? V->Hp->Prop:=λvs H=>aG d f vs H (kQ m Q)
def w8 (d:m?) (f:e!) (v:V) (m:D?) (Q:KE):g? V->Hp->Prop:=λvs H=>aG d f (v::vs) H (kQ m Q)
def Bp (d:m?) (x:k!) (es:ME) (ρ:Ă) (v:V) (H:Hp) (m:D?) (Q:KE):e!->Prop:=λf=>aA H x v=e?/\i7 Ā d es ρ H (w8 d f v m Q)
def xq (d:m?) (x:k!) (es:ME) (ρ:Ă) (v:V) (H:Hp) (m:D?) (Q:KE):e!->Prop:=λc=>ok (Ā.meth c x) (Bp d x es ρ v H m Q)
def S9 (d:m?) (x:k!) (es:ME) (ρ:Ă) (m:D?) (Q:KE):KE:=λv H=>ok (jz H v) (xq d x es ρ v H m Q)
def JB (n:m?) (m:D?) (Q:KE):KE:=λr H'=>r=ϖ/\fin m (ϊ n) H' Q
def Ks (d:m?) (c:e!) (vs:g? V) (H:Hp) (m:D?) (Q:KE):e!->Prop:=λf=>1<=d/\aG (d - 1) f (ϊ (b? H)::vs) (H++[ϕ c []]) (JB (b? H) m Q)
def Xi (d:m?) (c:e!) (m:D?) (Q:KE):g? V->Hp->Prop:=λvs H=>ok (Ā.init c) (Ks d c vs H m Q)
def Nw (H:Hp) (m:D?) (Q:KE):C?->Prop:=λn=>fin m (ϋ n) H Q
def V9 (m:D?) (Q:KE):KE:=λx H=>ok (gE H x) (Nw H m Q)
def wI (H:Hp) (m:D?) (Q:KE):g? V->Prop:=λl=>fin m (ύ l) H Q
def MC (m:D?) (Q:KE):KE:=λx H=>ok (iT H x) (wI H m Q)
def LF (H:Hp) (m:D?) (Q:KE):g? V->Prop:=λl=>fin m (ϊ (b? H)) (H++[ό l]) Q
def Ww (m:D?) (Q:KE):KE:=λx H=>ok (iT H x) (LF H m Q)
def WN (m:D?) (Q:KE):KE:=λx H=>match x with| ϋ i=>0<=i/\i<100/\fin m (Ϗ (A? (toString i))) H Q| _=>a_
def Dd (m:D?) (Q:KE):KE:=λx H=>match x with
  |ϊ n=>match H[n]? with
   |some (ώ kvs)=>b? kvs<64/\fin m (ϊ (b? H)) (H++[ό ((bz (kvs.map (λZ=>Z.1))).map ϋ)]) Q
   |_=>a_
  |_=>a_
def IS (m:D?) (Q:KE):Hp->Prop:=λH=>fin m ϖ H Q
def Nu (x:V) (m:D?) (Q:KE):KE:=λy H=>ok (dY x y H) (IS m Q)
def VI (d:m?) (e:ME) (ρ:Ă) (m:D?) (Q:KE):KE:=λx H=>dB H x=j?/\bh Ā d f? e ρ H (Nu x m Q)
def Wv (m:D?) (Q:KE):KE:=λx H=>ok (zr x H) (kR m Q)
def Jg (x y:V) (m:D?) (Q:KE):KE:=λz H=>ok (jb x y z H) (kF m H Q)
def LO (d:m?) (e:ME) (ρ:Ă) (x:V) (m:D?) (Q:KE):KE:=λy H=>bh Ā d f? e ρ H (Jg x y m Q)
def V3 (d:m?) (k e:ME) (ρ:Ă) (m:D?) (Q:KE):KE:=λx H=>ao H x=j?/\bh Ā d f? k ρ H (LO d e ρ x m Q)
def uX (n:m?) (m:D?) (Q:KE):Hp->Prop:=λH'=>fin m (ϊ n) H' Q
def mh (d:m?) (ab5:ME):Ă->Hp->(D?->Hp->Prop)->Prop:=λρ H Q=>bh Ā d j? ab5 ρ H (jg Q)
def Bw (d:m?) (caps:g? (p? m?)) (tg:g? m?) (elt ab5:ME) (ρ:Ă) (m:D?) (Q:KE):KE:=λx H=>match x with
   |ϋ k=>0<=k/\k<100000/\cC tg (mh d ab5) (bh Ā d f? elt) (λZ=>ŀ) (b? H) ((l! k.toNat).map λ(j:m?)=>ϋ (j:C?)) (caps.map λo=>o.bind (look ρ)) (H++[ό []]) (uX (b? H) m Q)
   |_=>a_
def B0 (d:m?) (caps:g? (p? m?)) (tg:g? m?) (elt ab5:ME) (ρ:Ă) (x:V) (H:Hp) (m:D?) (Q:KE):g? V->Prop:=λxs=>cC tg (mh d ab5) (bh Ā d f? elt) (λH'=>aH H' x=d? xs/\ao H' x=ao H x) (b? H) xs (caps.map λo=>o.bind (look ρ)) (H++[ό []]) (uX (b? H) m Q)
def RC (d:m?) (caps:g? (p? m?)) (tg:g? m?) (elt ab5:ME) (ρ:Ă) (m:D?) (Q:KE):KE:=λx H=>ok (aH H x) (B0 d caps tg elt ab5 ρ x H m Q)
def T8 (v:V) (Q:g? V->Hp->Prop):g? V->Hp->Prop:=λvs H=>Q (v::vs) H
def Zy (d:m?) (es:ME) (ρ:Ă) (Q:g? V->Hp->Prop):KE:=λv H=>i7 Ā d es ρ H (T8 v Q)
def Nh (d:m?) (b:MS) (Q:KS):KS:=λf ρ H=>match f with| ϒ=>bu Ā d b ρ H Q| ϲ=>Q ϲ ρ H| Ϭ=>Q Ϭ ρ H| ϣ v=>Q (ϣ v) ρ H
def RZ (ρ:Ă) (Q:KS):KE:=λZ H=>Q ϒ ρ H
def IH (Q:KS):Ă->Hp->Prop:=λρ H=>Q ϒ ρ H
def VQ (d:m?) (t:MT) (ρ:Ă) (Q:KS):KE:=λv H=>d6 Ā d t v ρ H (IH Q)
def Uc (i:m?) (x:V) (ρ:Ă) (Q:KS):KE:=λy H=>match x,y with
  |ϋ a,ϋ b=>Q ϒ (put (ϋ (a+b)) ρ i) H
  |_,_=>a_
def Sx (d:m?) (i:m?) (e:ME) (ρ:Ă) (H:Hp) (Q:KS):V->Prop:=λx=>bh Ā d f? e ρ H (Uc i x ρ Q)
def ZA (d:m?) (a b:MS) (ρ:Ă) (Q:KS):D?->Hp->Prop:=λt H=>dG t (zS d a ρ H Q) (zS d b ρ H Q)
def R7 (ρ:Ă) (Q:KS):KE:=λv H=>Q (ϣ v) ρ H
def SE (d:m?) (t:MT) (b:MS) (ρ:Ă) (Q:KS):KE:=λx H=>match x with
  |ϋ k=>0<=k/\k<100000/\bG (bu Ā d b) (d6 Ā d t) (λZ=>ŀ) ((l! k.toNat).map λ(j:m?)=>ϋ (j:C?)) ρ H Q
  |_=>a_
def JN (d:m?) (t:MT) (b:MS) (ρ:Ă) (x:V) (H:Hp) (Q:KS):g? V->Prop:=λxs=>bG (bu Ā d b) (d6 Ā d t) (λH'=>aH H' x=d? xs/\ao H' x=ao H x) xs ρ H Q
def kFor (d:m?) (t:MT) (b:MS) (ρ:Ă) (Q:KS):KE:=λx H=>ok (aH H x) (JN d t b ρ x H Q)
def ma (ρ:Ă) (Q:Ă->Hp->Prop):Hp->Prop:=λH=>Q ρ H
def NM (a:k!) (v:V) (ρ:Ă) (Q:Ă->Hp->Prop):KE:=λx H=>ok (ck x a v H) (ma ρ Q)
def Cn (x v:V) (ρ:Ă) (Q:Ă->Hp->Prop):KE:=λy H=>ok (cG x y v H) (ma ρ Q)
def RM (d:m?) (k:ME) (v:V) (ρ:Ă) (Q:Ă->Hp->Prop):KE:=λx H=>bh Ā d f? k ρ H (Cn x v ρ Q)
def Rr (H:Hp) (Q:Ă->Hp->Prop):Ă->Prop:=λρ=>Q ρ H
def ur (n:m?) (I:m?->Ă->Hp->Prop) (Q:KS):KS:=λf ρ H=>match f with| ϒ=>∃k,k<n/\I k ρ H| Ϭ=>∃k,k<n/\I k ρ H| ϲ=>Q ϒ ρ H| ϣ v=>Q (ϣ v) ρ H
def WY (d:m?) (b:MS) (n:m?) (ρ:Ă) (I:m?->Ă->Hp->Prop) (Q:KS):D?->Hp->Prop:=λt H=>dG t (zS d b ρ H (ur n I Q)) (zN ρ H Q)
def dA (Q:KE):KS:=λf Z H=>Q f.val H
variable {R:g? V->Hp->Prop}
theorem Jk:bh Ā d m ϶ ρ H Q=fin m ϖ H Q:=rfl
theorem IC:bh Ā d m (.bool t) ρ H Q=Q (ϑ t) H:=rfl
theorem Rk:bh Ā d m (ϰ i) ρ H Q=fin m (ϋ i) H Q:=rfl
theorem SG:bh Ā d m (.str t) ρ H Q=fin m (Ϗ t) H Q:=rfl
theorem Q8:bh Ā d m (Ϙ i) ρ H Q=Aq (look ρ i) (kF m H Q):=rfl
theorem Q9 {α:Type} {a:α} {P:α->Prop}:Aq (d? a) P=P a:=rfl
theorem WE:bh Ā d m (ϛ v) ρ H Q=fin m v H Q:=rfl
theorem Jq:bh Ā d m (.attr e t) ρ H Q=bh Ā d f? e ρ H (SP t m Q):=rfl
theorem SV:bh Ā d m (ϡ op a b) ρ H Q=bh Ā d f? a ρ H (UQ d op b ρ m Q):=rfl
theorem RK:bh Ā d m (.cmp op a b) ρ H Q=bh Ā d f? a ρ H (Xl d op b ρ Q):=rfl
theorem K6:bh Ā d j? (.and a b) ρ H Q=bh Ā d j? a ρ H (jg (Ti d b ρ Q)):=rfl
theorem Nz:bh Ā d f? (.and a b) ρ H Q=bh Ā d f? a ρ H (Sp d b ρ Q):=rfl
theorem Tc:bh Ā d j? (.or a b) ρ H Q=bh Ā d j? a ρ H (jg (VZ d b ρ Q)):=rfl
theorem RB:bh Ā d f? (.or a b) ρ H Q=bh Ā d f? a ρ H (Xf d b ρ Q):=rfl
theorem MM:bh Ā d j? (.not a) ρ H Q=bh Ā d j? a ρ H (jg (Sr Q)):=rfl
theorem IX:bh Ā d f? (.not a) ρ H Q=bh Ā d f? a ρ H (R9 Q):=rfl
theorem RH:bh Ā d m (ϯ c a b) ρ H Q=bh Ā d j? c ρ H (jg (SZ d m a b ρ Q)):=rfl
theorem Sz:bh Ā d m (.tup es) ρ H Q=i7 Ā d es ρ H (Xp m Q):=rfl
theorem NV:bh Ā d m (.list es) ρ H Q=i7 Ā d es ρ H (SJ m Q):=rfl
theorem DY:bh Ā d m ϭ ρ H Q=fin m (ϊ (b? H)) (H++[ώ []]) Q:=rfl
theorem yc:bh Ā d m (.dictI1 k e) ρ H Q=bh Ā d f? k ρ (H++[ώ []]) (Zp d e ρ (b? H) m Q):=rfl
theorem DK:bh Ā d m (.dictS ks es) ρ H Q=i7 Ā d es ρ (H++[Ϛ []]) (Zd ks (b? H) m Q):=rfl
theorem Dx:bh Ā d m .dJ ρ H Q=fin m (ϊ (b? H)) (H++[Ϝ []]) Q:=rfl
theorem RQ:bh Ā d m (.idx a b) ρ H Q=bh Ā d f? a ρ H (VO d b ρ m Q):=rfl
theorem SW:bh Ā d m (.rev a) ρ H Q=bh Ā d f? a ρ H (Wg m Q):=rfl
theorem MF:bh Ā d m (.take a n) ρ H Q=bh Ā d f? a ρ H (RW d n ρ m Q):=rfl
theorem K1:bh Ā d m (Ϯ f es) ρ H Q=i7 Ā d es ρ H (Si d f m Q):=rfl
theorem JG:bh Ā d m (.meth e t es) ρ H Q=bh Ā d f? e ρ H (S9 d t es ρ m Q):=rfl
theorem SH:bh Ā d m (.new f es) ρ H Q=i7 Ā d es ρ H (Xi d f m Q):=rfl
theorem Rj:bh Ā d m (.len e) ρ H Q=bh Ā d f? e ρ H (V9 m Q):=rfl
theorem Ei:bh Ā d m (Ϻ e) ρ H Q=bh Ā d f? e ρ H (MC m Q):=rfl
theorem yI:bh Ā d m (.listOf e) ρ H Q=bh Ā d f? e ρ H (Ww m Q):=rfl
theorem Dl:bh Ā d m (.strOf e) ρ H Q=bh Ā d f? e ρ H (WN m Q):=rfl
theorem za:bh Ā d m (.sorted e) ρ H Q=bh Ā d f? e ρ H (Dd m Q):=rfl
theorem y7:bh Ā d m (.append a e) ρ H Q=bh Ā d f? a ρ H (VI d e ρ m Q):=rfl
theorem Rg:bh Ā d m (.pop a) ρ H Q=bh Ā d f? a ρ H (Wv m Q):=rfl
theorem Sq:bh Ā d m (.get a k e) ρ H Q=bh Ā d f? a ρ H (V3 d k e ρ m Q):=rfl
theorem EI:bh Ā d m (.compR caps tg e n c) ρ H Q=bh Ā d f? n ρ H (Bw d caps tg e c ρ m Q):=rfl
theorem Nl:bh Ā d m (ϵ caps tg e a c) ρ H Q=bh Ā d f? a ρ H (RC d caps tg e c ρ m Q):=rfl
theorem Mi:i7 Ā d Ϥ ρ H R=R [] H:=rfl
theorem En:i7 Ā d (ϓ e es) ρ H R=bh Ā d f? e ρ H (Zy d es ρ R):=rfl
theorem Zl {R:D?->Hp->Prop}:Yr Ā d c ρ H R=bh Ā d j? c ρ H (jg R):=rfl
theorem Y7:zS d s ρ H P ()=bu Ā d s ρ H P:=rfl
theorem Zj:zE d m e ρ H Q ()=bh Ā d m e ρ H Q:=rfl
theorem ZB:zQ v H Q ()=Q v H:=rfl
theorem Y5:zN ρ H P ()=P ϒ ρ H:=rfl
theorem KI:Ti d b ρ Q t H=dG t (zE d j? b ρ H Q) (zQ (ϑ f?) H Q):=rfl
theorem Q7:VZ d b ρ Q t H=dG t (zQ (ϑ j?) H Q) (zE d j? b ρ H Q):=rfl
theorem De:AJ d b ρ x H Q t=dG t (zE d f? b ρ H Q) (zQ x H Q):=rfl
theorem L6:LA d b ρ x H Q t=dG t (zQ x H Q) (zE d f? b ρ H Q):=rfl
theorem MG:SZ d m a b ρ Q t H=dG t (zE d m a ρ H Q) (zE d m b ρ H Q):=rfl
theorem Wh:ZA d s s' ρ P t H=dG t (zS d s ρ H P) (zS d s' ρ H P):=rfl
theorem Ta {I:m?->Ă->Hp->Prop}:WY d s n ρ I P t H=dG t (zS d s ρ H (ur n I P)) (zN ρ H P):=rfl
theorem YY:kF m H Q v=fin m v H Q:=rfl
theorem Zc:kR m Q (v,H)=fin m v H Q:=rfl
theorem Zw:kB H Q t=Q (ϑ t) H:=rfl
theorem M1:SP t m Q v H=ok (aA H t v) (kF m H Q):=rfl
theorem Jh:L7 op x m Q y H=ok (cY op x y H) (kR m Q):=rfl
theorem Rp:UQ d op b ρ m Q x H=bh Ā d f? b ρ H (L7 op x m Q):=rfl
theorem J1:IY op x Q y H=ok (bZ op x y H) (kB H Q):=rfl
theorem Td:Xl d op b ρ Q x H=bh Ā d f? b ρ H (IY op x Q):=rfl
theorem NX:Sp d b ρ Q x H=ok (bT H x) (AJ d b ρ x H Q):=rfl
theorem Tb:Xf d b ρ Q x H=ok (bT H x) (LA d b ρ x H Q):=rfl
theorem I0:Sr Q t H=Q (ϑ !t) H:=rfl
theorem Kn:Jv H Q t=Q (ϑ !t) H:=rfl
theorem IE:R9 Q x H=ok (bT H x) (Jv H Q):=rfl
theorem Sg:Xp m Q vs H=fin m (ύ vs) H Q:=rfl
theorem IA:SJ m Q vs H=fin m (ϊ (b? H)) (H++[ό vs]) Q:=rfl
theorem Ss:Tx n (ϋ i) m Q y H=(H[n]? = d? (ώ [])/\fin m (ϊ n) (H.set n (ώ [(i,y)])) Q):=rfl
theorem VP:Zp d e ρ n m Q x H=bh Ā d f? e ρ H (Tx n x m Q):=rfl
theorem VW:Zd ks n m Q vs H=(H[n]? = d? (Ϛ [])/\fin m (ϊ n) (H.set n (Ϛ ((ks.zip vs).foldl (λl p=>au p.1 p.2 l) []))) Q):=rfl
theorem JX:ND x m Q y H=ok (bN x y H) (kF m H Q):=rfl
theorem SI:VO d b ρ m Q x H=bh Ā d f? b ρ H (ND x m Q):=rfl
theorem Q3:Wg m Q x H=ok (tV x H) (kR m Q):=rfl
theorem Ef:BP x m Q y H=ok (mF x y H) (kR m Q):=rfl
theorem M6:RW d n ρ m Q x H=bh Ā d f? n ρ H (BP x m Q):=rfl
theorem ZI:kQ m Q v H=fin m v H Q:=rfl
theorem MY:Si d f m Q vs H=aG d f vs H (kQ m Q):=rfl
theorem EC:w8 d f v m Q vs H=aG d f (v::vs) H (kQ m Q):=rfl
theorem vM:Bp d t es ρ v H m Q f=(aA H t v=e?/\i7 Ā d es ρ H (w8 d f v m Q)):=rfl
theorem wh:xq d t es ρ v H m Q f=ok (Ā.meth f t) (Bp d t es ρ v H m Q):=rfl
theorem Nv:S9 d t es ρ m Q v H=ok (jz H v) (xq d t es ρ v H m Q):=rfl
theorem N0:JB n m Q v H=(v=ϖ/\fin m (ϊ n) H Q):=rfl
theorem La:Ks d f vs H m Q g=(1<=d/\aG (d - 1) g (ϊ (b? H)::vs) (H++[ϕ f []]) (JB (b? H) m Q)):=rfl
theorem Sj:Xi d f m Q vs H=ok (Ā.init f) (Ks d f vs H m Q):=rfl
theorem IK:Nw H m Q i=fin m (ϋ i) H Q:=rfl
theorem RG:V9 m Q x H=ok (gE H x) (Nw H m Q):=rfl
theorem z3:wI H m Q vs=fin m (ύ vs) H Q:=rfl
theorem DG:MC m Q x H=ok (iT H x) (wI H m Q):=rfl
theorem KA:LF H m Q vs=fin m (ϊ (b? H)) (H++[ό vs]) Q:=rfl
theorem Q5:Ww m Q x H=ok (iT H x) (LF H m Q):=rfl
theorem RJ:WN m Q (ϋ i) H=(0<=i/\i<100/\fin m (Ϗ (A? (toString i))) H Q):=rfl
theorem Ab:Dd m Q (ϊ n) H=(match H[n]? with
   |some (ώ kvs)=>b? kvs<64/\fin m (ϊ (b? H)) (H++[ό ((bz (kvs.map (λZ=>Z.1))).map ϋ)]) Q
   |_=>a_):=rfl
theorem LV:IS m Q H=fin m ϖ H Q:=rfl
theorem Mq:Nu x m Q y H=ok (dY x y H) (IS m Q):=rfl
theorem Sa:VI d e ρ m Q x H=(dB H x=j?/\bh Ā d f? e ρ H (Nu x m Q)):=rfl
theorem RF:Wv m Q x H=ok (zr x H) (kR m Q):=rfl
theorem I3:Jg x y m Q z H=ok (jb x y z H) (kF m H Q):=rfl
theorem IV:LO d e ρ x m Q y H=bh Ā d f? e ρ H (Jg x y m Q):=rfl
theorem RL:V3 d k e ρ m Q x H=(ao H x=j?/\bh Ā d f? k ρ H (LO d e ρ x m Q)):=rfl
theorem II:uX n m Q H=fin m (ϊ n) H Q:=rfl
theorem Lm {R:D?->Hp->Prop}:mh d c ρ H R=bh Ā d j? c ρ H (jg R):=rfl
theorem Em:Bw d caps tg e c ρ m Q (ϋ i) H=(0<=i/\i<100000/\cC tg (mh d c) (bh Ā d f? e) (λZ=>ŀ) (b? H) ((l! i.toNat).map λ(j:m?)=>ϋ (j:C?)) (caps.map λo=>o.bind (look ρ)) (H++[ό []]) (uX (b? H) m Q)):=rfl
theorem ik:B0 d caps tg e c ρ x H m Q vs=cC tg (mh d c) (bh Ā d f? e) (λH'=>aH H' x=d? vs/\ao H' x=ao H x) (b? H) vs (caps.map λo=>o.bind (look ρ)) (H++[ό []]) (uX (b? H) m Q):=rfl
theorem NS:RC d caps tg e c ρ m Q x H=ok (aH H x) (B0 d caps tg e c ρ x H m Q):=rfl
theorem Rn:T8 v R vs H=R (v::vs) H:=rfl
theorem W7:Zy d es ρ R v H=i7 Ā d es ρ H (T8 v R):=rfl
theorem NN:bu Ā d Ϲ ρ H P=P ϒ ρ H:=rfl
theorem RD:bu Ā d (Ϣ s s') ρ H P=bu Ā d s ρ H (Nh d s' P):=rfl
theorem Jc:bu Ā d (.expr e) ρ H P=bh Ā d f? e ρ H (RZ ρ P):=rfl
theorem Su:bu Ā d (Ϫ t e) ρ H P=bh Ā d f? e ρ H (VQ d t ρ P):=rfl
theorem RU:bu Ā d (ϻ i e) ρ H P=Aq (look ρ i) (Sx d i e ρ H P):=rfl
theorem Rd:bu Ā d (Ϧ c s s') ρ H P=bh Ā d j? c ρ H (jg (ZA d s s' ρ P)):=rfl
theorem JA:bu Ā d (ϴ t n s) ρ H P=bh Ā d f? n ρ H (SE d t s ρ P):=rfl
theorem LH:bu Ā d (ϥ t e s) ρ H P=bh Ā d f? e ρ H (kFor d t s ρ P):=rfl
theorem RP:bu Ā d (.ret e) ρ H P=bh Ā d f? e ρ H (R7 ρ P):=rfl
theorem J5:bu Ā d (.whil c s) ρ H P=∃(I:m?->Ă->Hp->Prop) (n:m?),I n ρ H/\∀n ρ H,I n ρ H->bh Ā d j? c ρ H (jg (WY d s n ρ I P)):=rfl
theorem Jp {I:m?->Ă->Hp->Prop}:ur n I P ϒ ρ H=∃k,k<n/\I k ρ H:=rfl
theorem Lc {I:m?->Ă->Hp->Prop}:ur n I P Ϭ ρ H=∃k,k<n/\I k ρ H:=rfl
theorem Ky {I:m?->Ă->Hp->Prop}:ur n I P ϲ ρ H=P ϒ ρ H:=rfl
theorem IT {I:m?->Ă->Hp->Prop}:ur n I P (ϣ v) ρ H=P (ϣ v) ρ H:=rfl
theorem K7:bu Ā d .cont ρ H P=P Ϭ ρ H:=rfl
theorem R8:bu Ā d (.tryx s) ρ H P=bu Ā d s ρ H P:=rfl
theorem Lu:Nh d s P ϒ ρ H=bu Ā d s ρ H P:=rfl
theorem KN:Nh d s P Ϭ ρ H=P Ϭ ρ H:=rfl
theorem KY:Nh d s P ϲ ρ H=P ϲ ρ H:=rfl
theorem Ke:Nh d s P (ϣ v) ρ H=P (ϣ v) ρ H:=rfl
theorem MB:RZ ρ P v H=P ϒ ρ H:=rfl
theorem MR:IH P ρ H=P ϒ ρ H:=rfl
theorem Rq:VQ d t ρ P v H=d6 Ā d t v ρ H (IH P):=rfl
theorem Q2:Uc i (ϋ j) ρ P (ϋ l) H=P ϒ (put (ϋ (j+l)) ρ i) H:=rfl
theorem Mo:Sx d i e ρ H P x=bh Ā d f? e ρ H (Uc i x ρ P):=rfl
theorem Jz:R7 ρ P v H=P (ϣ v) ρ H:=rfl
theorem Nj:SE d t s ρ P (ϋ i) H=(0<=i/\i<100000/\bG (bu Ā d s) (d6 Ā d t) (λZ=>ŀ) ((l! i.toNat).map λ(j:m?)=>ϋ (j:C?)) ρ H P):=rfl
theorem eO:JN d t s ρ x H P vs=bG (bu Ā d s) (d6 Ā d t) (λH'=>aH H' x=d? vs/\ao H' x=ao H x) vs ρ H P:=rfl
theorem SN:kFor d t s ρ P x H=ok (aH H x) (JN d t s ρ x H P):=rfl
variable {A:Ă->Hp->Prop}
theorem Ry:d6 Ā d (ϝ i) v ρ H A=A (put v ρ i) H:=rfl
theorem Rm:d6 Ā d (Ϩ is) v ρ H A=(2<=b? is/\cA is v ρ (Rr H A)):=rfl
theorem JR:d6 Ā d (.attr e t) v ρ H A=bh Ā d f? e ρ H (NM t v ρ A):=rfl
theorem SM:d6 Ā d (.sub e k) v ρ H A=bh Ā d f? e ρ H (RM d k v ρ A):=rfl
theorem zl:ma ρ A H=A ρ H:=rfl
theorem DU:NM t v ρ A x H=ok (ck x t v H) (ma ρ A):=rfl
theorem E5:Cn x v ρ A y H=ok (cG x y v H) (ma ρ A):=rfl
theorem MO:RM d k v ρ A x H=bh Ā d f? k ρ H (Cn x v ρ A):=rfl
theorem Mh:Rr H A ρ=A ρ H:=rfl
theorem Nr:dA Q (ϣ v) ρ H=Q v H:=rfl
theorem JJ:dA Q ϒ ρ H=Q ϖ H:=rfl
end
end
section
set_option maxHeartbeats 0
set_option tactic.hygienic true
section
def P0:y_:={strHash:=λZ=>0,shareClass:=λZ=>0,mergeTok:=λt=>t,idOf:=λZ=>0,idOfShared:=λZ Z=>0,followText:=λZ=>f?,idOfImm:=λZ=>0}
def fdOf:Data->aa5
 |.func fd=>fd
 |_=>default
def QG:FuncBody->g? Ź
 |.stmts b=>b
 |_=>[]
def refOf:s?->e!
 |Value.ref a=>a
 |_=>0
def Gr:Data->O_ s?
 |Data.fields vs=>vs
 |_=>#[]
def lR (a:m?):aa5:=fdOf (de P0 a).data
def nE (a:m?):g? Arg:=(lR a).params.args
def nz (a:m?):t_:=(lR a).scope
def yG (a:m?):g? Ź:=QG (lR a).body
def Kg (a:m?):m?:=refOf (lR a).code
def D7 (v:p? s?) (q:k!):D?:=match v with
 |some (.str s _)=>s== q
 |_=>f?
def V5 (a:m?):O_ s?:=Gr (de P0 (Kg a)).data
def pZ (a:m?):g? k!:=(nE a).map (λZ=>Z.arg)++((nz a).names.filter λp=>(p.2== .local||p.2== g!)&&!((nE a).map (λZ=>Z.arg)).contains p.1).map (λZ=>Z.1)
def Vl (a:m?) (l:m?):D?:=Ė a 974&&(Ė (Kg a) 974&&(D7 (V5 a)[1]? (lR a).qualname&&(!((nz a).isCoroutine||(nz a).isGenerator)&&((nz a).kind== b!&&(decide ((nE a).map (λZ=>Z.arg)).Nodup &&
 (((nE a).map (λZ=>Z.arg)).all (λx=>(nz a).names.lookup x== d? .local||(nz a).names.lookup x== d? g!)&&(decide (pZ a).Nodup&&((pZ a).take (b? (nE a))== (nE a).map (λZ=>Z.arg)&&b? (nE a)== l))))))))
def Yt (a l:m?):=((λP=>((tD P).get a,(tD P).get (Kg a))),Vl a l,(lR a).params,(lR a).defaults,(lR a).body,(lR a).globals,(lR a).closure,(lR a).builtins,(lR a).code)
def YC (a:m?):=((λ(Z:y_)=>(d? ({cls:=r? "function",data:=.func (lR a)}:Æ),d? ({cls:=r? "code",data:=d! (V5 a)}:Æ))),j?,eF (nE a),T?,FuncBody.stmts (yG a),I!,([]:g? (k!×e!)),Ł,n? (Kg a))
abbrev Tf (a l:m?):Prop:=Yt a l=YC a
theorem Yh {a b c d e f g h i j:D?} {P:Prop} (x:(a&&(b&&(c&&(d&&(e&&(f&&(g&&(h&&(i&&j)))))))))=j?) (k:a=j?->b=j?->c=j?->d=j?->e=j?->f=j?->g=j?->h=j?->i=j?->j=j?->P):P:=by
 simp only[Y?] at x;obtain⟨a,b,c,d,e,f,g,h,i,j⟩:=x;exact k a b c d e f g h i j
theorem t9K {α β γ δ ε ζ η θ κ:Type} {a a':α} {b b':β} {c c':γ} {d d':δ} {e e':ε} {f f':ζ} {g g':η} {h h':θ} {i i':κ} {P:Prop} (x:(a,b,c,d,e,f,g,h,i)=(a',b',c',d',e',f',g',h',i')) (k:a=a'->b=b'->c=c'->d=d'->e=e'->f=f'->g=g'->h=h'->i=i'->P):P:=
 k (R? (λZ=>Z.1) x) (R? (λZ=>Z.2.1) x) (R? (λZ=>Z.2.2.1) x) (R? (λZ=>Z.2.2.2.1) x) (R? (λZ=>Z.2.2.2.2.1) x) (R? (λZ=>Z.2.2.2.2.2.1) x) (R? (λZ=>Z.2.2.2.2.2.2.1) x) (R? (λZ=>Z.2.2.2.2.2.2.2.1) x) (R? (λZ=>Z.2.2.2.2.2.2.2.2) x)
theorem Hj {o:p? s?} {q:k!} (h:D7 o q=j?):∃t,o=d? (.str q t):=by
 cases o using aaa with
 |none=>exact(O? h).elim
 |some v=>cases v using n_<;>first|exact(O? h).elim|exact⟨_,by rw[U?.mp h]⟩
theorem Ru {a l:m?} (h:Tf a l):FnAt a (nE a) (nz a) (yG a)/\(pZ a).Nodup/\(pZ a).take (b? (nE a))=(nE a).map (λZ=>Z.arg)/\b? (nE a)=l:=by
 show t9K h λlk gd r1 r2 r3 r4 r5 r6 r7=>Yh gd λg1 g2 g3 g4 g5 g6 g7 g8 g9 g10=>?_;have g4:=Į.mp (aci (į _) g4);show⟨⟨w? g1,λP=>?_,g4.1,g4.2,U?.mp g5,F_ g6,λx hx=>(aas.mp (L?.mp g7 x hx)).imp U?.mp U?.mp⟩,F_ g8,U?.mp g9,U?.mp g10⟩;have e:=Prod.mk.inj (congrFun lk P);exact(Hj g3).elim λt ht=>⟨_,lR a,(aan (w? g1) e.1).trans rfl,rfl,rfl,r1,r2,rfl,r3,r4,r5,r6,Kg a,_,_,_,r7,(aan (w? g2) e.2).trans rfl,rfl,ht⟩
def CF (a l k:m?) (b:MS):Prop:=∀⦃d:m?⦄ ⦃args:g? V⦄ ⦃H:Hp⦄ ⦃Q:V->Hp->Prop⦄,b? args=l->bu Ā d b (args.map d?++X? k e?) H (dA Q)->aG (d+1) a args H Q
theorem CF.go {a l k n d:m?} {b:MS} {args:g? V} {H:Hp} {Q:V->Hp->Prop} (c:CF a l k b) (h:n+1<=d) (hl:b? args=l) (q:∀d,n<=d->bu Ā d b (args.map d?++X? k e?) H (dA Q)):aG d a args H Q:=by
 cases d using aac with
 |zero=>exact absurd h (Ĭ n)
 |succ d=>exact c hl (q d (ķ h))
theorem aq {a l k:m?} {b:MS} (h:Tf a l) (cp:d9 60 ⟨nz a,pZ a⟩ (yG a)=b):CF a l k b:=by
 intro d args H Q hl h';exact U9 (Ru h) λF n1 n2 n3=>Gb (nm:=pZ a) (n:=60) F n1 n2 cp (hl.trans n3.symm) h'
namespace F48
abbrev A (i:m?) (e:ME) (s:MS):MS:=Ϣ (Ϫ (ϝ i) e) s
abbrev B:MS:=Ϟ
abbrev C (o:ab4) (a b:ME):ME:=.cmp o a b
abbrev D (a b:ME):ME:=.and a b
abbrev E (a b:ME):ME:=.cmp I_ a b
abbrev F (i:m?) (e:ME) (b s:MS):MS:=Ϣ (ϥ (ϝ i) e b) s
abbrev H (o k e:ME) (s:MS):MS:=Ϣ (Ϫ (.sub o k) e) s
abbrev I (c:ME) (a s:MS):MS:=Ϣ (Ϧ c a Ϲ) s
abbrev J (e:ME) (n:C?):ME:=.idx e (ϰ n)
abbrev K (a b:ME):ME:=.idx a b
abbrev L (e:ME):ME:=.len e
abbrev M (a:ME):ME:=.not a
abbrev N (n:C?):ME:=ϰ n
abbrev O (a b:ME):ME:=.or a b
abbrev Q (a b:ME):ME:=.append a b
abbrev R (e:ME):MS:=.ret e
abbrev S (s:k!):ME:=.str s
abbrev T (e:ME) (n:k!):ME:=.attr e n
abbrev W (n:C?):ME:=ϛ (ϋ n)
abbrev X (e:ME) (s:MS):MS:=Ϣ (.expr e) s
abbrev Y (o:ME) (n:k!) (e:ME) (s:MS):MS:=Ϣ (Ϫ (.attr o n) e) s
abbrev a (i:m?) (e:ME):MS:=Ϫ (ϝ i) e
abbrev c0 (y:e!):ME:=Ϯ y Ϥ
abbrev c1 (y:e!) (a:ME):ME:=Ϯ y (ϓ a Ϥ)
abbrev c2 (y:e!) (a b:ME):ME:=Ϯ y (ϓ a (ϓ b Ϥ))
abbrev c3 (y:e!) (a b c:ME):ME:=Ϯ y (ϓ a (ϓ b (ϓ c Ϥ)))
abbrev c4 (y:e!) (a b c d:ME):ME:=Ϯ y (ϓ a (ϓ b (ϓ c (ϓ d Ϥ))))
abbrev c5 (y:e!) (a b c d e:ME):ME:=Ϯ y (ϓ a (ϓ b (ϓ c (ϓ d (ϓ e Ϥ)))))
abbrev d:ME:=.tup Ϥ
abbrev f:ME:=.bool f?
abbrev g (o:ME) (n:k!) (e:ME):MS:=Ϫ (.attr o n) e
abbrev h:ME:=Ϙ 0
abbrev i (c:ME) (a:MS):MS:=Ϧ c a Ϲ
abbrev k:ME:=Ϙ 1
abbrev l0:ME:=.list Ϥ
abbrev l1 (a:ME):ME:=.list (ϓ a Ϥ)
abbrev l2 (a b:ME):ME:=.list (ϓ a (ϓ b Ϥ))
abbrev l3 (a b c:ME):ME:=.list (ϓ a (ϓ b (ϓ c Ϥ)))
abbrev m (o:ME) (n:k!) (e:ME):ME:=.meth o n (ϓ e Ϥ)
abbrev n:ME:=Ϙ 2
abbrev o:ME:=Ϙ 3
abbrev p1 (a:ME):ME:=.tup (ϓ a Ϥ)
abbrev p2 (a b:ME):ME:=.tup (ϓ a (ϓ b Ϥ))
abbrev p3 (a b c:ME):ME:=.tup (ϓ a (ϓ b (ϓ c Ϥ)))
abbrev p4 (a b c d:ME):ME:=.tup (ϓ a (ϓ b (ϓ c (ϓ d Ϥ))))
abbrev p5 (a b c d e:ME):ME:=.tup (ϓ a (ϓ b (ϓ c (ϓ d (ϓ e Ϥ)))))
abbrev p6 (a b c d e f:ME):ME:=.tup (ϓ a (ϓ b (ϓ c (ϓ d (ϓ e (ϓ f Ϥ))))))
abbrev q:ME:=Ϙ 9
abbrev s1 (a:ME):ME:=(ϓ a Ϥ)
abbrev s2 (a b:ME):ME:=(ϓ a (ϓ b Ϥ))
abbrev s5 (a b c d e:ME):ME:=(ϓ a (ϓ b (ϓ c (ϓ d (ϓ e Ϥ)))))
abbrev s6 (a b c d e f:ME):ME:=(ϓ a (ϓ b (ϓ c (ϓ d (ϓ e (ϓ f Ϥ))))))
abbrev t:ME:=.bool j?
abbrev u:ME:=Ϙ 4
abbrev v:ME:=Ϙ 5
abbrev w:ME:=Ϙ 6
abbrev x (e:ME):MS:=.expr e
abbrev y:ME:=Ϙ 7
abbrev z:ME:=Ϙ 8
end F48
section
open F48
abbrev BS:=x (Q (T h "opens") (N 0))
abbrev AM:=X (Q (T h "weights") (N 1)) BS
abbrev Cr:=X (Q (T h "depths") (N 1)) AM
abbrev Bg:=H (T h "index") n k Cr
abbrev BA:=X (Q (T h "rows") n) Bg
abbrev B1:=A 2 (p2 (W 1) k) BA
abbrev CV:MS:=ϴ (ϝ 1) (W 16) B1
abbrev BX:=Y h "opens" l0 CV
abbrev CD:=Y h "weights" l0 BX
abbrev Ao:=Y h "depths" l0 CD
abbrev Al:=Y h "index" .dJ Ao
abbrev gN:=Y h "rows" l0 Al
theorem jZ:CF 62 1 2 gN:=aq (by kernel_rfl) (by kernel_rfl)
abbrev Ds:=R (K (T h "rows") k)
abbrev iO:=I (O (C M_ k (N 0)) (C .GtE k (L (T h "rows")))) B Ds
theorem fE:CF 69 2 0 iO:=aq (by kernel_rfl) (by kernel_rfl)
abbrev D1:=i (E (K (T h "opens") y) (N 1)) (a 5 (N 1))
def fY:=Ϣ (ϻ 4 (K (T h "weights") y)) D1
abbrev dc:=I (C .Gt (ϡ v! (K (T h "depths") y) w) o) (a 3 (ϡ v! (K (T h "depths") y) w)) fY
abbrev Dc:=R z
abbrev DX:=X (Q (T h "opens") v) Dc
abbrev Ez:=X (Q (T h "weights") u) DX
abbrev Dw:=X (Q (T h "depths") o) Ez
abbrev EX:=H (T h "index") k z Dw
abbrev EG:=X (Q (T h "rows") k) EX
abbrev B5:=A 8 (L (T h "rows")) EG
abbrev BV:=I (C .Gt u (W 4096)) B B5
def fz:=I (C .Gt o (W 24)) B BV
abbrev B6:=F 7 (c1 90 k) dc fz
def fK:=A 6 (c1 97 (J k 0)) B6
abbrev CI:=I (O (E (J k 0) (W 6)) (E (J k 0) (W 7))) (a 5 (N 1)) fK
abbrev Bv:=A 5 (N 0) CI
abbrev Ci:=A 4 (N 1) Bv
def lx:=A 3 (N 1) Ci
abbrev BD:=X (c2 111 h k) lx
abbrev CG:=I (C .GtE n (N 0)) (R n) BD
abbrev iK:=A 2 (.get (T h "index") k (N (-1))) CG
theorem dF:CF 76 2 7 iK:=aq (by kernel_rfl) (by kernel_rfl)
abbrev Hz:=R d
abbrev Iw:=I (E k (W 10)) (R (ϡ v! (p1 (J h 1)) (J h 3))) Hz
abbrev Ij:=I (O (E k (W 4)) (O (E k (W 5)) (O (E k (W 8)) (O (E k (W 9)) (E k (W 11)))))) (R (p1 (J h 1))) Iw
abbrev Ik:=I (O (E k (W 2)) (E k (W 3))) (R (J h 2)) Ij
abbrev kE:=A 1 (J h 0) Ik
theorem gX:CF 90 1 1 kE:=aq (by kernel_rfl) (by kernel_rfl)
abbrev Oc:=R (N 0)
abbrev oz:=I (O (E h (W 2)) (O (E h (W 3)) (E h (W 4)))) (R (N 1)) Oc
theorem i4:CF 97 1 0 oz:=aq (by kernel_rfl) (by kernel_rfl)
abbrev Lh:=R (N 2)
abbrev Le:=I (E h (W 10)) (R (N 4)) Lh
abbrev mj:=I (O (E h (W 2)) (E h (W 3))) (R (N 3)) Le
theorem iH:CF 104 1 0 mj:=aq (by kernel_rfl) (by kernel_rfl)
abbrev fJ:=x (m h "row" o)
abbrev dC:=x (c2 125 h (J k 3))
def Cq:MS:=Ϧ (O (E n (W 2)) (E n (W 3))) (x (c2 118 h k)) (Ϧ (O (E n (W 6)) (E n (W 7))) (i (C M_ (J k 1) (N 0)) B) (Ϧ (E n (W 10)) (I (O (M (c2 132 h (J k 1))) (C M_ (J k 2) (N 0))) B dC) (Ϧ (E n (W 8)) (i (M (O (c2 202 h (J k 1)) (c2 216 h (J k 1)))) B) (i (M (c2 132 h (J k 1))) B))))
abbrev Co:=F 3 (c1 90 k) fJ Cq
abbrev AP:=I (C J! (L k) (c1 104 n)) B Co
abbrev CW:=A 2 (J k 0) AP
abbrev gS:=I (O (E (L k) (N 0)) (O (C .LtE (J k 0) (W 1)) (C .Gt (J k 0) (W 11)))) B CW
theorem e9:CF 111 2 2 gS:=aq (by kernel_rfl) (by kernel_rfl)
abbrev HW:=x (c2 125 h (J k 2))
abbrev kC:=I (O (C .LtE (J k 1) (N 0)) (C W! (J k 1) (ϛ (ϩ 48)))) B HW
theorem hO:CF 118 2 0 kC:=aq (by kernel_rfl) (by kernel_rfl)
abbrev NW:=i (M (c2 132 h n)) B
abbrev mN:MS:=ϥ (ϝ 2) k NW
theorem eQ:CF 125 2 1 mN:=aq (by kernel_rfl) (by kernel_rfl)
def Ow:=R (O (C .LtE n (W 4)) (O (E n (W 6)) (E n (W 7))))
abbrev OK:=A 2 (J (m h "row" k) 0) Ow
abbrev oT:=I (O (E k (W 0)) (E k (W 14))) (R f) OK
theorem jh:CF 132 2 1 oT:=aq (by kernel_rfl) (by kernel_rfl)
abbrev Jw:=R (m h "put" (p3 (W 2) k n))
abbrev xh:=I (C W! k (ϛ (ϩ 48))) (R (c2 146 k n)) Jw
theorem pS:CF 139 3 0 xh:=aq (by kernel_rfl) (by kernel_rfl)
abbrev CM:=R (m h "put" (p2 (W 6) k))
theorem tf:CF 153 2 0 CM:=aq (by kernel_rfl) (by kernel_rfl)
abbrev zt:=R (m h "put" (p2 (W 7) k))
theorem rG:CF 160 2 0 zt:=aq (by kernel_rfl) (by kernel_rfl)
abbrev wM:=R (m h "put" (p2 (W 8) k))
theorem pW:CF 167 2 0 wM:=aq (by kernel_rfl) (by kernel_rfl)
abbrev yw:=R (J (m h "row" k) 0)
theorem qR:CF 174 2 0 yw:=aq (by kernel_rfl) (by kernel_rfl)
abbrev RO:=R (N (-1))
abbrev Rf:=I (O (E (J n 0) (W 4)) (O (E (J n 0) (W 5)) (O (E (J n 0) (W 9)) (E (J n 0) (W 8))))) (R (J n 1)) RO
abbrev Fq:=A 2 (m h "row" k) Rf
theorem wC:CF 181 2 1 Fq:=aq (by kernel_rfl) (by kernel_rfl)
abbrev Ue:=R (N 0)
abbrev TF:=I (E (J n 0) (W 4)) (R (W 5)) Ue
abbrev UU:=I (E (J n 0) (W 1)) (R (.get (ϛ (ϩ 47)) k (N 0))) TF
def B7:=I (O (E (J n 0) (W 2)) (E (J n 0) (W 3))) (R (J n 1)) UU
abbrev NZ:=A 2 (m h "row" k) B7
theorem ym:CF 188 2 1 NZ:=aq (by kernel_rfl) (by kernel_rfl)
abbrev Se:=R d
def Q4:=I (O (E (J n 0) (W 2)) (E (J n 0) (W 3))) (R (J n 2)) Se
abbrev Hh:=A 2 (m h "row" k) Q4
theorem vK:CF 195 2 1 Hh:=aq (by kernel_rfl) (by kernel_rfl)
abbrev PN:=R (E (J (m h "row" k) 0) (W 3))
abbrev C2:=I (D (C .LtE (W 1) k) (C .LtE k (W 11))) (R t) PN
theorem tQ:CF 202 2 0 C2:=aq (by kernel_rfl) (by kernel_rfl)
def T1:=R (O (E n (W 2)) (O (E n (W 4)) (E n (W 8))))
abbrev Vb:=A 2 (J (m h "row" k) 0) T1
abbrev Jy:=I (O (E k (W 12)) (O (E k (W 13)) (E k (W 14)))) (R t) Vb
theorem yx:CF 209 2 1 Jy:=aq (by kernel_rfl) (by kernel_rfl)
def Tz:=R (O (E n (W 6)) (E n (W 7)))
abbrev JH:=A 2 (J (m h "row" k) 0) Tz
theorem Ak:CF 216 2 1 JH:=aq (by kernel_rfl) (by kernel_rfl)
abbrev Vr:=R (c5 230 h k n o ϭ)
abbrev Vs:=I (E (K (T h "opens") k) (N 0)) (R k) Vr
abbrev Qi:=X (m h "row" k) Vs
theorem A0:CF 223 4 0 Qi:=aq (by kernel_rfl) (by kernel_rfl)
abbrev ta:=x (Q u (c4 223 h v n o))
abbrev OS:=R (Ϻ u)
abbrev OG:=F 5 k ta OS
abbrev y8:=A 4 l0 OG
theorem jA:CF 258 4 2 y8:=aq (by kernel_rfl) (by kernel_rfl)
abbrev GF:=x (Q (T h "bounds") (p2 (N 0) d))
abbrev GP:=X (Q (T h "variances") (W 0)) GF
abbrev hF:=X (Q (T h "params") z) GP
abbrev Gs:=g h "home" (N 0)
abbrev FZ:=Y h "finaliser" (N 0) Gs
abbrev Hm:=Y h "events" l0 FZ
abbrev FO:=Y h "props" l0 Hm
abbrev FP:=Y h "impls" l0 FO
abbrev FA:=Y h "under" (N (-1)) FP
abbrev EH:=Y h "cctor" (N 0) FA
abbrev Eh:=Y h "asm" y EH
abbrev Dk:=Y h "methods" l0 Eh
abbrev E0:=Y h "fields" l0 Dk
abbrev Dp:=F 8 w hF E0
abbrev Dh:=Y h "bounds" l0 Dp
abbrev DZ:=Y h "variances" l0 Dh
abbrev D6:=Y h "params" l0 DZ
abbrev Ek:=Y h "ifaces" l0 D6
abbrev Dz:=Y h "base" v Ek
abbrev DD:=Y h "flags" u Dz
abbrev D4:=Y h "sort" o DD
abbrev E2:=Y h "name" n D4
abbrev jc:=Y h "tid" k E2
theorem fS:CF 272 8 1 jc:=aq (by kernel_rfl) (by kernel_rfl)
abbrev E1:=g h "value" ϶
abbrev DB:=Y h "flags" w E1
abbrev Di:=Y h "access" v DB
abbrev DF:=Y h "kind" u Di
abbrev EW:=Y h "name" o DF
abbrev C7:=Y h "owner" n EW
abbrev p7:=Y h "fid" k C7
theorem lI:CF 293 7 0 p7:=aq (by kernel_rfl) (by kernel_rfl)
abbrev AV:=g h "native" (N 0)
abbrev BJ:=Y h "body" ϶ AV
abbrev BF:=Y h "pflags" (ϡ .Mult (p1 (N 0)) (L y)) BJ
abbrev BB:=Y h "pnames" (c1 349 (L y)) BF
abbrev Cm:=Y h "params" (Ϻ y) BB
abbrev C4:=Y h "ret" w Cm
abbrev Bk:=Y h "gbounds" l0 C4
abbrev AU:=Y h "gnames" l0 Bk
abbrev CU:=Y h "ngen" (N 0) AU
abbrev Aw:=Y h "flags" v CU
abbrev Ap:=Y h "access" u Aw
abbrev Ax:=Y h "name" o Ap
abbrev Ar:=Y h "owner" n Ax
abbrev gT:=Y h "mid" k Ar
theorem eU:CF 314 8 0 gT:=aq (by kernel_rfl) (by kernel_rfl)
abbrev MD:=g h "entry" (N 0)
abbrev LD:=Y h "asms" l0 MD
abbrev Ll:=Y h "names" ϭ LD
abbrev M0:=Y h "methods" (l1 ϶) Ll
abbrev Mn:=Y h "fields_" (l1 ϶) M0
abbrev NO:=Y h "types" (l1 ϶) Mn
abbrev my:=Y h "kt" (.new 79 Ϥ) NO
theorem pz:CF 335 1 0 my:=aq (by kernel_rfl) (by kernel_rfl)
abbrev pK:=x (Q k (ϡ v! (S "p") (.strOf n)))
abbrev Iv:=R (Ϻ k)
abbrev Hw:=Ϣ (ϴ (ϝ 2) h pK) Iv
abbrev kU:=A 1 l0 Hw
theorem hS:CF 349 1 2 kU:=aq (by kernel_rfl) (by kernel_rfl)
abbrev Rc:=R (K (T h "types") n)
abbrev SO:=I (O (C .LtE n (N 0)) (C .GtE n (L (T h "types")))) (R ϶) Rc
abbrev Gu:=A 2 (c2 188 (T h "kt") k) SO
theorem call_type_of:CF 356 2 1 Gu:=aq (by kernel_rfl) (by kernel_rfl)
abbrev yQ:=R (c3 139 n (W 2) d)
abbrev Rz:=R (c4 223 n (T u "base") (c2 195 n k) d)
abbrev Q6:=I (O (C M_ (T u "base") (N 0)) (E (T u "sort") (W 3))) (R (N (-1))) Rz
abbrev R6:=I (E o (W 3)) (I (E (T u "sort") (W 5)) (R (c3 139 n (W 3) d)) yQ) Q6
abbrev Rh:=I (C .Is u ϶) (R (N (-1))) R6
def iX:=A 4 (c2 356 h k) Rh
abbrev SD:=I (E o (W 8)) (R (c2 363 h (c2 181 n k))) iX
abbrev Sm:=I (E o (W 4)) (R (c3 139 n (W 5) d)) SD
abbrev RX:=A 3 (c2 174 n k) Sm
abbrev PD:=I (C M_ k (W 16)) (R (c2 370 h k)) RX
abbrev GJ:=A 2 (T h "kt") PD
theorem wm:CF 363 2 3 GJ:=aq (by kernel_rfl) (by kernel_rfl)
abbrev FD:=R (N (-1))
def gZ:=I (E k (W 13)) (R (W 12)) FD
abbrev sJ:=I (D (C .LtE (W 1) k) (C .LtE k (W 11))) (R (c3 139 (T h "kt") (W 2) d)) gZ
theorem mI:CF 370 2 0 sJ:=aq (by kernel_rfl) (by kernel_rfl)
abbrev GY:=R (C J! (ϡ o! (T h "flags") (W 32)) (N 0))
theorem vg:CF 384 1 0 GY:=aq (by kernel_rfl) (by kernel_rfl)
abbrev pv:=x (Q u w)
abbrev HF:=i (c2 216 (T h "kt") v) (ϥ (ϝ 6) (.rev (.listOf (.get (T h "bounds") v d))) pv)
abbrev Hr:=X (Q n v) HF
abbrev HG:=H o v (N 1) Hr
abbrev Hy:=I (C W! v o) .cont HG
abbrev pM:=A 5 (.pop u) Hy
abbrev Hs:=R n
abbrev Im:=Ϣ (.whil u pM) Hs
abbrev HQ:=A 4 (.rev (.listOf (.get (T h "bounds") k d))) Im
abbrev G8:=A 3 (.dictI1 k (N 1)) HQ
abbrev tp:=A 2 l0 G8
theorem nT:CF 393 2 5 tp:=aq (by kernel_rfl) (by kernel_rfl)
abbrev lj:MS:=Ϧ (c2 216 (T h "kt") n) (i (ϡ o! (.get (T h "gflags") n (N 0)) (W 2)) (R t)) (i (D (c2 202 (T h "kt") n) (M (c2 463 (T h "kt") n))) (R t))
abbrev B3:=R f
abbrev Cu:=F 2 (c2 393 h k) lj B3
abbrev nF:=I (ϡ o! (.get (T h "gflags") k (N 0)) (W 2)) (R t) Cu
theorem j8:CF 400 2 1 nF:=aq (by kernel_rfl) (by kernel_rfl)
abbrev pX:=R (O (C J! (ϡ o! (.get (T h "gflags") k (N 0)) (W 4)) (N 0)) (c2 400 h k))
theorem lN:CF 407 2 0 pX:=aq (by kernel_rfl) (by kernel_rfl)
abbrev ob:=i (D (c2 209 (T h "kt") n) (D (M (c2 421 h n)) (C E! (c2 188 (T h "kt") n) (ϛ (ύ [(ϋ 1),(ϋ 2),(ϋ 3)]))))) (R t)
abbrev GL:=R f
abbrev FL:=F 2 (c2 393 h k) ob GL
abbrev rQ:=I (ϡ o! (.get (T h "gflags") k (N 0)) (W 1)) (R t) FL
theorem l5:CF 414 2 1 rQ:=aq (by kernel_rfl) (by kernel_rfl)
abbrev A6:=R (D (E (c2 174 (T h "kt") k) (W 2)) (E (m h "sort" k) (W 3)))
theorem sX:CF 421 2 0 A6:=aq (by kernel_rfl) (by kernel_rfl)
abbrev I9:=a 1 (m h "base" k)
abbrev Lr:=X (Q n k) I9
abbrev ri:=H o k (N 1) Lr
abbrev M3:=R n
abbrev KO:=Ϣ (.whil (D (C J! k (N (-1))) (C E! k o)) ri) M3
abbrev LC:=A 3 ϭ KO
abbrev wZ:=A 2 l0 LC
theorem pE:CF 428 2 2 wZ:=aq (by kernel_rfl) (by kernel_rfl)
abbrev ti:=R (D (E (c2 174 h k) (W 3)) (E (c2 188 h k) (W 8)))
theorem nC:CF 463 2 0 ti:=aq (by kernel_rfl) (by kernel_rfl)
abbrev AK:=g h "store" k
abbrev Bo:=Y h "news" ϭ AK
abbrev BO:=Y h "gflags" ϭ Bo
abbrev Ce:=Y h "bounds" ϭ BO
abbrev Cv:=Y h "unders" ϭ Ce
abbrev AZ:=Y h "variances" ϭ Cv
abbrev C5:=Y h "sorts" ϭ AZ
abbrev Ch:=Y h "ifaces" ϭ C5
abbrev A8:=Y h "bases" ϭ Ch
abbrev n7:=Y h "kt" (T k "kt") A8
theorem ke:CF 477 2 0 n7:=aq (by kernel_rfl) (by kernel_rfl)
abbrev C0:=R (c2 363 (T h "store") k)
abbrev nP:=I (O (c2 216 (T h "kt") k) (E (c2 174 (T h "kt") k) (W 8))) (R (c2 561 h k)) C0
theorem eY:CF 484 2 0 nP:=aq (by kernel_rfl) (by kernel_rfl)
abbrev A1:=R (ϯ (C .Is n ϶) (N 0) (T n "sort"))
abbrev nK:=A 2 (c2 356 (T h "store") k) A1
theorem kd:CF 498 2 1 nK:=aq (by kernel_rfl) (by kernel_rfl)
abbrev xA:=R (c2 547 (T h "store") k)
abbrev kh:=I (c2 216 (T h "kt") k) (R (c2 407 h k)) xA
theorem ia:CF 519 2 0 kh:=aq (by kernel_rfl) (by kernel_rfl)
abbrev EL:=i (D (c1 384 u) (D (E (T u "access") (W 6)) (D (E (L (T u "params")) (N 0)) (M (ϡ o! (T u "flags") (W 1)))))) (R t)
abbrev mD:=A 4 (K (T h "methods") o) EL
abbrev Dg:=R f
abbrev E7:=F 3 (T n "methods") mD Dg
abbrev Et:=I (O (C .Is n ϶) (O (C J! (T n "sort") (W 1)) (ϡ o! (T n "flags") (W 1)))) (R f) E7
abbrev E6:=A 2 (c2 356 h k) Et
abbrev EP:=I (E (c2 174 (T h "kt") k) (W 4)) (R f) E6
abbrev oZ:=I (c2 202 (T h "kt") k) (R t) EP
theorem lG:CF 547 2 3 oZ:=aq (by kernel_rfl) (by kernel_rfl)
abbrev Hx:MS:=ϻ 4 (N 1)
abbrev Io:=H (T h "gflags") (c2 153 (T h "kt") u) v Hx
abbrev HX:=H (T h "bounds") (c2 153 (T h "kt") u) (Ϻ w) Io
abbrev pD:MS:=ϥ (Ϩ [5,6]) (T (K (T k "types") n) "bounds") HX
abbrev HA:MS:=ϻ 4 (N 1)
abbrev Ir:=H (T h "gflags") (c2 160 (T h "kt") u) v HA
abbrev HO:=H (T h "bounds") (c2 160 (T h "kt") u) (Ϻ w) Ir
abbrev pf:MS:=ϥ (Ϩ [5,6]) (T (K (T k "methods") o) "gbounds") HO
def iJ:=i o (A 4 (N 0) pf)
abbrev Fc:=I n (A 4 (N 0) pD) iJ
abbrev Fd:=Y h "gflags" ϭ Fc
abbrev th:=Y h "bounds" ϭ Fd
theorem nZ:CF 554 4 3 th:=aq (by kernel_rfl) (by kernel_rfl)
abbrev IZ:=i (D (c2 209 n u) (D (M (c2 421 h u)) (c3 594 h u o))) (a 3 u)
abbrev rY:=I (c2 202 n u) (R (m h "base" u)) IZ
abbrev KR:=R o
abbrev Kz:=F 4 (c2 393 h k) rY KR
abbrev LQ:=A 3 (ϯ (c2 400 h k) (c3 139 n (W 2) d) (W 12)) Kz
abbrev LX:=I (E (c2 174 n k) (W 8)) (R (m h "base" (c2 181 n k))) LQ
abbrev w6:=A 2 (T h "kt") LX
theorem pL:CF 561 2 3 w6:=aq (by kernel_rfl) (by kernel_rfl)
abbrev Oz:=g h "proved" .dJ
abbrev Ov:=Y h "listed" .dJ Oz
abbrev O5:=Y h "pairs" l0 Ov
abbrev xG:=Y h "strict" k O5
theorem qx:CF 580 2 0 xG:=aq (by kernel_rfl) (by kernel_rfl)
abbrev n8:=R (c4 608 h k n (N 0))
theorem kg:CF 594 3 0 n8:=aq (by kernel_rfl) (by kernel_rfl)
abbrev BN:=R (C W! (p2 k n) (T u "proved"))
abbrev B8:=X (c2 615 h u) BN
abbrev CT:=I (c4 629 h k n u) (R t) B8
abbrev nD:=A 4 (.new 583 (s1 o)) CT
theorem j0:CF 608 4 1 nD:=aq (by kernel_rfl) (by kernel_rfl)
abbrev pP:=a 2 (N 0)
abbrev Iy:=i (D (C E! o (T k "proved")) (c3 622 h o k)) (H (T k "proved") o (N 1) pP)
abbrev Ic:=Ϣ (ϻ 2 (N 1)) Iy
abbrev HI:=A 3 (K (T k "pairs") n) Ic
abbrev HJ:MS:=.whil (C M_ n (L (T k "pairs"))) HI
abbrev sT:=A 2 (N 0) HJ
theorem nw:CF 615 2 2 sT:=aq (by kernel_rfl) (by kernel_rfl)
abbrev z0:MS:=.tryx (R (c4 636 h (J k 0) (J k 1) n))
theorem rO:CF 622 3 0 z0:=aq (by kernel_rfl) (by kernel_rfl)
abbrev lV:=x (Q (T o "pairs") (p2 k n))
abbrev Eu:=R (C W! (p2 k n) (T o "proved"))
abbrev C6:=I (D (C E! (p2 k n) (T o "listed")) (C M_ (L (T o "pairs")) (W 512))) (H (T o "listed") (p2 k n) (N 1) lV) Eu
abbrev E3:=I (E n (W 12)) (R t) C6
abbrev EF:=I (O (E n (W 14)) (E (c2 174 u n) (W 8))) (R f) E3
abbrev Dt:=I (E k (W 14)) (R t) EF
abbrev DL:=I (O (M (c2 209 u k)) (M (c2 209 u n))) (R f) Dt
abbrev EO:=A 4 (T h "kt") DL
abbrev pR:=I (E k n) (R t) EO
theorem lJ:CF 629 4 1 pR:=aq (by kernel_rfl) (by kernel_rfl)
abbrev pb:=i (O (E v n) (c4 650 h v n o)) (R t)
abbrev pB:=i (O (E v n) (c4 650 h v n o)) (R t)
abbrev Il:=R f
abbrev Ht:=I (c2 421 h n) (ϥ (ϝ 5) (c2 435 h k) pB) Il
def iE:=F 5 (c2 428 h k) pb Ht
def iL:=I (D (E (c2 174 u k) (W 8)) (c2 216 u (c2 181 u k))) (R (c4 643 h (c2 181 u k) n o)) iE
abbrev Ih:=I (D (E (c2 174 u k) (W 4)) (E (c2 174 u n) (W 4))) (R (c4 664 h (c2 181 u k) (c2 181 u n) o)) iL
abbrev tT:=A 4 (T h "kt") Ih
theorem nV:CF 636 4 2 tT:=aq (by kernel_rfl) (by kernel_rfl)
abbrev Fh:=i (D (M (c2 216 (T h "kt") u)) (c4 629 h v n o)) (R t)
abbrev dk:=A 5 (ϯ (c2 202 (T h "kt") u) (c2 167 (T h "kt") u) u) Fh
abbrev Fs:=R f
abbrev FH:=F 4 (c2 393 h k) dk Fs
abbrev qG:=I (D (E n (c3 139 (T h "kt") (W 2) d)) (c2 400 h k)) (R t) FH
theorem nr:CF 643 4 2 qG:=aq (by kernel_rfl) (by kernel_rfl)
abbrev Jo:=i (O (E q (W 0)) (M (c4 657 h (J (Ϙ 10) 0) (J (Ϙ 10) 1) o))) (R f)
abbrev sj:=A 10 (ϯ (E q (W 2)) (p2 (K y z) (K w z)) (p2 (K w z) (K y z))) Jo
abbrev sI:=i (C J! (K w z) (K y z)) (A 9 (ϯ (C M_ z (L v)) (K v z) (W 0)) sj)
abbrev Nb:=R t
abbrev J0:=Ϣ (ϴ (ϝ 8) (L w) sI) Nb
abbrev NP:=I (C J! (L w) (L y)) (R f) J0
abbrev My:=A 7 (c2 195 u n) NP
abbrev K5:=A 6 (c2 195 u k) My
abbrev JF:=A 5 (m h "variance" (c2 188 u k)) K5
abbrev HV:=I (O (C J! (c2 174 u k) (W 2)) (O (C J! (c2 174 u n) (W 2)) (C J! (c2 188 u k) (c2 188 u n)))) (R f) JF
abbrev Ia:=A 4 (T h "kt") HV
abbrev wQ:=I (E k n) (R t) Ia
theorem pg:CF 650 4 7 wQ:=aq (by kernel_rfl) (by kernel_rfl)
abbrev Fg:=R (D (c2 202 (T h "kt") k) (M (c2 463 (T h "kt") k)))
abbrev qp:=I (c2 216 (T h "kt") k) (R (c2 400 h k)) Fg
theorem mf:CF 671 2 0 qp:=aq (by kernel_rfl) (by kernel_rfl)
abbrev tR:=i (M (c4 692 h k w u)) (R f)
abbrev Oo:=R t
def aX:=F 6 o tR Oo
abbrev OP:=I (D (ϡ o! n (W 4)) (M (m h "has_new" k))) (R f) aX
def bA:=I (D (ϡ o! n (W 2)) (M (c2 671 h k))) (R f) OP
abbrev N3:=I (ϡ o! n (W 1)) (Ϧ (c2 216 v k) (i (M (c2 414 h k)) (R f)) (i (M (c2 209 v k)) (R f))) bA
abbrev yh:=A 5 (T h "kt") N3
theorem df:CF 678 5 2 yh:=aq (by kernel_rfl) (by kernel_rfl)
abbrev E8:=R (c3 594 h k n)
abbrev pa:=I o (R (c3 601 h k n)) E8
theorem lC:CF 685 4 0 pa:=aq (by kernel_rfl) (by kernel_rfl)
abbrev JT:=R (c4 685 h (c2 167 u k) n o)
abbrev qT:=I (c2 216 u n) (R f) JT
abbrev rf:=R (c4 685 h (c2 167 u k) n o)
abbrev JL:=R (c4 685 h k n o)
abbrev LM:=I (c2 202 u k) (I (D (c2 463 u k) (c2 421 h n)) (R f) rf) JL
abbrev IP:=I (c2 216 u n) (R f) LM
abbrev ID:=I (c2 216 u k) (I (C W! n (c2 393 h k)) (R t) qT) IP
abbrev MP:=I (E k n) (R t) ID
abbrev xo:=A 4 (T h "kt") MP
theorem pO:CF 692 4 1 xo:=aq (by kernel_rfl) (by kernel_rfl)
abbrev HL:=i (M (c5 678 h (K n v) w (c4 258 (T h "kt") y o u) (N 0))) (R (W 8))
abbrev pA:=Ϣ (Ϫ (Ϩ [6,7]) (ϯ (C M_ v (L k)) (K k v) (p2 (N 0) d))) HL
def HD:=R (N 0)
abbrev sW:=Ϣ (ϴ (ϝ 5) (L n) pA) HD
theorem gQ:CF 699 5 3 sW:=aq (by kernel_rfl) (by kernel_rfl)
abbrev Mv:=x (Q v z)
abbrev Jn:MS:=ϥ (ϝ 8) (.rev (c1 90 (m (T h "kt") "row" w))) Mv
abbrev qS:=A 7 (c2 713 k w) Jn
abbrev qK:=a 7 (c3 720 h k w)
abbrev JD:=i (C E! w u) (H u w (N 1) qK)
abbrev sg:=A 7 (N 0) JD
abbrev Js:=i y (R y)
abbrev Jf:=Ϣ (Ϧ (C E! w o) (H o w (N 1) qS) (X (.pop v) sg)) Js
abbrev q5:=A 6 (K v (N (-1))) Jf
abbrev HU:=R (N 0)
abbrev HC:=Ϣ (.whil v q5) HU
abbrev Hu:=A 5 (l1 n) HC
abbrev HN:=A 4 ϭ Hu
abbrev xe:=A 3 ϭ HN
theorem pC:CF 706 3 6 xe:=aq (by kernel_rfl) (by kernel_rfl)
abbrev Ad:=R (N 0)
abbrev y9:=I (O (C .LtE o (N 0)) (O (C .GtE o (L (T h "types"))) (C .Is (K (T h "types") o) ϶))) (R (W 1)) Ad
def cD:=A 3 (c2 188 (T h "kt") k) y9
def Ae:=I (D (C J! n (W 2)) (C J! n (W 3))) (R (N 0)) cD
abbrev k7:=A 2 (c2 174 (T h "kt") k) Ae
theorem iP:CF 713 2 2 k7:=aq (by kernel_rfl) (by kernel_rfl)
abbrev j6:=R (c5 727 h k (J u 1) (J u 2) (J u 3))
abbrev As:=R (c5 699 h (T w "bounds") v v d)
def eX:=I (C J! (L v) (L (T w "params"))) (R (W 9)) As
abbrev Av:=I (C J! (E o (W 3)) (O (E (T w "sort") (W 2)) (E (T w "sort") (W 5)))) (R (W 15)) eX
def eZ:=A 6 (K (T k "types") (c2 188 (T h "kt") n)) Av
abbrev Au:=A 5 (c2 195 (T h "kt") n) eZ
abbrev Am:=I (D (C J! o (W 2)) (C J! o (W 3))) (R (N 0)) Au
def j7:=I (E o (W 10)) (A 4 (m (T h "kt") "row" n) j6) Am
abbrev na:=A 3 (c2 174 (T h "kt") n) j7
theorem jm:CF 720 3 4 na:=aq (by kernel_rfl) (by kernel_rfl)
abbrev xI:=i (D k (C E! k h)) (x (Q h k))
theorem se:CF 734 2 0 xI:=aq (by kernel_rfl) (by kernel_rfl)
abbrev jl:=x (c2 734 n (c3 769 u h v))
def qZ:=x (c2 734 n (c3 769 u h y))
abbrev J3:=I (O (E y (W 0)) (E (c2 174 (T h "kt") y) (W 5))) (x (c2 734 n (W 15))) qZ
abbrev jD:=A 7 (T (K (T h "fields_") w) "kind") J3
abbrev rC:=x (c5 748 h u k z n)
abbrev Kh:MS:=ϥ (ϝ 8) (T o "methods") rC
abbrev MX:=F 6 (T o "fields") jD Kh
abbrev Lq:=X (c4 755 u h (T o "bounds") n) MX
def jn:=F 5 (T o "ifaces") jl Lq
abbrev HP:=I (C J! (T o "base") (N (-1))) (x (c2 734 n (c3 769 u h (T o "base")))) jn
abbrev HR:=X (c4 554 u h k (N 0)) HP
abbrev Iu:=A 4 (.new 522 (s1 h)) HR
abbrev vm:=A 3 (K (T h "types") k) Iu
theorem pQ:CF 741 3 6 vm:=aq (by kernel_rfl) (by kernel_rfl)
abbrev A5:=x (c2 734 u (c3 769 k h w))
abbrev fv:=I (E w (W 0)) (x (c2 734 u (W 15))) A5
abbrev kW:=x (c4 554 k h n (N 0))
abbrev Cz:=i (T v "ngen") (X (c4 755 k h (T v "gbounds") u) kW)
abbrev Bs:=F 6 (T v "params") fv Cz
def fM:=X (c2 734 u (c3 769 k h (T v "ret"))) Bs
def fF:=I (E (c2 174 (T h "kt") (T v "ret")) (W 5)) (x (c2 734 u (W 15))) fM
abbrev BE:=I (T v "ngen") (x (c4 554 k h n o)) fF
abbrev nN:=A 5 (K (T h "methods") o) BE
theorem j9:CF 748 5 2 nN:=aq (by kernel_rfl) (by kernel_rfl)
def pG:=x (c2 734 o (c3 769 h k w))
abbrev pT:=I (O (E w (W 0)) (E (c2 174 (T k "kt") w) (W 5))) (x (c2 734 o (W 15))) pG
abbrev iI:MS:=ϥ (ϝ 6) v pT
abbrev pV:=i (c2 762 h w) (x (c2 734 o (W 2)))
abbrev Ig:MS:=ϥ (ϝ 6) (.sorted (T h "bounds")) pV
abbrev sY:=Ϣ (ϥ (Ϩ [4,5]) n iI) Ig
theorem nO:CF 755 4 3 sY:=aq (by kernel_rfl) (by kernel_rfl)
abbrev FE:=x (Q o v)
abbrev oa:MS:=ϥ (ϝ 5) (.get (T h "bounds") u d) FE
abbrev GX:=i (C E! u n) (H n u (N 1) oa)
abbrev FQ:=I (E u k) (R t) GX
abbrev nY:=A 4 (.pop o) FQ
abbrev FF:=R f
abbrev GN:=Ϣ (.whil o nY) FF
abbrev G7:=A 3 (.listOf (K (T h "bounds") k)) GN
abbrev rP:=A 2 ϭ G7
theorem mq:CF 762 2 4 rP:=aq (by kernel_rfl) (by kernel_rfl)
abbrev pe:=x (Q o y)
def eT:MS:=Ϧ (c2 216 (T k "kt") v) (i (C E! v (T h "gflags")) (R (W 9))) (ϥ (ϝ 7) (c1 90 w) pe)
abbrev HM:=I (O (E v (W 14)) (O (E v (W 15)) (C .GtE (J w 0) (W 8)))) (R (W 15)) eT
abbrev Ib:=A 6 (m (T k "kt") "row" v) HM
abbrev HZ:=H u v (N 1) Ib
abbrev HE:=I (C W! v u) .cont HZ
abbrev pH:=A 5 (.pop o) HE
abbrev Ie:=R (c3 706 h k n)
abbrev Iq:=Ϣ (.whil o pH) Ie
abbrev Gx:=A 4 ϭ Iq
abbrev sZ:=A 3 (l1 n) Gx
theorem nA:CF 769 3 5 sZ:=aq (by kernel_rfl) (by kernel_rfl)
abbrev P4:=R (m h "put" (p2 (K (.dictS ["a","r","b","o","w"] (s5 (N 4) (N 5) (N 8) (N 9) (N 11))) (J k 0)) (c2 798 h (J k 1))))
abbrev Py:=I (E (J k 0) (S "f")) (R (m h "put" (p4 (N 10) (c2 798 h (J k 1)) (N 0) (Ϻ (ϵ [none,none,(d? 0)] [1] (c2 798 n k) (J k 2) t))))) P4
abbrev P5:=I (O (E (J k 0) (S "c")) (E (J k 0) (S "v"))) (R (m h "put" (p3 (ϯ (E (J k 0) (S "c")) (N 2) (N 3)) (J k 1) (Ϻ (ϵ [none,none,(d? 0)] [1] (c2 798 n k) (J k 2) t))))) Py
abbrev P1:=I (O (E (J k 0) (S "x")) (E (J k 0) (S "m"))) (R (m h "put" (p2 (ϯ (E (J k 0) (S "x")) (N 6) (N 7)) (J k 1)))) P5
abbrev sA:=I (E (J k 0) (S "p")) (R (J k 1)) P1
theorem kH:CF 798 2 0 sA:=aq (by kernel_rfl) (by kernel_rfl)
abbrev tr:=a 4 (ϡ v! u (J (.get h o (p2 (N 0) l0)) 1))
abbrev OF:=i (C E! o n) (X (Q n o) tr)
abbrev tC:=A 3 (.pop u) OF
abbrev OA:=R n
abbrev OH:=Ϣ (.whil (C .Gt (L u) (N 0)) tC) OA
abbrev O0:=A 4 (ϵ [none,none] [1] k (J (.get h k (p2 (N 0) l0)) 1) t) OH
abbrev xQ:=A 2 l0 O0
theorem qV:CF 803 2 3 xQ:=aq (by kernel_rfl) (by kernel_rfl)
abbrev G0:=R (O (E (J h 0) (S "a")) (O (E (J h 0) (S "b")) (E h (p2 (S "p") (N 14)))))
abbrev sL:=I (E (J h 0) (S "c")) (R (C E! (J h 1) (p4 (N 2) (N 66) (N 67) (N 73)))) G0
theorem mu:CF 810 1 0 sL:=aq (by kernel_rfl) (by kernel_rfl)
abbrev qH:=R (O (E (J h 0) (S "v")) (E h (ϛ (ύ [(Ϗ "p"),(ϋ 7)]))))
theorem mT:CF 817 1 0 qH:=aq (by kernel_rfl) (by kernel_rfl)
abbrev i5:=i (O (c1 817 n) (ϡ o! (J (.get h n (p2 (N 0) l0)) 0) (N 2))) (R t)
abbrev Kj:=R f
abbrev wJ:=F 2 (ϡ v! (l1 k) (c2 803 h k)) i5 Kj
theorem pj:CF 824 2 1 wJ:=aq (by kernel_rfl) (by kernel_rfl)
abbrev xF:=R (M (c1 817 k))
abbrev S8:=R (C .Gt (L (ϵ [none,none,(d? 5)] [1] k (ϡ v! (l1 k) (c2 803 h k)) (C W! k n))) (N 0))
def oV:=A 5 (p3 (ϛ (ύ [(Ϗ "c"),(ϋ 64),(ύ [])])) (ϛ (ύ [(Ϗ "c"),(ϋ 65),(ύ [])])) (p2 (S "p") (N 14))) S8
abbrev Rt:=I (E n (N 71)) (R (O (C .Gt (ϡ o! u (N 4)) (N 0)) (O (c2 824 h k) (E k (ϛ (ύ [(Ϗ "c"),(ϋ 64),(ύ [])])))))) oV
abbrev RI:=I (E n (N 70)) (R (c2 824 h k)) Rt
def di:=I (E n (N 69)) (I o (R (O (C .Gt (ϡ o! u (N 1)) (N 0)) (C .Gt (L (ϵ [none,none] [1] k (c2 803 h k) (c1 810 k))) (N 0)))) xF) RI
def ju:=A 4 (ϯ o (J (K h k) 0) (N 0)) di
abbrev Gq:=A 3 (O (E (J k 0) (S "x")) (E (J k 0) (S "m"))) ju
theorem we:CF 829 3 3 Gq:=aq (by kernel_rfl) (by kernel_rfl)
abbrev Ou:=R (ϯ (O (E (J h 0) (S "a")) (E (J h 0) (S "r"))) (p1 (J h 1)) d)
abbrev yR:=I (O (E (J h 0) (S "c")) (E (J h 0) (S "v"))) (R (J h 2)) Ou
theorem ro:CF 836 1 0 yR:=aq (by kernel_rfl) (by kernel_rfl)
abbrev S7:=i o (R o)
abbrev zw:=A 3 (c2 843 h n) S7
abbrev Sy:=R (N 0)
def oE:=F 2 (.rev (c1 836 k)) zw Sy
def oF:=I (O (E (J k 0) (S "x")) (E (J k 0) (S "m"))) (R (ϯ (C W! k h) (N 0) (N 9))) oE
abbrev GC:=I (O (C W! (J k 0) (p4 (S "b") (S "o") (S "f") (S "w"))) (O (E k (p2 (S "p") (N 14))) (E k (p2 (S "p") (N 15))))) (R (N 15)) oF
theorem vY:CF 843 2 2 GC:=aq (by kernel_rfl) (by kernel_rfl)
abbrev kI:=i (E (J k 0) h) (R (J k 1))
abbrev OB:=R (N (-1))
abbrev y6:=F 1 (ϛ (ύ [(ύ [(ϋ 2),(ϋ 0)]),(ύ [(ϋ 64),(ϋ 0)]),(ύ [(ϋ 65),(ϋ 0)]),(ύ [(ϋ 66),(ϋ 0)]),(ύ [(ϋ 67),(ϋ 1)]),(ύ [(ϋ 68),(ϋ 0)]),(ύ [(ϋ 69),(ϋ 1)]),(ύ [(ϋ 70),(ϋ 1)]),(ύ [(ϋ 71),(ϋ 1)]),(ύ [(ϋ 72),(ϋ 1)]),(ύ [(ϋ 73),(ϋ 0)])])) kI OB
theorem qJ:CF 850 1 1 y6:=aq (by kernel_rfl) (by kernel_rfl)
abbrev OL:=i u (R u)
abbrev tj:=A 4 (c2 857 h o) OL
def kP:=R (ϯ (D (C M_ (N 68) (J k 1)) (D (C M_ (J k 1) (N 73)) (M (c3 829 h (J (J k 2) 0) (J k 1))))) (N 8) (N 0))
abbrev N5:=I (C J! (L (J k 2)) (c1 850 (J k 1))) (R (N 9)) kP
def kD:=I (C J! (E (J k 0) (S "v")) (E (J k 1) (N 68))) (R (N 15)) N5
def gk:=I (M n) (R (N 0)) kD
def kv:=F 3 (c1 836 k) tj gk
def gq:=I (D n (C M_ (c1 850 (J k 1)) (N 0))) (R (N 1)) kv
abbrev zz:=A 2 (O (E (J k 0) (S "c")) (E (J k 0) (S "v"))) gq
theorem sl:CF 857 2 3 zz:=aq (by kernel_rfl) (by kernel_rfl)
abbrev B9:=i (D k (C E! k h)) (x (Q h k))
theorem tu:CF 864 2 0 B9:=aq (by kernel_rfl) (by kernel_rfl)
def cZ:=x (c2 864 k (O (c2 843 h n) (c2 857 h n)))
abbrev pN:=I (O (D (E n (ϛ (ύ [(Ϗ "p"),(ϋ 0)]))) (C W! (S "v") o)) (D (E (J n 0) (S "r")) (C W! (S "r") o))) (x (c2 864 k (N 15))) cZ
theorem ly:CF 871 4 0 pN:=aq (by kernel_rfl) (by kernel_rfl)
abbrev Ay:=x (c4 871 h k v (S "vr"))
abbrev eV:MS:=ϥ (ϝ 5) u Ay
abbrev ka:=i (C W! v (c2 803 h v)) (x (c2 864 k (N 2)))
abbrev An:MS:=ϥ (ϝ 5) h ka
abbrev mQ:=Ϣ (ϥ (Ϩ [3,4]) n eV) An
theorem je:CF 878 3 3 mQ:=aq (by kernel_rfl) (by kernel_rfl)
abbrev vl:MS:=Ϫ (.sub y (p2 (S "x") z)) (K n z)
abbrev vU:=x (c4 871 y h q (S ""))
abbrev v7:=x (c4 871 y h q (S "vr"))
abbrev vh:MS:=Ϫ (.sub (Ϙ 13) q) (K y q)
abbrev vA:MS:=Ϫ (.sub (Ϙ 13) (p2 (S "m") z)) (K (Ϙ 10) z)
abbrev v5:=x (c4 871 (Ϙ 13) h q (S "v"))
abbrev PH:=i (C .Gt (L (Ϙ 10)) (N 0)) (x (c3 878 (Ϙ 13) h (Ϙ 10)))
abbrev QS:=F 9 (Ϙ 12) v5 PH
abbrev QN:=X (c4 871 (Ϙ 13) h (Ϙ 11) (S "r")) QS
abbrev OY:=Ϣ (ϴ (ϝ 8) (L (Ϙ 10)) vA) QN
abbrev N7:=F 9 y vh OY
def kK:=A 13 .dJ N7
abbrev Og:MS:=ϥ (Ϩ [10,11,12]) w kK
abbrev OE:=F 9 v v7 Og
abbrev OI:=X (c3 878 y h n) OE
abbrev Oh:=F 9 (ϡ v! o u) vU OI
abbrev O1:=Ϣ (ϴ (ϝ 8) (L n) vl) Oh
abbrev O4:=A 7 .dJ O1
abbrev AX:=Ϣ (Ϫ (Ϩ [2,3,4,5,6]) k) O4
theorem tO:CF 885 2 12 AX:=aq (by kernel_rfl) (by kernel_rfl)
abbrev vL:=R (ϵ [none,none,none,(d? 0)] [1,2] (p2 k (Ϻ (ϵ [none,none,(d? 3)] [1] (c2 798 n k) n t))) k t)
theorem px:CF 890 2 0 vL:=aq (by kernel_rfl) (by kernel_rfl)
abbrev tG:=g (Ϙ 10) "base" (c2 798 o (Ϙ 11))
abbrev Of:=x (Q (T h "fields_") (.new 296 (s6 (L (T h "fields_")) q (S "f") (c2 798 o (Ϙ 11)) (N 6) (N 0))))
def ey:=X (Q (T (Ϙ 10) "fields") (L (T h "fields_"))) Of
abbrev Oi:=x (Q (T (Ϙ 10) "methods") (T (Ϙ 15) "mid"))
abbrev Oa:=X (Q (T h "methods") (Ϙ 15)) Oi
abbrev Ob:=Y (Ϙ 15) "gbounds" (c2 890 o (Ϙ 12)) Oa
abbrev Ot:=Y (Ϙ 15) "ngen" (L (Ϙ 12)) Ob
def ew:=A 15 (.new 317 (ϓ (L (T h "methods")) (s6 q (S "m") (N 6) (N 0) (c2 798 o (Ϙ 13)) (ϵ [none,none,(d? 3)] [1] (c2 798 n k) (Ϙ 14) t)))) Ot
def Od:=R (Ϙ 16)
abbrev Jd:=X (c3 741 h q (Ϙ 16)) Od
def iZ:=A 16 (ϵ [none,none] [1] k n t) Jd
abbrev Kw:=Ϣ (ϥ (Ϩ [12,13,14]) z ew) iZ
abbrev Lp:=F 11 y ey Kw
def jd:=Y (Ϙ 10) "ifaces" (ϵ [none,none,(d? 3)] [1] (c2 798 n k) w t) Lp
abbrev L0:=F 11 v tG jd
abbrev K2:=Y (Ϙ 10) "bounds" (c2 890 o u) L0
abbrev IB:=X (Q (T h "types") (Ϙ 10)) K2
abbrev JW:=A 10 (.new 275 (ϓ q (s6 (S "X") (W 1) (N 0) (N (-1)) (.take (p2 (S "T") (S "U")) (L u)) (N 0)))) IB
abbrev MV:=A 9 (L (T h "types")) JW
abbrev MK:=Ϣ (Ϫ (Ϩ [4,5,6,7,8]) k) MV
abbrev xJ:=A 3 (T h "kt") MK
theorem rI:CF 895 3 14 xJ:=aq (by kernel_rfl) (by kernel_rfl)
abbrev OU:=R (E o u)
abbrev Om:=X (c2 885 u k) OU
abbrev N4:=A 4 (ϵ [none,none] [1] k n t) Om
abbrev yu:=A 3 (c3 895 h k n) N4
theorem si:CF 900 3 2 yu:=aq (by kernel_rfl) (by kernel_rfl)
abbrev uV:=R (p3 (S "c") (K (.dictS ["J","D","V","N","W"] (s5 (N 67) (N 69) (N 70) (N 71) (N 72))) h) (p1 k))
theorem mJ:CF 907 2 0 uV:=aq (by kernel_rfl) (by kernel_rfl)
abbrev OX:=R (p4 (p5 l0 l0 (l3 (ϛ (ύ [(Ϗ "c"),(ϋ 66),(ύ [])])) (c2 907 (S "J") (ϛ (ύ [(Ϗ "c"),(ϋ 64),(ύ [])]))) k) l0 (l1 (p3 o (ϛ (ύ [(Ϗ "p"),(ϋ 0)])) (l1 (c2 907 (S "D") (J h 1)))))) (p5 (l1 (p2 (N 1) l0)) (l1 (ϛ (ύ [(Ϗ "c"),(ϋ 64),(ύ [])]))) (l3 (ϛ (ύ [(Ϗ "c"),(ϋ 66),(ύ [])])) (ϛ (ύ [(Ϗ "c"),(ϋ 66),(ύ [])])) (c2 907 (S "D") (ϛ (ύ [(Ϗ "p"),(ϋ 7)])))) l0 (l1 (p3 u (c2 907 (S "W") (J h 2)) (l2 (c2 907 (S "N") (J h 0)) (c2 907 (S "D") (p2 (S "x") (N 0))))))) (p5 l0 l0 l0 (l1 (p2 (S "a") (ϛ (ύ [(Ϗ "v"),(ϋ 68),(ύ [])])))) (l2 (p3 v (c2 907 (S "V") (J h 1)) l0) (p3 l0 (J h 0) l0))) (p5 (l2 (p2 (N 0) (l1 (p2 (S "x") (N 1)))) (p2 (N 0) (l1 (p2 (S "x") (N 0))))) l0 (l1 (p3 (S "c") (N 73) d)) (l1 n) l0))
abbrev OJ:=A 5 (l3 (p2 (N 0) (l1 (J h 1))) (p2 (N 0) (l2 (ϛ (ύ [(Ϗ "c"),(ϋ 66),(ύ [])])) (J h 2))) (p2 (N 2) (l1 (J h 0)))) OX
abbrev Ol:=A 4 (l3 (p2 (N 4) l0) (p2 (N 0) (l2 (ϛ (ύ [(Ϗ "c"),(ϋ 65),(ύ [])])) n)) (p2 (N 0) (l1 (J h 1)))) OJ
abbrev OZ:=A 3 (l3 (p2 (N 1) (l1 (J h 1))) (p2 (N 0) (l2 (J h 2) (ϛ (ύ [(Ϗ "c"),(ϋ 64),(ύ [])])))) (p2 (N 0) (l1 (c2 907 (S "J") (J h 0))))) Ol
abbrev OT:=A 2 (p2 (S "w") (ϛ (ύ [(Ϗ "c"),(ϋ 64),(ύ [])]))) OZ
abbrev OQ:=A 1 (p3 (S "f") (ϛ (ύ [(Ϗ "c"),(ϋ 64),(ύ [])])) (p1 (ϛ (ύ [(Ϗ "v"),(ϋ 68),(ύ [])])))) OT
abbrev ow:=A 0 (p3 (p2 (S "m") (N 0)) (p2 (S "m") (N 1)) (p2 (S "m") (N 2))) OQ
theorem qA:CF 914 0 6 ow:=aq (by kernel_rfl) (by kernel_rfl)
abbrev yU:=R (ϡ v! (ϡ .Mult (N 11) k) (N 5))
abbrev yn:=I (C M_ k (L (ϛ (ύ [(ϋ 1),(ϋ 1),(ϋ 3),(ϋ 2),(ϋ 0),(ϋ 1),(ϋ 5),(ϋ 2),(ϋ 3),(ϋ 1),(ϋ 4),(ϋ 1),(ϋ 1),(ϋ 15),(ϋ 7),(ϋ 11),(ϋ 1),(ϋ 9),(ϋ 2),(ϋ 3),(ϋ 2),(ϋ 14),(ϋ 1),(ϋ 1),(ϋ 16),(ϋ 0),(ϋ 3),(ϋ 4),(ϋ 12),(ϋ 2),(ϋ 1),(ϋ 17),(ϋ 8)])))) (R (K (ϛ (ύ [(ϋ 1),(ϋ 1),(ϋ 3),(ϋ 2),(ϋ 0),(ϋ 1),(ϋ 5),(ϋ 2),(ϋ 3),(ϋ 1),(ϋ 4),(ϋ 1),(ϋ 1),(ϋ 15),(ϋ 7),(ϋ 11),(ϋ 1),(ϋ 9),(ϋ 2),(ϋ 3),(ϋ 2),(ϋ 14),(ϋ 1),(ϋ 1),(ϋ 16),(ϋ 0),(ϋ 3),(ϋ 4),(ϋ 12),(ϋ 2),(ϋ 1),(ϋ 17),(ϋ 8)])) k)) yU
abbrev Te:=I (C M_ k (L (K h (S "script")))) (R (K (K h (S "script")) k)) yn
abbrev RT:=H h (S "at") (ϡ v! k (N 1)) Te
abbrev FI:=A 1 (K h (S "at")) RT
theorem wX:CF 921 1 1 FI:=aq (by kernel_rfl) (by kernel_rfl)
abbrev N8:=R (ϯ (C .Gt (L (K h (S "known"))) (N 0)) (K (K h (S "known")) (ϡ p! k (L (K h (S "known"))))) (ϛ (ύ [(Ϗ "c"),(ϋ 64),(ύ [])])))
abbrev xE:=A 1 (c1 921 h) N8
theorem qM:CF 928 1 1 xE:=aq (by kernel_rfl) (by kernel_rfl)
abbrev NA:=R (K k (ϡ p! h (N 20)))
abbrev vx:=A 1 (.tup (ϓ (p3 (S "f") (ϛ (ύ [(Ϗ "c"),(ϋ 64),(ύ [])])) d) (ϓ (p2 (S "w") (ϛ (ύ [(Ϗ "v"),(ϋ 68),(ύ [])]))) (ϓ (p2 (S "b") (ϛ (ύ [(Ϗ "v"),(ϋ 68),(ύ [])]))) (ϓ (p2 (S "o") (ϛ (ύ [(Ϗ "c"),(ϋ 64),(ύ [])]))) (ϓ (p2 (S "p") (N 14)) (ϓ (p2 (S "a") (p2 (S "p") (N 15))) (ϓ (p3 (S "c") (N 60) d) (ϓ (p3 (S "v") (N 9999) d) (ϓ (p3 (S "c") (N 68) d) (ϓ (p3 (S "c") (N 69) d) (ϓ (p2 (S "x") (N 2)) (ϓ (p2 (S "m") (N 3)) (ϓ (c2 907 (S "J") (c2 907 (S "D") (ϛ (ύ [(Ϗ "p"),(ϋ 7)])))) (ϓ (c2 907 (S "V") (ϛ (ύ [(Ϗ "c"),(ϋ 64),(ύ [])]))) (s6 (p2 (S "a") (c2 907 (S "N") (ϛ (ύ [(Ϗ "c"),(ϋ 65),(ύ [])])))) (c2 907 (S "W") (ϛ (ύ [(Ϗ "v"),(ϋ 68),(ύ [])]))) (ϛ (ύ [(Ϗ "p"),(ϋ 0)])) (p2 (S "r") (ϛ (ύ [(Ϗ "c"),(ϋ 64),(ύ [])]))) (p3 (S "v") (N 69) (p1 (ϛ (ύ [(Ϗ "c"),(ϋ 64),(ύ [])])))) (p2 (S "m") (N 0)))))))))))))))))) NA
theorem pF:CF 935 1 1 vx:=aq (by kernel_rfl) (by kernel_rfl)
abbrev l6:=i (E n (K h (S "spot"))) (R (c1 935 o))
abbrev QU:=R k
abbrev PC:=Ϣ (ϥ (Ϩ [2,3]) (K h (S "hits")) l6) QU
abbrev Ba:=H h (S "spot") (ϡ v! (K h (S "spot")) (N 1)) PC
theorem tL:CF 942 2 2 Ba:=aq (by kernel_rfl) (by kernel_rfl)
abbrev QF:=R (c2 942 h (c2 907 (K (p5 (S "D") (S "V") (S "N") (S "W") (S "J")) (ϡ .Sub k (N 15))) o))
abbrev Pj:=I (E k (N 14)) (R (c2 942 h (p2 (S "a") o))) QF
abbrev Pd:=I (E k (N 13)) (R (c2 942 h o)) Pj
abbrev P7:=A 3 (c1 928 h) Pd
abbrev PA:=I (C M_ k (N 13)) (R (c2 942 h (K n k))) P7
abbrev Qw:=A 2 (.tup (ϓ (ϛ (ύ [(Ϗ "p"),(ϋ 7)])) (ϓ (ϛ (ύ [(Ϗ "c"),(ϋ 64),(ύ [])])) (ϓ (ϛ (ύ [(Ϗ "c"),(ϋ 65),(ύ [])])) (ϓ (ϛ (ύ [(Ϗ "c"),(ϋ 66),(ύ [])])) (ϓ (ϛ (ύ [(Ϗ "v"),(ϋ 68),(ύ [])])) (ϓ (ϛ (ύ [(Ϗ "p"),(ϋ 13)])) (ϓ (p2 (S "p") (N 12)) (s6 (c2 907 (S "J") (ϛ (ύ [(Ϗ "c"),(ϋ 64),(ύ [])]))) (c2 907 (S "D") (ϛ (ύ [(Ϗ "p"),(ϋ 13)]))) (c2 907 (S "V") (ϛ (ύ [(Ϗ "v"),(ϋ 68),(ύ [])]))) (c2 907 (S "N") (ϛ (ύ [(Ϗ "c"),(ϋ 64),(ύ [])]))) (c2 907 (S "W") (ϛ (ύ [(Ϗ "c"),(ϋ 65),(ύ [])]))) (p2 (S "a") (c2 907 (S "D") (p2 (S "a") (ϛ (ύ [(Ϗ "p"),(ϋ 7)])))))))))))))) PA
abbrev Az:=A 1 (ϡ p! (c1 921 h) (N 20)) Qw
theorem te:CF 949 1 3 Az:=aq (by kernel_rfl) (by kernel_rfl)
abbrev Mr:=x (Q w (c2 942 h (ϯ (C M_ z (N 6)) (K q z) (c1 928 h))))
abbrev J2:=A 9 (p6 (ϛ (ύ [(Ϗ "c"),(ϋ 64),(ύ [])])) (ϛ (ύ [(Ϗ "c"),(ϋ 66),(ύ [])])) (c2 907 (S "J") (p2 k o)) (p2 (S "a") (ϛ (ύ [(Ϗ "c"),(ϋ 64),(ύ [])]))) (ϛ (ύ [(Ϗ "c"),(ϋ 65),(ύ [])])) (p3 (S "c") (N 2) d)) Mr
abbrev fN:=A 8 (ϡ p! (c1 921 h) (N 8)) J2
abbrev MU:=x (Q u (p2 v w))
abbrev MJ:=Ϣ (ϴ (ϝ 7) (ϡ p! (c1 921 h) (N 3)) fN) MU
abbrev Ld:=A 6 l0 MJ
abbrev jj:=A 5 (K (p6 (N 0) (N 1) (N 2) (N 4) (N 0) (N 5)) (ϡ p! (c1 921 h) (N 6))) Ld
abbrev Jj:=R u
abbrev JC:=Ϣ (ϴ (ϝ 3) n jj) Jj
abbrev HS:=A 4 l0 JC
abbrev v8:=H h (S "known") (ϡ v! (K h (S "known")) (.compR [none,none,(d? 1)] [1] (p2 n k) n t)) HS
theorem pI:CF 954 3 7 v8:=aq (by kernel_rfl) (by kernel_rfl)
abbrev Oj:=x (Q (K h (S "hits")) (p2 n (c1 921 h)))
abbrev kN:=A 2 (ϡ v! (N 1) (ϡ p! (c1 921 h) (N 16))) Oj
abbrev N6:MS:=Ϫ (.sub h (S "known")) z
abbrev OM:=X (Q y (p3 q (Ϙ 10) (.compR [none,none,(d? 0)] [1] (c1 949 n) (ϡ p! (c1 921 h) (N 3)) t))) N6
abbrev Oy:=A 10 (c1 949 h) OM
abbrev kL:=A 9 (c3 954 h (S "m") (ϡ p! (c1 921 h) (N 4))) Oy
abbrev OR:=R (p5 o u v w y)
abbrev OO:=Ϣ (ϴ (ϝ 1) (ϡ p! (c1 921 h) (N 3)) kL) OR
abbrev Ox:=A 8 (K h (S "known")) OO
abbrev Nk:=A 7 l0 Ox
abbrev NG:=A 6 (.compR [none,none,(d? 0)] [1] (c1 949 n) (ϡ p! (c1 921 h) (N 3)) t) Nk
abbrev Kx:=A 5 (.compR [none,none,(d? 0)] [1] (c1 949 n) (ϡ p! (c1 921 h) (N 4)) t) NG
abbrev M8:=A 4 (.compR [none,none,(d? 0)] [1] (c1 949 n) (ϡ p! (c1 921 h) (N 2)) t) Kx
abbrev Nc:=A 3 (c3 954 h (S "x") (ϡ p! (c1 921 h) (N 3))) M8
abbrev sy:=Ϣ (ϴ (ϝ 1) (ϡ p! (c1 921 h) (N 3)) kN) Nc
abbrev Kc:=H h (S "hits") l0 sy
abbrev JU:=H h (S "spot") (N 0) Kc
abbrev zu:=H h (S "known") l0 JU
theorem qY:CF 959 1 10 zu:=aq (by kernel_rfl) (by kernel_rfl)
abbrev O3:MS:=Ϫ (.sub (T h "types") o) (.new 275 (ϓ o (s6 (S "T") v (N 0) w (.take (p1 (S "T")) u) (N 0))))
abbrev OW:=A 6 (ϯ (E v (W 3)) (N (-1)) (ϯ (E o (N 68)) n (N 12))) O3
abbrev tF:=A 5 (ϯ (C W! o (p3 (N 66) (N 67) (N 73))) (W 3) (ϯ (E o (N 68)) (W 2) (W 1))) OW
abbrev Oq:=R h
abbrev N2:=X (Q (T (J (T h "types") 64) "methods") (N 1)) Oq
abbrev O2:=X (Q (T h "methods") (.new 317 (ϓ (N 1) (s6 (N 64) (S ".ctor") (N 6) (W 32) (N 0) d)))) N2
abbrev OC:=Y (J (T h "types") 72) "bounds" (l1 (p2 (N 0) (p1 (c2 798 k (ϛ (ύ [(Ϗ "c"),(ϋ 64),(ύ [])])))))) O2
abbrev N9:=Y (J (T h "types") 71) "bounds" (l1 (p2 (N 4) d)) OC
abbrev OD:=Y (J (T h "types") 70) "bounds" (l1 (p2 (N 2) d)) N9
abbrev Lg:=Y (J (T h "types") 69) "bounds" (l1 (p2 (N 1) d)) OD
abbrev MI:=Y (J (T h "types") 65) "base" (c2 798 k (ϛ (ύ [(Ϗ "c"),(ϋ 64),(ύ [])]))) Lg
abbrev K3:=Ϣ (ϥ (Ϩ [3,4]) (ϛ (ύ [(ύ [(ϋ 2),(ϋ 0)]),(ύ [(ϋ 64),(ϋ 0)]),(ύ [(ϋ 65),(ϋ 0)]),(ύ [(ϋ 66),(ϋ 0)]),(ύ [(ϋ 67),(ϋ 1)]),(ύ [(ϋ 68),(ϋ 0)]),(ύ [(ϋ 69),(ϋ 1)]),(ύ [(ϋ 70),(ϋ 1)]),(ύ [(ϋ 71),(ϋ 1)]),(ύ [(ϋ 72),(ϋ 1)]),(ύ [(ϋ 73),(ϋ 0)])])) tF) MI
abbrev Lb:=Y h "types" (ϡ .Mult (l1 ϶) (N 74)) K3
abbrev LI:=A 2 (m k "put" (p3 (N 2) (N 2) d)) Lb
abbrev Jt:=A 1 (T h "kt") LI
abbrev oK:=A 0 (.new 338 Ϥ) Jt
theorem qy:CF 966 0 7 oK:=aq (by kernel_rfl) (by kernel_rfl)
abbrev EE:=i (M (c3 900 k u l0)) (R f)
abbrev DT:=i (M (c3 900 k (c1 959 n) o)) (R f)
abbrev XQ:=R t
abbrev XB:=Ϣ (ϴ (ϝ 5) (ϡ v! (N 1) (ϡ .FloorDiv (L h) (N 16))) DT) XQ
abbrev XM:=F 4 (c0 914) EE XB
abbrev XR:=A 3 (K (p4 l0 (l1 (N 8)) (l1 (N 15)) (l2 (N 1) (N 2))) (ϡ p! (c1 921 n) (N 4))) XM
abbrev XF:=A 2 (.dictS ["script","at"] (s2 h (N 0))) XR
abbrev C8:=A 1 (c0 966) XF
theorem T4:FnAt 973 (nE 973) (nz 973) (yG 973):=(Ru (l:=1) (by kernel_rfl)).1
end
end
end
section
variable {Q:V->Hp->Prop} {PQ:Fl->Ă->Hp->Prop} {E:m?->Prop}
def cw (m:D?) (v:V) (H:Hp):p? (V×Hp):=bif m then(bT H v).bind λb=>d? (ϑ b,H) else d? (v,H)
def fa:V->p? D?
 |ϑ b=>d? b
 |_=>e?
def Bj:V->p? C?
 |ϋ b=>d? b
 |_=>e?
def dZ {a:Type} (b:D?) (x:p? a):p? a:=bif b then x else e?
def runFor (chk:Hp->D?) (s:Ă->Hp->p? (Fl×Ă×Hp)) (a:V->Ă->Hp->p? (Ă×Hp)):g? V->Ă->Hp->p? (Fl×Ă×Hp)
 |[],ρ,H=>dZ (chk H) (d? (ϒ,ρ,H))
 |x::xs,ρ,H=>dZ (chk H) ((a x ρ H).bind λr=>(s r.1 r.2).bind λq=>match q.1 with
  |ϒ=>runFor chk s a xs q.2.1 q.2.2
  |Ϭ=>runFor chk s a xs q.2.1 q.2.2
  |ϲ=>d? (ϒ,q.2.1,q.2.2)
  |ϣ v=>d? (ϣ v,q.2.1,q.2.2))
def VE:V->p? (g? V)
 |ύ l=>d? l
 |_=>e?
def p9 (t:g? m?) (v:V) (ρ:Ă):p? Ă:=match t with
 |[]=>(VE v).bind λl=>if(b? l)=0 then d? ρ else e?
 |i::is=>match is with
  |[]=>d? (put v ρ i)
  |j::is=>(VE v).bind λl=>if(b? l)=b? (i::j::is) then d? (((i::j::is).zip l).foldl (λρ p=>put p.2 ρ p.1) ρ) else e?
def lU (chk:Hp->D?) (T:g? m?) (c:Ă->Hp->p? (V×Hp)) (e:Ă->Hp->p? (V×Hp)) (r:m?):g? V->Ă->Hp->p? Hp
 |[],_,H=>dZ (chk H) (d? H)
 |x::xs,ρ,H=>dZ (chk H) ((p9 T x ρ).bind λρ=>(c ρ H).bind λb=>(fa b.1).bind λt=>bif t then(e ρ b.2).bind λv=>(dY (ϊ r) v.1 v.2).bind λH=>lU chk T c e r xs ρ H else lU chk T c e r xs ρ b.2)
def JP (x:V) (H:Hp) (xs:g? V) (H':Hp):D?:=(match aH H' x with
 |some ys=>V.pJ ys xs
 |Option.none=>f?)&&(ao H' x== ao H x)
def Yj:g? (e!×m?×m?×MS):=[(966,0,7,oK),(335,1,0,my),(62,1,2,gN),(76,2,7,iK),(111,2,2,gS),(104,1,0,mj),(90,1,1,kE),(69,2,0,iO),(118,2,0,kC),(125,2,1,mN),(132,2,1,oT),(97,1,0,oz),(272,8,1,jc),(314,8,0,gT),(349,1,2,kU),(798,2,0,sA),(907,2,0,uV),(914,0,6,ow)]
def UY (a:e!):p? (m?×m?×MS):=Yj.lookup a
structure Wz (k m:m?) (s:MS) (a:e!):Prop where
 run:CF a k m s
theorem Q1 (h:E_ a ([]:g? (e!×m?×m?×MS))=d? t):Wz t.1 t.2.1 t.2.2 a:=by cases h
theorem bO {r t:m?×m?×MS} {l:g? (e!×m?×m?×MS)} (f:Wz r.1 r.2.1 r.2.2 b) (k:l.lookup a=d? t->Wz t.1 t.2.1 t.2.2 a) (h:E_ a ((b,r)::l)=d? t):Wz t.1 t.2.1 t.2.2 a:=by
 rw[Ĥ] at h;cases H:a== b using so with
 |true=>rw[H] at h;cases h;rw[U?.mp H];exact f
 |false=>rw[H] at h;exact k h
theorem C1 (h:UY a=d? t):Wz t.1 t.2.1 t.2.2 a:=
 bO ⟨qy⟩ (bO ⟨pz⟩ (bO ⟨jZ⟩ (bO ⟨dF⟩ (bO ⟨e9⟩ (bO ⟨iH⟩ (bO ⟨gX⟩ (bO ⟨fE⟩ (bO ⟨hO⟩ (bO ⟨eQ⟩ (bO ⟨jh⟩ (bO ⟨i4⟩ (bO ⟨fS⟩ (bO ⟨eU⟩ (bO ⟨hS⟩ (bO ⟨kH⟩ (bO ⟨mJ⟩ (bO ⟨qA⟩ (Q1)))))))))))))))))) h
def VD:V->D?
 |ϖ=>j?
 |_=>f?
def A3 (H:Hp) (n:m?):D?:=match H[n]? with
 |some c=>match c with
  |Ϛ l=>l.isEmpty
  |_=>f?
 |Option.none=>f?
mutual
noncomputable def aR (c:D?):m?->D?->ME->Ă->Hp->p? (V×Hp)
 |0,_,_,_,_=>e?
 |n+1,m,e,ρ,H=>match e with
  |϶=>cw m ϖ H
  |.bool b=>d? (ϑ b,H)
  |ϰ i=>cw m (ϋ i) H
  |.str s=>cw m (Ϗ s) H
  |Ϙ i=>(look ρ i).bind λv=>cw m v H
  |ϛ v=>cw m v H
  |.attr e a=>(aR c n f? e ρ H).bind λx=>(aA x.2 a x.1).bind λu=>cw m u x.2
  |ϡ op a b=>(aR c n f? a ρ H).bind λx=>(aR c n f? b ρ x.2).bind λy=>(cY op x.1 y.1 y.2).bind λr=>cw m r.1 r.2
  |.cmp op a b=>(aR c n f? a ρ H).bind λx=>(aR c n f? b ρ x.2).bind λy=>(bZ op x.1 y.1 y.2).bind λr=>d? (ϑ r,y.2)
  |.and a b=>bif m then(aR c n j? a ρ H).bind λx=>(fa x.1).bind λt=>bif t then aR c n j? b ρ x.2 else d? (ϑ f?,x.2)
   else(aR c n f? a ρ H).bind λx=>(bT x.2 x.1).bind λt=>bif t then aR c n f? b ρ x.2 else d? x
  |.or a b=>bif m then(aR c n j? a ρ H).bind λx=>(fa x.1).bind λt=>bif t then d? (ϑ j?,x.2) else aR c n j? b ρ x.2
   else(aR c n f? a ρ H).bind λx=>(bT x.2 x.1).bind λt=>bif t then d? x else aR c n f? b ρ x.2
  |.not a=>bif m then(aR c n j? a ρ H).bind λx=>(fa x.1).bind λt=>d? (ϑ !t,x.2)
   else(aR c n f? a ρ H).bind λx=>(bT x.2 x.1).bind λt=>d? (ϑ !t,x.2)
  |ϯ q a b=>(aR c n j? q ρ H).bind λx=>(fa x.1).bind λt=>bif t then aR c n m a ρ x.2 else aR c n m b ρ x.2
  |.tup d=>(eA c n d ρ H).bind λr=>cw m (ύ r.1) r.2
  |.list d=>(eA c n d ρ H).bind λr=>cw m (ϊ r.2.length) (r.2++[ό r.1])
  |ϭ=>cw m (ϊ (b? H)) (H++[ώ []])
  |.dJ=>cw m (ϊ (b? H)) (H++[Ϝ []])
  |.dictS ks d=>(eA c n d ρ (H++[Ϛ []])).bind λr=>dZ (A3 r.2 (b? H)) (cw m (ϊ (b? H)) (r.2.set (b? H) (Ϛ ((ks.zip r.1).foldl (λl p=>au p.1 p.2 l) []))))
  |.idx a i=>(aR c n f? a ρ H).bind λx=>(aR c n f? i ρ x.2).bind λy=>(bN x.1 y.1 y.2).bind λr=>cw m r y.2
  |.rev a=>(aR c n f? a ρ H).bind λx=>(tV x.1 x.2).bind λr=>cw m r.1 r.2
  |.take a b=>(aR c n f? a ρ H).bind λx=>(aR c n f? b ρ x.2).bind λy=>(mF x.1 y.1 y.2).bind λr=>cw m r.1 r.2
  |Ϯ f d=>dZ c ((eA c n d ρ H).bind λr=>(rL c n f r.1 r.2).bind λr=>cw m r.1 r.2)
  |.meth o x d=>dZ c ((aR c n f? o ρ H).bind λv=>(jz v.2 v.1).bind λk=>(Ā.meth k x).bind λf=>dZ (aA v.2 x v.1).isNone ((eA c n d ρ v.2).bind λr=>(rL c n f (v.1::r.1) r.2).bind λr=>cw m r.1 r.2))
  |.new k d=>dZ c ((eA c n d ρ H).bind λr=>(Ā.init k).bind λf=>(rL c n f (ϊ r.2.length::r.1) (r.2++[ϕ k []])).bind λq=>dZ (VD q.1) (cw m (ϊ r.2.length) q.2))
  |.len e=>(aR c n f? e ρ H).bind λx=>(gE x.2 x.1).bind λk=>cw m (ϋ k) x.2
  |Ϻ e=>(aR c n f? e ρ H).bind λx=>(iT x.2 x.1).bind λl=>cw m (ύ l) x.2
  |.listOf e=>(aR c n f? e ρ H).bind λx=>(iT x.2 x.1).bind λl=>cw m (ϊ x.2.length) (x.2++[ό l])
  |.append o e=>(aR c n f? o ρ H).bind λx=>dZ (dB x.2 x.1) ((aR c n f? e ρ x.2).bind λy=>(dY x.1 y.1 y.2).bind λH=>cw m ϖ H)
  |.pop o=>(aR c n f? o ρ H).bind λx=>(zr x.1 x.2).bind λr=>cw m r.1 r.2
  |.get o k e=>(aR c n f? o ρ H).bind λx=>dZ (ao x.2 x.1) ((aR c n f? k ρ x.2).bind λy=>(aR c n f? e ρ y.2).bind λz=>(jb x.1 y.1 z.1 z.2).bind λr=>cw m r z.2)
  |ϵ C T h I g=>(aR c n f? I ρ H).bind λx=>(aH x.2 x.1).bind λxs=>
   (lU (JP x.1 x.2 xs) T (λρ H=>aR c n j? g ρ H) (λρ H=>aR c n f? h ρ H) x.2.length xs (C.map λo=>o.bind (look ρ)) (x.2++[ό []])).bind λH'=>cw m (ϊ x.2.length) H'
  |_=>e?
noncomputable def eA (c:D?):m?->ME->Ă->Hp->p? (g? V×Hp)
 |0,_,_,_=>e?
 |n+1,e,ρ,H=>match e with
  |Ϥ=>d? ([],H)
  |ϓ e a=>(aR c n f? e ρ H).bind λx=>(eA c n a ρ x.2).bind λr=>d? (x.1::r.1,r.2)
  |_=>e?
noncomputable def ze (c:D?):m?->MT->V->Ă->Hp->p? (Ă×Hp)
 |0,_,_,_,_=>e?
 |n+1,t,v,ρ,H=>match t with
  |ϝ i=>d? (put v ρ i,H)
  |Ϩ is=>dZ (T! 2 (b? is)) ((p9 is v ρ).bind λρ=>d? (ρ,H))
  |.attr e a=>(aR c n f? e ρ H).bind λx=>(ck x.1 a v x.2).bind λH=>d? (ρ,H)
  |.sub e k=>(aR c n f? e ρ H).bind λx=>(aR c n f? k ρ x.2).bind λy=>(cG x.1 y.1 v y.2).bind λH=>d? (ρ,H)
noncomputable def fR (c:D?):m?->MS->Ă->Hp->p? (Fl×Ă×Hp)
 |0,_,_,_=>e?
 |n+1,s,ρ,H=>match s with
  |Ϲ=>d? (ϒ,ρ,H)
  |Ϣ a b=>(fR c n a ρ H).bind λr=>match r.1 with
   |ϒ=>fR c n b r.2.1 r.2.2
   |_=>d? r
  |.expr e=>(aR c n f? e ρ H).bind λx=>d? (ϒ,ρ,x.2)
  |Ϫ t e=>(aR c n f? e ρ H).bind λx=>(ze c n t x.1 ρ x.2).bind λr=>d? (ϒ,r.1,r.2)
  |ϻ i e=>(look ρ i).bind λx=>(aR c n f? e ρ H).bind λy=>(Bj x).bind λa=>(Bj y.1).bind λb=>d? (ϒ,put (ϋ (a+b)) ρ i,y.2)
  |Ϧ q a b=>(aR c n j? q ρ H).bind λx=>(fa x.1).bind λt=>bif t then fR c n a ρ x.2 else fR c n b ρ x.2
  |ϥ t I b=>(aR c n f? I ρ H).bind λx=>(aH x.2 x.1).bind λxs=>runFor (JP x.1 x.2 xs) (λρ H=>fR c n b ρ H) (λv ρ H=>ze c n t v ρ H) xs ρ x.2
  |ϴ t e b=>(aR c n f? e ρ H).bind λx=>(Bj x.1).bind λk=>dZ (decide (0<=k/\k<100000)) (runFor (λZ=>j?) (λρ H=>fR c n b ρ H) (λv ρ H=>ze c n t v ρ H) ((l! k.toNat).map λ(j:m?)=>ϋ (j:C?)) ρ x.2)
  |.ret e=>(aR c n f? e ρ H).bind λx=>d? (ϣ x.1,ρ,x.2)
  |.cont=>d? (Ϭ,ρ,H)
  |_=>e?
noncomputable def rL (c:D?):m?->e!->g? V->Hp->p? (V×Hp)
 |0,_,_,_=>e?
 |n+1,f,args,H=>dZ c ((UY f).bind λt=>dZ (À (b? args) t.1) ((fR c n t.2.2 (args.map d?++X? t.2.1 e?) H).bind λr=>d? (r.1.val,r.2.2)))
end
theorem XG {e g:Type} {o:p? e} {f:e->p? g} {b:g} (h:o.bind f=d? b):∃a,o=d? a/\f a=d? b:=by
 cases o using aaa with
 |none=>cases h
 |some a=>exact⟨a,rfl,h⟩
theorem jF {e g:Type} {o:p? e} {f:e->p? g} {b:g} {P:Prop} (h:o.bind f=d? b) (k:∀a,o=d? a->f a=d? b->P):P:=by
 cases o using aaa with
 |none=>cases h
 |some a=>exact k a rfl h
theorem qi {e g:Type} {o:p? e} {f:e->p? g} {b:g} {P:e->Prop} (h:o.bind f=d? b) (k:∀a,f a=d? b->P a):ok o P:=by
 cases o using aaa with
 |none=>cases h
 |some a=>exact .mk (k a h)
theorem Wm {e g:Type} {o:p? e} {f:e->p? g} {b:g} {P:e->Prop} (h:o.bind f=d? b) (k:∀a,f a=d? b->P a):Aq o P:=by
 cases o using aaa with
 |none=>cases h
 |some a=>exact k a h
theorem j5 {a:Type} {b:D?} {x:p? a} {r:a} {P:Prop} (h:dZ b x=d? r) (k:b=j?->x=d? r->P):P:=by
 cases b using so with
 |false=>cases h
 |true=>exact k rfl h
theorem F7 {a:Type} {v:V} {f:D?->p? a} {r:a} {H:Hp} {Q:D?->Hp->Prop} (h:(fa v).bind f=d? r) (k:∀t,f t=d? r->Q t H):jg Q v H:=by
 cases v using ϔ<;>first|(cases h;done)|exact k _ h
theorem CP {a:Type} {t:D?} {x y:p? a} {r:a} {X Y:ŝ->Prop} (h:(bif t then x else y)=d? r) (k:x=d? r->X ()) (l:y=d? r->Y ()):dG t X Y:=by
 cases t using so with
 |false=>exact .f (l h)
 |true=>exact .t (k h)
theorem stK {b:Type} {P:b->Prop} {a r:b} (h:d? a=d? r) (q:P r):P a:=z! h▸q
theorem bW {m:D?} {v:V} {r:V×Hp} {H:Hp} {Q:V->Hp->Prop} (h:cw m v H=d? r) (q:Q r.1 r.2):fin m v H Q:=by
 cases m using so with
 |false=>cases h;exact q
 |true=>exact qi h λb h=>by cases h;exact q
theorem uJ {t:g? m?} {v:V} {ρ a:Ă} {P:Ă->Prop} (h:p9 t v ρ=d? a) (p:P a):cA t v ρ P:=by
 have k:∀{t:g? m?} {l:g? V},(if(b? l)=b? t then d? ((t.zip l).foldl (λρ p=>put p.2 ρ p.1) ρ) else e?)=d? a->if(b? l)=b? t then P ((t.zip l).foldl (λρ p=>put p.2 ρ p.1) ρ) else a_:=by
  intro t l h;by_cases H:b? l=b? t
  ·have h':=(P? H).symm.trans h;clear h;cases h';exact(P? H).symm▸p
  ·have h':=(E? H).symm.trans h;clear h p;cases h'
 rcases t with _| ⟨i,_| ⟨j,r⟩⟩
 ·cases v using ϔ<;>first|exact(by cases h;done)|exact k (t:=[]) h
 ·cases h;exact p
 ·cases v using ϔ<;>first|exact(by cases h;done)|exact k (t:=i::j::r) h
theorem LN {x:V} {H H':Hp} {xs:g? V} (h:JP x H xs H'=j?):aH H' x=d? xs/\ao H' x=ao H x:=by
 obtain⟨a,b⟩:=t?.mp h;cases e:aH H' x using aaa with
 |none=>rw[e] at a;cases a
 |some ys=>rw[e] at a;exact⟨R? d? ((V.xS _ _).mp a),U?.mp b⟩
theorem uP {chk:Hp->D?} {chk':Hp->Prop} (g:∀H,chk H=j?->chk' H) {s:Ă->Hp->p? (Fl×Ă×Hp)} {A:V->Ă->Hp->p? (Ă×Hp)} {st:Ă->Hp->(Fl->Ă->Hp->Prop)->Prop} {as:V->Ă->Hp->(Ă->Hp->Prop)->Prop}
  (l:∀ρ H r P,s ρ H=d? r->P r.1 r.2.1 r.2.2->st ρ H P) (k:∀v ρ H r P,A v ρ H=d? r->P r.1 r.2->as v ρ H P) {Q:Fl->Ă->Hp->Prop} {r:Fl×Ă×Hp} (q:Q r.1 r.2.1 r.2.2):∀{xs:g? V} {ρ:Ă} {H:Hp},runFor chk s A xs ρ H=d? r->bG st as chk' xs ρ H Q:=by
 intro xs;induction xs with
 |nil=>exact λ{ρ H} h=>j5 h λe h=>⟨g _ e,by cases h;exact q⟩
 |cons x xs i=>
  show λ{ρ H} h=>j5 h λe h=>⟨g _ e,jF h λa E h=>jF h λb j h=>k _ _ _ _ _ E (l _ _ _ _ j ?_)⟩
  obtain⟨f,m,o⟩:=b;clear j;cases f using ϸ with
  |next=>exact i h
  |cont=>exact i h
  |brk=>cases h;exact q
  |ret v=>cases h;exact q
theorem Cd {chk:Hp->D?} {chk':Hp->Prop} (g:∀H,chk H=j?->chk' H) {T:g? m?} {C E:Ă->Hp->p? (V×Hp)} {c:Ă->Hp->(D?->Hp->Prop)->Prop} {e:Ă->Hp->(V->Hp->Prop)->Prop} {r:m?}
  (m:∀ρ H a P,C ρ H=d? a->jg P a.1 a.2->c ρ H P) (o:∀ρ H a P,E ρ H=d? a->P a.1 a.2->e ρ H P) {Q:Hp->Prop} {H':Hp} (q:Q H'):∀{xs:g? V} {ρ:Ă} {H:Hp},lU chk T C E r xs ρ H=d? H'->cC T c e chk' r xs ρ H Q:=by
 intro xs;induction xs with
 |nil=>exact λ{ρ H} h=>j5 h λf h=>⟨g _ f,by cases h;exact q⟩
 |cons x xs i=>
  exact λ{ρ H} h=>j5 h λf h=>⟨g _ f,jF h λa j h=>jF h λb k h=>uJ j (m _ _ _ _ k (F7 h λt h=>CP h (λh=>jF h λv l h=>o _ _ _ _ l (qi h λp h=>i h)) λh=>i h))⟩
structure uW (c:D?) (n:m?):Prop where
 e:∀{m e ρ H r d} {Q:V->Hp->Prop},aR c n m e ρ H=d? r->(c=j?->n<=d)->Q r.1 r.2->bh Ā d m e ρ H Q
 es:∀{e ρ H r d} {Q:g? V->Hp->Prop},eA c n e ρ H=d? r->(c=j?->n<=d)->Q r.1 r.2->i7 Ā d e ρ H Q
 a:∀{t v ρ H r d} {Q:Ă->Hp->Prop},ze c n t v ρ H=d? r->(c=j?->n<=d)->Q r.1 r.2->d6 Ā d t v ρ H Q
 s:∀{s ρ H r d} {Q:Fl->Ă->Hp->Prop},fR c n s ρ H=d? r->(c=j?->n<=d)->Q r.1 r.2.1 r.2.2->bu Ā d s ρ H Q
 f:∀{f args H r d} {Q:V->Hp->Prop},rL c n f args H=d? r->(c=j?->n<=d)->Q r.1 r.2->aG d f args H Q
theorem vB {v:V} {k:C?} (h:Bj v=d? k):v=ϋ k:=by cases v using ϔ<;>first|exact nS h|exact R? ϋ (z! h)
section
variable {c:D?} {n:m?} (R:uW c n) {d:m?} (hd:c=j?->n<=d)
include R hd
theorem uW.Ee {b:Type} (m e) {ρ H} {f:V×Hp->p? b} {r:b} {Q:V->Hp->Prop} (h:(aR c n m e ρ H).bind f=d? r) (k:∀a,f a=d? r->Q a.1 a.2):bh Ā d m e ρ H Q:=jF h λa e h=>R.e e hd (k a h)
theorem uW.Es {b:Type} (e) {ρ H} {f:g? V×Hp->p? b} {r:b} {Q:g? V->Hp->Prop} (h:(eA c n e ρ H).bind f=d? r) (k:∀a,f a=d? r->Q a.1 a.2):i7 Ā d e ρ H Q:=jF h λa e h=>R.es e hd (k a h)
theorem uW.F {b:Type} {a args H} {f:V×Hp->p? b} {r:b} {Q:V->Hp->Prop} (h:(rL c n a args H).bind f=d? r) (k:∀a,f a=d? r->Q a.1 a.2):aG d a args H Q:=jF h λa e h=>R.f e hd (k a h)
theorem Fz {m:D?} {e:ME} {ρ:Ă} {H:Hp} {r:V×Hp} {Q:V->Hp->Prop} (h:aR c (n+1) m e ρ H=d? r) (I:c=j?->1<=d/\n<=d - 1) (q:Q r.1 r.2):bh Ā d m e ρ H Q:=by
 cases e using ME.casesOn with
 |none=>exact bW h q
 |bool b=>exact stK (P:=λr=>Q r.1 r.2) h q
 |int i=>exact bW h q
 |str s=>exact bW h q
 |var i=>exact Wm (show((look ρ i).bind λv=>cw m v H)=d? r from h) λa h=>bW h q
 |gv v=>exact bW h q
 |attr e a=>exact R.Ee hd f? e (show((aR c n f? e ρ H).bind λx=>(aA x.2 a x.1).bind λu=>cw m u x.2)=d? r from h) λa h=>qi h λb h=>bW h q
 |bin op a b=>exact R.Ee hd f? a (show((aR c n f? a ρ H).bind λx=>(aR c n f? b ρ x.2).bind λy=>(cY op x.1 y.1 y.2).bind λg=>cw m g.1 g.2)=d? r from h) λa h=>R.Ee hd f? b h λb h=>qi h λc h=>bW h q
 |cmp op a b=>exact R.Ee hd f? a (show((aR c n f? a ρ H).bind λx=>(aR c n f? b ρ x.2).bind λy=>(bZ op x.1 y.1 y.2).bind λg=>d? (ϑ g,y.2))=d? r from h) λa h=>R.Ee hd f? b h λb h=>qi h λc h=>stK (P:=λr=>Q r.1 r.2) h q
 |and a b=>cases m using so with
  |true=>exact R.Ee hd j? a (show((aR c n j? a ρ H).bind λx=>(fa x.1).bind λt=>bif t then aR c n j? b ρ x.2 else d? (ϑ f?,x.2))=d? r from h) λa h=>F7 h λt h=>CP h (λh=>R.e h hd q) (λh=>stK (P:=λr=>Q r.1 r.2) h q)
  |false=>exact R.Ee hd f? a (show((aR c n f? a ρ H).bind λx=>(bT x.2 x.1).bind λt=>bif t then aR c n f? b ρ x.2 else d? x)=d? r from h) λa h=>qi h λt h=>CP h (λh=>R.e h hd q) (λh=>stK (P:=λr=>Q r.1 r.2) h q)
 |or a b=>cases m using so with
  |true=>exact R.Ee hd j? a (show((aR c n j? a ρ H).bind λx=>(fa x.1).bind λt=>bif t then d? (ϑ j?,x.2) else aR c n j? b ρ x.2)=d? r from h) λa h=>F7 h λt h=>CP h (λh=>stK (P:=λr=>Q r.1 r.2) h q) (λh=>R.e h hd q)
  |false=>exact R.Ee hd f? a (show((aR c n f? a ρ H).bind λx=>(bT x.2 x.1).bind λt=>bif t then d? x else aR c n f? b ρ x.2)=d? r from h) λa h=>qi h λt h=>CP h (λh=>stK (P:=λr=>Q r.1 r.2) h q) (λh=>R.e h hd q)
 |not a=>cases m using so with
  |true=>exact R.Ee hd j? a (show((aR c n j? a ρ H).bind λx=>(fa x.1).bind λt=>d? (ϑ !t,x.2))=d? r from h) λa h=>F7 h λt h=>stK (P:=λr=>Q r.1 r.2) h q
  |false=>exact R.Ee hd f? a (show((aR c n f? a ρ H).bind λx=>(bT x.2 x.1).bind λt=>d? (ϑ !t,x.2))=d? r from h) λa h=>qi h λt h=>stK (P:=λr=>Q r.1 r.2) h q
 |ite L a b=>exact R.Ee hd j? L (show((aR c n j? L ρ H).bind λx=>(fa x.1).bind λt=>bif t then aR c n m a ρ x.2 else aR c n m b ρ x.2)=d? r from h) λa h=>F7 h λt h=>CP h (λh=>R.e h hd q) (λh=>R.e h hd q)
 |tup E=>exact R.Es hd E (show((eA c n E ρ H).bind λg=>cw m (ύ g.1) g.2)=d? r from h) λa h=>bW h q
 |list E=>exact R.Es hd E (show((eA c n E ρ H).bind λg=>cw m (ϊ g.2.length) (g.2++[ό g.1]))=d? r from h) λa h=>bW h q
 |dictI=>exact bW h q
 |dJ=>exact bW h q
 |dictS ks E=>exact R.Es hd E (show((eA c n E ρ (H++[Ϛ []])).bind λg=>dZ (A3 g.2 (b? H)) (cw m (ϊ (b? H)) (g.2.set (b? H) (Ϛ ((ks.zip g.1).foldl (λl p=>au p.1 p.2 l) [])))))=d? r from h) λa h=>j5 h λe h=>⟨by
   unfold A3 at e;cases A:a.2[b? H]? using aaa with
   |none=>rw[A] at e;cases e
   |some c=>rw[A] at e;cases c using Ϸ<;>first|(cases e;done)|exact R? (λl=>d? (Ϛ l)) (ó.mp e),bW h q⟩
 |idx a i=>exact R.Ee hd f? a (show((aR c n f? a ρ H).bind λx=>(aR c n f? i ρ x.2).bind λy=>(bN x.1 y.1 y.2).bind λg=>cw m g y.2)=d? r from h) λa h=>R.Ee hd f? i h λb h=>qi h λc h=>bW h q
 |rev a=>exact R.Ee hd f? a (show((aR c n f? a ρ H).bind λx=>(tV x.1 x.2).bind λg=>cw m g.1 g.2)=d? r from h) λa h=>qi h λb h=>bW h q
 |take a D=>exact R.Ee hd f? a (show((aR c n f? a ρ H).bind λx=>(aR c n f? D ρ x.2).bind λy=>(mF x.1 y.1 y.2).bind λg=>cw m g.1 g.2)=d? r from h) λa h=>R.Ee hd f? D h λb h=>qi h λc h=>bW h q
 |call f E=>exact j5 (show dZ c ((eA c n E ρ H).bind λg=>(rL c n f g.1 g.2).bind λg=>cw m g.1 g.2)=d? r from h) λZ h=>R.Es hd E h λa h=>R.F hd h λb h=>bW h q
 |meth o x E=>exact j5 (show dZ c ((aR c n f? o ρ H).bind λv=>(jz v.2 v.1).bind λk=>(Ā.meth k x).bind λf=>dZ (aA v.2 x v.1).isNone ((eA c n E ρ v.2).bind λg=>(rL c n f (v.1::g.1) g.2).bind λg=>cw m g.1 g.2))=d? r from h) λZ h=>R.Ee hd f? o h λa h=>qi h λk h=>qi h λf h=>j5 h λe h=>⟨Option.isNone_iff_eq_none.mp e,R.Es hd E h λb h=>R.F hd h λy h=>bW h q⟩
 |len e=>exact R.Ee hd f? e (show((aR c n f? e ρ H).bind λx=>(gE x.2 x.1).bind λk=>cw m (ϋ k) x.2)=d? r from h) λa h=>qi h λb h=>bW h q
 |tuple e=>exact R.Ee hd f? e (show((aR c n f? e ρ H).bind λx=>(iT x.2 x.1).bind λl=>cw m (ύ l) x.2)=d? r from h) λa h=>qi h λb h=>bW h q
 |listOf e=>exact R.Ee hd f? e (show((aR c n f? e ρ H).bind λx=>(iT x.2 x.1).bind λl=>cw m (ϊ x.2.length) (x.2++[ό l]))=d? r from h) λa h=>qi h λb h=>bW h q
 |append o e=>exact R.Ee hd f? o (show((aR c n f? o ρ H).bind λx=>dZ (dB x.2 x.1) ((aR c n f? e ρ x.2).bind λy=>(dY x.1 y.1 y.2).bind λH=>cw m ϖ H))=d? r from h) λa h=>j5 h λB h=>⟨B,R.Ee hd f? e h λb h=>qi h λc h=>bW h q⟩
 |pop o=>exact R.Ee hd f? o (show((aR c n f? o ρ H).bind λx=>(zr x.1 x.2).bind λg=>cw m g.1 g.2)=d? r from h) λa h=>qi h λb h=>bW h q
 |get o k e=>exact R.Ee hd f? o (show((aR c n f? o ρ H).bind λx=>dZ (ao x.2 x.1) ((aR c n f? k ρ x.2).bind λy=>(aR c n f? e ρ y.2).bind λz=>(jb x.1 y.1 z.1 z.2).bind λg=>cw m g z.2))=d? r from h) λa h=>j5 h λB h=>⟨B,R.Ee hd f? k h λb h=>R.Ee hd f? e h λc h=>qi h λk h=>bW h q⟩
 |comp j T w K C=>exact R.Ee hd f? K (show((aR c n f? K ρ H).bind λx=>(aH x.2 x.1).bind λxs=>(lU (JP x.1 x.2 xs) T (λρ H=>aR c n j? C ρ H) (λρ H=>aR c n f? w ρ H) x.2.length xs (j.map λo=>o.bind (look ρ)) (x.2++[ό []])).bind λH'=>cw m (ϊ x.2.length) H')=d? r from h) λa h=>qi h λxs h=>jF h λO M h=>Cd (chk':=λH'=>aH H' a.1=d? xs/\ao H' a.1=ao a.2 a.1) (λH N=>LN N) (c:=λρ H Q=>bh Ā d j? C ρ H (jg Q)) (e:=bh Ā d f? w) (λρ H a P h p=>R.e h hd p) (λρ H a P h p=>R.e h hd p) (bW h q) M
 |new k E=>exact j5 (show dZ c ((eA c n E ρ H).bind λg=>(Ā.init k).bind λf=>(rL c n f (ϊ g.2.length::g.1) (g.2++[ϕ k []])).bind λq=>dZ (VD q.1) (cw m (ϊ g.2.length) q.2))=d? r from h) λJ h=>R.Es hd E h λa h=>qi h λf h=>⟨(I J).1,uW.F R (λZ=>(I J).2) h λb h=>j5 h λe h=>⟨by
   cases A:b.1<;>first|rfl|(rw[A] at e;cases e),bW h q⟩⟩
 |_=>cases h
theorem Ca {e:ME} {ρ:Ă} {H:Hp} {r:g? V×Hp} {Q:g? V->Hp->Prop} (h:eA c (n+1) e ρ H=d? r) (q:Q r.1 r.2):i7 Ā d e ρ H Q:=by
 cases e using ME.casesOn with
 |nil=>exact stK (P:=λr=>Q r.1 r.2) h q
 |cons e E=>exact R.Ee hd f? e (show((aR c n f? e ρ H).bind λx=>(eA c n E ρ x.2).bind λf=>d? (x.1::f.1,f.2))=d? r from h) λa h=>R.Es hd E h λb h=>stK (P:=λr=>Q r.1 r.2) h q
 |_=>cases h
theorem F6 {t:MT} {v:V} {ρ:Ă} {H:Hp} {r:Ă×Hp} {Q:Ă->Hp->Prop} (h:ze c (n+1) t v ρ H=d? r) (q:Q r.1 r.2):d6 Ā d t v ρ H Q:=by
 cases t using MT.casesOn with
 |var i=>exact stK (P:=λr=>Q r.1 r.2) h q
 |tup is=>exact j5 (show(dZ (T! 2 (b? is)) ((p9 is v ρ).bind λρ=>d? (ρ,H)))=d? r from h) λf h=>⟨w? f,jF h λa e h=>uJ e (stK (P:=λr=>Q r.1 r.2) h q)⟩
 |attr e a=>exact R.Ee hd f? e (show((aR c n f? e ρ H).bind λx=>(ck x.1 a v x.2).bind λH=>d? (ρ,H))=d? r from h) λa h=>qi h λb h=>stK (P:=λr=>Q r.1 r.2) h q
 |sub e k=>exact R.Ee hd f? e (show((aR c n f? e ρ H).bind λx=>(aR c n f? k ρ x.2).bind λy=>(cG x.1 y.1 v y.2).bind λH=>d? (ρ,H))=d? r from h) λa h=>R.Ee hd f? k h λb h=>qi h λc h=>stK (P:=λr=>Q r.1 r.2) h q
theorem Gf {s:MS} {ρ:Ă} {H:Hp} {r:Fl×Ă×Hp} {Q:Fl->Ă->Hp->Prop} (h:fR c (n+1) s ρ H=d? r) (q:Q r.1 r.2.1 r.2.2):bu Ā d s ρ H Q:=by
 cases s using MS.casesOn with
 |skip=>exact stK (P:=λr=>Q r.1 r.2.1 r.2.2) h q
 |seq a b=>
  show jF (show((fR c n a ρ H).bind λg=>match g.1 with| ϒ=>fR c n b g.2.1 g.2.2| _=>d? g)=d? r from h) λx e h=>R.s (s:=a) e hd ?_;obtain⟨f,w,o⟩:=x;clear e;cases f using ϸ with
  |next=>exact R.s h hd q
  |_=>exact stK (P:=λr=>Q r.1 r.2.1 r.2.2) h q
 |expr e=>exact R.Ee hd f? e (show((aR c n f? e ρ H).bind λx=>d? (ϒ,ρ,x.2))=d? r from h) λa h=>stK (P:=λr=>Q r.1 r.2.1 r.2.2) h q
 |assign t e=>exact R.Ee hd f? e (show((aR c n f? e ρ H).bind λx=>(ze c n t x.1 ρ x.2).bind λg=>d? (ϒ,g.1,g.2))=d? r from h) λa h=>jF h λb m h=>R.a (t:=t) m hd (stK (P:=λr=>Q r.1 r.2.1 r.2.2) h q)
 |augAdd i e=>
  show Wm (show((look ρ i).bind λx=>(aR c n f? e ρ H).bind λy=>(Bj x).bind λa=>(Bj y.1).bind λb=>d? (ϒ,put (ϋ (a+b)) ρ i,y.2))=d? r from h) λa h=>R.Ee hd f? e h λb h=>jF h λx E h=>jF h λy m h=>?_;obtain⟨b,o⟩:=b;cases vB E;clear E;cases vB m;exact stK (P:=λr=>Q r.1 r.2.1 r.2.2) h q
 |ite u a b=>exact R.Ee hd j? u (show((aR c n j? u ρ H).bind λx=>(fa x.1).bind λt=>bif t then fR c n a ρ x.2 else fR c n b ρ x.2)=d? r from h) λa h=>F7 h λt h=>CP h (λh=>R.s h hd q) (λh=>R.s h hd q)
 |fors t I b=>exact R.Ee hd f? I (show((aR c n f? I ρ H).bind λx=>(aH x.2 x.1).bind λxs=>runFor (JP x.1 x.2 xs) (λρ H=>fR c n b ρ H) (λv ρ H=>ze c n t v ρ H) xs ρ x.2)=d? r from h) λa h=>qi h λxs h=>uP (chk':=λH'=>aH H' a.1=d? xs/\ao H' a.1=ao a.2 a.1) (λH l=>LN l) (st:=bu Ā d b) (as:=d6 Ā d t) (λρ H r P h p=>R.s h hd p) (λv ρ H r P h p=>R.a h hd p) q h
 |forR t I b=>
  show R.Ee hd f? I (show((aR c n f? I ρ H).bind λx=>(Bj x.1).bind λk=>dZ (decide (0<=k/\k<100000)) (runFor (λZ=>j?) (λρ H=>fR c n b ρ H) (λv ρ H=>ze c n t v ρ H) ((l! k.toNat).map λ(j:m?)=>ϋ (j:C?)) ρ x.2))=d? r from h) λa h=>jF h λk E h=>j5 h λl h=>?_;obtain⟨x,o⟩:=a;cases vB E;exact⟨(F_ l).1,(F_ l).2,uP (chk':=λZ=>ŀ) (λH l=>trivial) (st:=bu Ā d b) (as:=d6 Ā d t) (λρ H r P h p=>R.s h hd p) (λv ρ H r P h p=>R.a h hd p) q h⟩
 |ret e=>exact R.Ee hd f? e (show((aR c n f? e ρ H).bind λx=>d? (ϣ x.1,ρ,x.2))=d? r from h) λa h=>stK (P:=λr=>Q r.1 r.2.1 r.2.2) h q
 |cont=>exact stK (P:=λr=>Q r.1 r.2.1 r.2.2) h q
 |_=>cases h
omit hd in
theorem G1 {f:e!} {args:g? V} {H:Hp} {r:V×Hp} {Q:V->Hp->Prop} (h:rL c (n+1) f args H=d? r) (b:c=j?->n+1<=d) (q:Q r.1 r.2):aG d f args H Q:=
 j5 (show dZ c ((UY f).bind λt=>dZ (À (b? args) t.1) ((fR c n t.2.2 (args.map d?++X? t.2.1 e?) H).bind λr=>d? (r.1.val,r.2.2)))=d? r from h) λa h=>jF h λt e h=>j5 h λg h=>jF h λx E h=>by
  cases d using aac with
  |zero=>exact absurd (b a) (Ĭ n)
  |succ d=>exact(C1 e).run (Nat.eq_of_beq_eq_true g) (R.s E (λZ=>ķ (b a)) (show Q x.1.val x.2.2 from stK (P:=λr=>Q r.1 r.2) h q))
end
theorem yB (c:D?):∀n,uW c n:=by
 intro n;induction n with
 |zero=>exact⟨(λh Z Z=>nomatch h),(λh Z Z=>nomatch h),(λh Z Z=>nomatch h),(λh Z Z=>nomatch h),(λh Z Z=>nomatch h)⟩
 |succ n R=>
  show⟨λh H q=>Fz R (λa=>ŧ (H a)) h (λa=>⟨S? (Ů (w_ n)) (H a),Nat.le_pred_of_lt (H a)⟩) q,λh H q=>Ca R (λa=>ŧ (H a)) h q,λh H q=>F6 R (λa=>ŧ (H a)) h q,λh H q=>Gf R (λa=>ŧ (H a)) h q,λh H q=>G1 R h H q⟩
theorem Xk {n d:m?} {s:MS} {ρ a:Ă} {H H':Hp} {f:Fl} {Q:Fl->Ă->Hp->Prop} (h:fR f? n s ρ H=d? (f,a,H')) (q:Q f a H'):bu Ā d s ρ H Q:=(yB f? n).s h (λh=>(O? h).elim) q
theorem bl {n d:m?} {s:MS} {ρ:Ă} {H H':Hp} {v:V} {Q:V->Hp->Prop} (h:(fR f? n s ρ H).map (λr=>(r.1.val,r.2.2))=d? (v,H')) (q:Q v H'):bu Ā d s ρ H (dA Q):=by
 show bf (K!.mp h) λr e E=>?_;cases E;exact(yB f? n).s e (λh=>(O? h).elim) q
def YR {a:Type} (x y:a):Fl->a
 |ϒ=>x
 |_=>y
def gm:m?->MS->Ă->Hp->MS×Ă×Hp
 |0,s,ρ,H=>(s,ρ,H)
 |n+1,s,ρ,H=>match s with
  |Ϣ a b=>match fR f? 30 a ρ H with
   |some r=>YR (gm n b r.2.1 r.2.2) (Ϣ a b,ρ,H) r.1
   |Option.none=>(Ϣ (gm n a ρ H).1 b,(gm n a ρ H).2)
  |Ϧ q a b=>match(aR f? 30 j? q ρ H).bind λx=>(fa x.1).map λt=>(t,x.2) with
   |some r=>bif r.1 then gm n a ρ r.2 else gm n b ρ r.2
   |Option.none=>(Ϧ q a b,ρ,H)
  |s=>(s,ρ,H)
set_option tactic.hygienic true in
theorem Qg {d:m?}:∀(n:m?) (s:MS) (ρ:Ă) (H:Hp) (Q:Fl->Ă->Hp->Prop),bu Ā d (gm n s ρ H).1 (gm n s ρ H).2.1 (gm n s ρ H).2.2 Q->bu Ā d s ρ H Q:=by
 intro n;induction n with
 |zero=>intro s ρ H Q h;exact h
 |succ n i=>
  intro s ρ H Q h;cases s using MS.casesOn with
  |seq a b=>
   cases e:fR f? 30 a ρ H using aaa with
   |none=>
    have E:gm (n+1) (Ϣ a b) ρ H=(Ϣ (gm n a ρ H).1 b,(gm n a ρ H).2):=by change(match fR f? 30 a ρ H with|some r=>_| Option.none=>_)=_;rw[e]
    rw[E] at h;exact i a ρ H _ h
   |some r=>
    obtain⟨f,g,H'⟩:=r;have E:gm (n+1) (Ϣ a b) ρ H=YR (gm n b g H') (Ϣ a b,ρ,H) f:=by change(match fR f? 30 a ρ H with|some r=>YR (gm n b r.2.1 r.2.2) (Ϣ a b,ρ,H) r.1| Option.none=>_)=_;rw[e]
    rw[E] at h;clear E;cases f using ϸ with
    |next=>exact Xk (s:=a) e (i b g H' Q h)
    |_=>exact h
  |ite q a b=>
   cases e:(aR f? 30 j? q ρ H).bind λx=>(fa x.1).map λt=>(t,x.2) using aaa with
   |none=>
    have E:gm (n+1) (Ϧ q a b) ρ H=(Ϧ q a b,ρ,H):=by change(match(aR f? 30 j? q ρ H).bind λx=>(fa x.1).map λt=>(t,x.2) with|some r=>_| Option.none=>_)=_;rw[e]
    rw[E] at h;exact h
   |some r=>
    have E:gm (n+1) (Ϧ q a b) ρ H=bif r.1 then gm n a ρ r.2 else gm n b ρ r.2:=by change(match(aR f? 30 j? q ρ H).bind λx=>(fa x.1).map λt=>(t,x.2) with|some r=>(bif r.1 then gm n a ρ r.2 else gm n b ρ r.2)| Option.none=>_)=_;rw[e]
    rw[E] at h;obtain⟨⟨v,j⟩,l,k⟩:=XG e;show(yB f? 30).e (m:=j?) (e:=q) l (λh=>(O? h).elim) ?_;cases v using ϔ<;>first|(cases k;done)|skip
    cases k;rename_i t;clear E e l;cases t using so with
    |true=>exact i a ρ j Q h
    |false=>exact i b ρ j Q h
  |_=>exact h
theorem pn {d:m?} (n:m?) {s:MS} {ρ:Ă} {H:Hp} (s':MS) {Q:Fl->Ă->Hp->Prop} (e:gm n s ρ H=(s',ρ,H)) (h:bu Ā d s' ρ H Q):bu Ā d s ρ H Q:=Qg n s ρ H Q (by rw[e];exact h)
local macro_rules
  | `(tactic| omega) => do
    let h := Lean.mkIdent `hd
    let a ← `(by with_reducible assumption)
    let d ← `(by first | ((fail_if_success (fail_if_success decide)); exact Eq.refl true) | decide)
    let ts ← ("Nat.le_of_ble_eq_true D,DQ AD,rj AD,Aa D,YU D,PS D,Nat.le_add_right HH,Zx AD,Ec AD,Xy AD,Sv AD,Wr AD,ZL AD,int_lt AD,Nat.ne_of_gt A,Nat.le_of_lt A,Nat.ne_of_lt A,UJ AAD,YJ AD,Wu A,Wn A,WC AD,WO AD,Wo AD,WK ADD,X7 AA,XV AA,YX AADD,XY AAHDD,Yp AD,YD A,W8 AAD,Yn AAD,Ys AD,Wj AD,Yy AAD,UT A,U6 A,Z9 AD,Xx AD,vZ AA,WI AAD,Nat.le_of_not_lt A,Nat.lt_of_lt_of_le AA,Nat.lt_of_le_of_lt AA,Nat.le_trans AA,Or.inl D".splitOn ",").toArray.mapM fun s => do
      let l := s.splitOn " "
      let f := Lean.mkIdent l.head!.toName
      let r ← (l.getLast!.toList.toArray.mapM fun c => if c = 'A' then pure a else if c = 'D' then pure d else `(_))
      `(Lean.Parser.Tactic.tacticSeq| exact $f $r*)
    `(tactic| first | exact Zx $h (by exact rfl) | with_reducible assumption | (first $[| $ts]*) | lia | omega (splitNatSub := true))
local macro_rules
  | `(tactic| simp! [$ls,*]) => do
    let ids ← ("Jk IC Rk SG Q8 Q9 WE Jq SV RK K6 Nz Tc RB MM IX RH Sz NV DY yc DK Dx RQ SW MF K1 JG SH Rj Ei yI Dl za y7 Rg Sq EI Nl Mi En Zl Y7 Zj ZB Y5 KI Q7 De L6 MG Wh Ta YY Zc Zw M1 Jh Rp J1 Td NX Tb I0 Kn IE Sg IA Ss VP VW JX SI Q3 Ef M6 ZI MY EC vM wh Nv N0 La Sj IK RG z3 DG KA Q5 RJ Ab LV Mq Sa RF I3 IV RL II Lm Em ik NS Rn W7 NN RD Jc Su RU Rd JA LH RP J5 Jp Lc Ky IT K7 R8 Lu KN KY Ke MB MR Rq Q2 Mo Jz Nj eO SN Ry Rm JR SM zl DU E5 MO Mh Nr JJ kM kA List.map List.replicate List.cons_append List.nil_append NQ Je rB sh bL SY Rb SX IF Nn JI Ka Fa Ex Ag y5 Fl.val Sf RR Ri SF DV Eb decide_true decide_false Bool.not_true Bool.not_false List.length_cons List.length_nil List.zip_cons_cons List.zip_nil_left List.foldl_cons List.foldl_nil if_true if_false reduceIte Bool.false_eq_true List.set_cons_zero List.set_cons_succ Int.cast_ofNat_Int Int.reduceEq Int.reduceNe Int.reduceLT Int.reduceLE Int.reduceNeg Option.map_some".splitOn " ").toArray.mapM fun s => `(Lean.Parser.Tactic.simpLemma| $(Lean.mkIdent s.toName):ident)
    let l := ls.getElems.map fun x => x.raw
    let mk (a : Array Lean.Syntax) : Lean.Syntax.TSepArray [`Lean.Parser.Tactic.simpStar, `Lean.Parser.Tactic.simpErase, `Lean.Parser.Tactic.simpLemma] "," := .ofElems (ids.map (⟨·.raw⟩) ++ a.map (⟨·⟩))
    match l.findIdx? (·.isOfKind `Lean.Parser.Tactic.simpStar) with
    | none => let a := mk l; `(tactic| try simp only [$a,*])
    | some i => let a := mk (l.extract 0 i ++ l.extract (i + 1) l.size); let b := mk (l.extract 0 i); `(tactic| first | simp only [$a,*] | try simp only [$b,*])
  | `(tactic| simp! only [$ls,*]) => do
    let ids ← ("Jk IC Rk SG Q8 Q9 WE Jq SV RK K6 Nz Tc RB MM IX RH Sz NV DY yc DK Dx RQ SW MF K1 JG SH Rj Ei yI Dl za y7 Rg Sq EI Nl Mi En Zl Y7 Zj ZB Y5 KI Q7 De L6 MG Wh Ta YY Zc Zw M1 Jh Rp J1 Td NX Tb I0 Kn IE Sg IA Ss VP VW JX SI Q3 Ef M6 ZI MY EC vM wh Nv N0 La Sj IK RG z3 DG KA Q5 RJ Ab LV Mq Sa RF I3 IV RL II Lm Em ik NS Rn W7 NN RD Jc Su RU Rd JA LH RP J5 Jp Lc Ky IT K7 R8 Lu KN KY Ke MB MR Rq Q2 Mo Jz Nj eO SN Ry Rm JR SM zl DU E5 MO Mh Nr JJ kM kA List.map List.replicate List.cons_append List.nil_append NQ Je rB sh bL SY Rb SX IF Nn JI Ka Fa Ex Ag y5 Fl.val Sf RR Ri SF DV Eb decide_true decide_false Bool.not_true Bool.not_false List.length_cons List.length_nil List.zip_cons_cons List.zip_nil_left List.foldl_cons List.foldl_nil if_true if_false reduceIte Bool.false_eq_true List.set_cons_zero List.set_cons_succ Int.cast_ofNat_Int Int.reduceEq Int.reduceNe Int.reduceLT Int.reduceLE Int.reduceNeg Option.map_some".splitOn " ").toArray.mapM fun s => `(Lean.Parser.Tactic.simpLemma| $(Lean.mkIdent s.toName):ident)
    let all : Lean.Syntax.TSepArray [`Lean.Parser.Tactic.simpStar, `Lean.Parser.Tactic.simpErase, `Lean.Parser.Tactic.simpLemma] "," := .ofElems (ids.map (⟨·.raw⟩) ++ ls.getElems.map (⟨·.raw⟩))
    `(tactic| try simp [$all,*])
theorem Zx (h:b<=d) (k:T! a b=j?):a<=d:=S? (w? k) h
theorem DQ (h:n<=m) (e:Ė m k=j?):n<k:=w! h (w? e)
theorem rj (h:n<m) (e:T! m k=j?):n<k:=P! h (w? e)
theorem Aa (e:Ė 0 k=j?):n≠n+k:=þ (Nat.lt_add_of_pos_right (w? e))
theorem YU (e:Ė 0 k=j?):n+k≠n:=(Aa e).symm
theorem PS (e:À j k=f?):n+j≠n+k:=λh=>X_ e (Nat.add_left_cancel h)
theorem Ec (h:b<=n) (e:Ė k b=j?):k<n:=P! (w? e) h
theorem Xy (h:b<n) (e:T! k b.succ=j?):k<=n:=S? (w? e) h
theorem Wr (h:n<b) (e:T! b k.succ=j?):n<=k:=Ý (P! h (w? e))
theorem Sv (h:n<=b) (e:T! b k=j?):n<=k:=S? h (w? e)
theorem ZL (h:b<=n) (e:Ė 8 b=j?):n<4\/8<n:=u? (Ec h e)
theorem WI (h:n=m) (g:m<=b) (e:Ė b k=j?):n<k:=h▸DQ g e
theorem ec {P:Ă->Prop}:cA (i::j::r) (ύ l) ρ P=if(b? l)=b? (i::j::r) then P (((i::j::r).zip l).foldl (λρ p=>put p.2 ρ p.1) ρ) else a_:=rfl
theorem jM {P:Ă->Prop}:cA [i] v ρ P=P (put v ρ i):=rfl
theorem UJ (h:n=m) (g:m<b) (e:T! b k=j?):n<k:=h▸rj g e
theorem YJ (h:n=c) (e:Ė c k=j?):n<k:=h▸w? e
theorem Wu {a b c n:m?} (h:a+(b+c)<n):a+c+b<n:=by rw[P_,ņ c];exact h
theorem Wn {a b c n:m?} (h:a+(b+c)<=n):a+c+b<=n:=by rw[P_,ņ c];exact h
theorem WC (h:a+x<n) (e:T! n k=j?):a<k:=rj (w! (z_ _ _) h) e
theorem WO (h:a+x<=n) (e:Ė n k=j?):a<k:=DQ (S? (z_ _ _) h) e
theorem Wo (h:x+b<=d) (e:T! k b=j?):k<=d:=S? (S? (w? e) (ψ _ _)) h
theorem WK (h:a+c * (b+1)<n) (e:T! k c=j?) (f:T! n m=j?):a+k<m:=rj (w! (C_ (S? (w? e) (Nat.le_mul_of_pos_right _ (ň _))) _) h) f
theorem X7 (h:a+c * (b+1)<n) (g:A<=a+c):A+c * b<n:=w! (L! g _) (by rw[P_,ņ c,<- aa7];exact h)
theorem XV (g:A<=a+c) (h:a2<=A+c * b):a2<=a+c * (b+1):=S? h (by rw[aa7,ņ _ c,<- P_];exact L! g _)
theorem YX (h:a+c * (b+1)<n) (g:x<=a+k) (e:T! (k+j) c=j?) (f:T! n m=j?):x+j<m:=w! (L! g _) (by rw[P_];exact WK h e f)
theorem XY (h:a+j<n) (g:x<=a+k) (i:m?) (e:T! (k+i) j=j?) (f:T! n m=j?):x+i<m:=w! (S? (L! g _) (by rw[P_];exact C_ (w? e) _)) (rj h f)
theorem YQ (h:p<200):(200 - (p+1)) * 401+(200 - 0)<(200 - p) * 401+x:=by
 rw[show 200 - p=200 - (p+1)+1 from(aa0 (Nat.sub_pos_of_lt h)).symm,Nat.succ_mul,P_];exact aaA (P! (by decide) (z_ 401 x)) _
theorem YB (h:a<n) (g:n<200):X+(200 - (a+1))<X+(200 - a):=aaA (Ņ _ _ (ac5 h g)) _
theorem Nm {b n j:m?} (h:b<=n):b<=n+j:=S? h (z_ _ _)
theorem Y2:∀k:m?,k<73->69<=k->k=69\/k=70\/k=71\/k=72:=by decide
theorem Yp (h:m<=d) (e:T! (k+j) m=j?):k<=d - j:=Nat.le_sub_of_add_le (S? (w? e) h)
theorem YD {m b:m?} (h:¬m<b):b+(m - b)=m:=Nat.add_sub_cancel' (í h)
theorem W8 (h:a<b) (g:b<c) (e:T! c k=j?):a<k:=rj (ac5 h g) e
theorem Yn (h:a<=m) (g:b<=n) (e:Ė (m+n) k=j?):a+b<k:=DQ (Nat.add_le_add h g) e
theorem Ys (h:a<m) (e:T! (m+c) k=j?):a+c<k:=rj (Nat.add_lt_add_right h _) e
theorem Wj (h:b<=n) (e:Ė k b=j?):n≠k:=ac6 (Ec h e)
theorem Yy (h:j<0+a) (g:a<=m) (e:T! m k=j?):j<k:=P! (Š a▸h) (Sv g e)
theorem UT {n c:m?} (h:¬n=c):¬(n:C?)= @abP C? c (@acO c):=λe=>h (adv e)
theorem U6 {n c:m?} (h:¬n<c):¬(n:C?) < @abP C? c (@acO c):=λe=>h (Å.mp e)
theorem Z9 (h:b<=n) (e:Ė 8 b=j?):n+j<4\/8<n+j:=u? (P! (Ec h e) (z_ _ _))
theorem Xx (h:n<4\/8<n) (e:(T! 4 k&&T! k 8)=j?):k≠n:=by rintro rfl;rw[Y?] at e;exact h.elim (λh=>œ.mpr (w? e.1) h) (λh=>œ.mpr (w? e.2) h)
theorem vZ {n m l:m?} (h:l<=n) (g:m<l):n≠m:=ac6 (P! g h)
theorem int_lt (h:n<b) (e:T! b c=j?):(n:C?) < @abP C? c (@acO c):=Å.mpr (P! h (w? e))
theorem U0 (h:c+1<=d):∃k,d=k+1/\c<=k:=by
 cases d using aac with
 |zero=>exact absurd h (Ĭ _)
 |succ k=>exact⟨k,rfl,ķ h⟩
@[elab_as_elim] theorem dposE {P:m?->Prop} (h:c+1<=d) (k:∀d,c<=d->P (d+1)):P d:=by
 obtain⟨d,rfl,g⟩:=U0 h;exact k d g
theorem SY:fin f? v H Q=Q v H:=rfl
theorem Rb:fin j? v H Q=ok (bT H v) λt=>Q (ϑ t) H:=rfl
theorem SX {Q:D?->Hp->Prop}:jg Q (ϑ b) H=Q b H:=rfl
theorem NQ:look (o::r) 0=o:=rfl
theorem Je:look (o::r) (n+1)=look r n:=rfl
theorem rB:put v (o::r) 0=d? v::r:=rfl
theorem sh:put v (o::r) (n+1)=o::put v r n:=rfl
theorem IF:bZ M_ (ϋ a) (ϋ b) H=d? (decide (a<b)):=rfl
theorem Nn:bZ .GtE (ϋ a) (ϋ b) H=d? (decide (b<=a)):=rfl
theorem JI:bZ .LtE (ϋ a) (ϋ b) H=d? (decide (a<=b)):=rfl
theorem Ka:bZ .Gt (ϋ a) (ϋ b) H=d? (decide (b<a)):=rfl
theorem aw {b:Type} {o:p? b} {a:b} {P:b->Prop} (e:o=d? a):ok o P=P a:=by rw[e,bL]
theorem bo {b:Type} {o:p? b} {a:b} {P:b->Prop} (e:o=d? a) (h:P a):ok o P:=by rw[e];exact .mk h
theorem Ed:V.beq (ϋ a) (ϋ b)=decide (a=b):=by
 simp only[V.rx];by_cases h:a=b<;>simp[h]
theorem Fa:bZ I_ (ϋ a) (ϋ b) H=d? (decide (a=b)):=rfl
theorem Ex:bZ J! (ϋ a) (ϋ b) H=d? (!decide (a=b)):=rfl
theorem Ag:cY v! (ϋ a) (ϋ b) H=d? (ϋ (a+b),H):=rfl
theorem y5:cY .Sub (ϋ a) (ϋ b) H=d? (ϋ (a - b),H):=rfl
theorem gJ (h:0<=x/\x<100000/\0<=y/\y<100000):binI o! x y=d? ((x.toNat &&& y.toNat:m?):C?):=P? h
theorem Kt (h:0<=x/\x<100000/\0<=y/\y<100000):binI .Mult x y=d? (x * y):=P? h
theorem Kf (h:0<y/\y<100000):binI p! x y=d? (x % y):=P? h
theorem Km (h:0<y/\y<100000/\0<=x/\x<100000):binI .FloorDiv x y=d? (x / y):=P? h
theorem DV:bT H (ϑ b)=d? b:=rfl
theorem Eb:bT H (ϋ i)=d? (decide (i≠0)):=rfl
theorem va (h:k<n) (H:k<10000000):Ď n (k:C?)=d? k:=by
 simp only[Ď,Ķ,V!,Å.mpr h,show(k:C?)<10000000 from by omega,aco,R_]
theorem mV {l:g? V} {k:m?} {v:V} {H:Hp} (h:l[k]? = d? v) (b:k<10000000):bN (ύ l) (ϋ (k:C?)) H=d? v:=by
 have a:k<b? l:=(i?.mp h).1;change(Ď (b? l) (k:C?)).bind _=_;rw[va a b];exact h
theorem nR:bN (ύ (a::l)) (ϋ 0) H=d? a:=mV (k:=0) (l:=a::l) rfl (by decide)
theorem YA:bN (ύ (a::b::l)) (ϋ 1) H=d? b:=mV (k:=1) (l:=a::b::l) rfl (by decide)
theorem Yv:bN (ύ (a::b::c::l)) (ϋ 2) H=d? c:=mV (k:=2) (l:=a::b::c::l) rfl (by decide)
theorem Yx:bN (ύ (a::b::c::e::l)) (ϋ 3) H=d? e:=mV (k:=3) (l:=a::b::c::e::l) rfl (by decide)
theorem Sf {P:V->Prop}:ok (bN (ύ (a::l)) (ϋ 0) H) P=P a:=aw nR
theorem RR {P:V->Prop}:ok (bN (ύ (a::b::l)) (ϋ 1) H) P=P b:=aw YA
theorem Ri {P:V->Prop}:ok (bN (ύ (a::b::c::l)) (ϋ 2) H) P=P c:=aw Yv
theorem SF {P:V->Prop}:ok (bN (ύ (a::b::c::e::l)) (ϋ 3) H) P=P e:=aw Yx
theorem br {n:m?} {xs:g? V} {k:m?} {v:V} {H:Hp} (c:H[n]? = d? (ό xs)) (h:xs[k]? = d? v) (b:k<10000000):bN (ϊ n) (ϋ (k:C?)) H=d? v:=by
 have a:k<b? xs:=(i?.mp h).1;change fO H[n]? _ _ _ _=_;rw[c];change(Ď (b? xs) (k:C?)).bind _=_;rw[va a b];exact h
theorem len_list (a:H[n]? = d? (ό xs)) (h:b? xs<10000000):gE H (ϊ n)=d? (xs.length:C?):=by
 change nQ H[n]? _=_;rw[a];exact P? h
theorem ay (b:H[n]? = d? (ϕ c fs)) (h:fs.lookup a=d? u):aA H a (ϊ n)=d? u:=by
 change LL H[n]? _=_;rw[b];exact h
theorem V.Vg:(ϋ a=ϋ b)=(a=b):=abY ⟨λh=>by injection h,R? _⟩
theorem V.UI:(ϊ a=ϊ b)=(a=b):=abY ⟨λh=>by injection h,R? _⟩
theorem V.NK:(ύ a=ύ b)=(a=b):=abY ⟨λh=>by injection h,R? _⟩
set_option genCtorIdx true in
inductive U where
 |a|r|b|o|w
inductive Tm where
 |p (n:m?)|q (s:D?) (n:m?)|n0 (s:D?) (tid:m?)|n1 (s:D?) (tid:m?) (t:Tm)|f0 (o:Tm)|f1 (o t:Tm)|u (k:U) (t:Tm)
def aae:=@Tm.casesOn
def Tm.ctorIdx (t:Tm):m?:=Tm.casesOn t (λZ=>0) (λZ Z=>1) (λZ Z=>2) (λZ Z Z=>3) (λZ=>4) (λZ Z=>5) (λZ Z=>6)
def U.beq (a b:U):D?:=U.casesOn a (U.casesOn b j? f? f? f? f?) (U.casesOn b f? j? f? f? f?) (U.casesOn b f? f? j? f? f?) (U.casesOn b f? f? f? j? f?) (U.casesOn b f? f? f? f? j?)
theorem U.iC (a:U):U.beq a a=j?:=by cases a using U.casesOn<;>rfl
theorem U.beq_iff (a b:U):U.beq a b=j?↔a=b:=by
 constructor
 ·intro h;cases a using U.casesOn<;>cases b using U.casesOn<;>first|rfl|exact(O? h).elim
 ·rintro rfl;exact U.iC a
def Tm.beq (a b:Tm):D?:=match a with
 |.p n=>Tm.casesOn b (λm=>n== m) (λZ Z=>f?) (λZ Z=>f?) (λZ Z Z=>f?) (λZ=>f?) (λZ Z=>f?) (λZ Z=>f?)
 |.q s n=>Tm.casesOn b (λZ=>f?) (λs' m=>s== s'&&n== m) (λZ Z=>f?) (λZ Z Z=>f?) (λZ=>f?) (λZ Z=>f?) (λZ Z=>f?)
 |.n0 s n=>Tm.casesOn b (λZ=>f?) (λZ Z=>f?) (λs' m=>s== s'&&n== m) (λZ Z Z=>f?) (λZ=>f?) (λZ Z=>f?) (λZ Z=>f?)
 |.n1 s n t=>Tm.casesOn b (λZ=>f?) (λZ Z=>f?) (λZ Z=>f?) (λs' m T=>s== s'&&n== m&&Tm.beq t T) (λZ=>f?) (λZ Z=>f?) (λZ Z=>f?)
 |.f0 t=>Tm.casesOn b (λZ=>f?) (λZ Z=>f?) (λZ Z=>f?) (λZ Z Z=>f?) (λT=>Tm.beq t T) (λZ Z=>f?) (λZ Z=>f?)
 |.f1 o t=>Tm.casesOn b (λZ=>f?) (λZ Z=>f?) (λZ Z=>f?) (λZ Z Z=>f?) (λZ=>f?) (λO T=>Tm.beq o O&&Tm.beq t T) (λZ Z=>f?)
 |.u k t=>Tm.casesOn b (λZ=>f?) (λZ Z=>f?) (λZ Z=>f?) (λZ Z Z=>f?) (λZ=>f?) (λZ Z=>f?) (λK T=>U.beq k K&&Tm.beq t T)
theorem Tm.Mg (b:Tm) (n:m?):(Tm.p n).beq b=Tm.casesOn b (λ(m:m?)=>n== m) (λ(Z:D?) (z:m?)=>f?) (λ(Z:D?) (z:m?)=>f?) (λ(Z:D?) (z:m?) (a:Tm)=>f?) (λ(Z:Tm)=>f?) (λ(Z z:Tm)=>f?) λ(Z:U) (z:Tm)=>f?:=rfl
theorem Tm.AF (b:Tm) (s:D?) (n:m?):(Tm.q s n).beq b=Tm.casesOn b (λ(Z:m?)=>f?) (λ(s':D?) (m:m?)=>s== s'&&n== m) (λ(Z:D?) (z:m?)=>f?) (λ(Z:D?) (z:m?) (a:Tm)=>f?) (λ(Z:Tm)=>f?) (λ(Z z:Tm)=>f?) λ(Z:U) (z:Tm)=>f?:=rfl
theorem Tm.rx (b:Tm) (s:D?) (n:m?):(Tm.n0 s n).beq b=Tm.casesOn b (λ(Z:m?)=>f?) (λ(Z:D?) (z:m?)=>f?) (λ(s':D?) (m:m?)=>s== s'&&n== m) (λ(Z:D?) (z:m?) (a:Tm)=>f?) (λ(Z:Tm)=>f?) (λ(Z z:Tm)=>f?) λ(Z:U) (z:Tm)=>f?:=rfl
theorem Tm.Mf (b:Tm) (s:D?) (n:m?) (t:Tm):(Tm.n1 s n t).beq b=Tm.casesOn b (λ(Z:m?)=>f?) (λ(Z:D?) (z:m?)=>f?) (λ(Z:D?) (z:m?)=>f?) (λ(s':D?) (m:m?) (T:Tm)=>s== s'&&n== m&&t.beq T) (λ(Z:Tm)=>f?) (λ(Z z:Tm)=>f?) λ(Z:U) (z:Tm)=>f?:=rfl
theorem Tm.CC (b t:Tm):t.f0.beq b=Tm.casesOn b (λ(Z:m?)=>f?) (λ(Z:D?) (z:m?)=>f?) (λ(Z:D?) (z:m?)=>f?) (λ(Z:D?) (z:m?) (a:Tm)=>f?) (λ(T:Tm)=>t.beq T) (λ(Z z:Tm)=>f?) λ(Z:U) (z:Tm)=>f?:=rfl
theorem Tm.Me (b o t:Tm):(o.f1 t).beq b=Tm.casesOn b (λ(Z:m?)=>f?) (λ(Z:D?) (z:m?)=>f?) (λ(Z:D?) (z:m?)=>f?) (λ(Z:D?) (z:m?) (a:Tm)=>f?) (λ(Z:Tm)=>f?) (λ(O T:Tm)=>o.beq O&&t.beq T) λ(Z:U) (z:Tm)=>f?:=rfl
theorem Tm.KJ (b:Tm) (k:U) (t:Tm):(Tm.u k t).beq b=Tm.casesOn b (λ(Z:m?)=>f?) (λ(Z:D?) (z:m?)=>f?) (λ(Z:D?) (z:m?)=>f?) (λ(Z:D?) (z:m?) (a:Tm)=>f?) (λ(Z:Tm)=>f?) (λ(Z z:Tm)=>f?) λ(K:U) (T:Tm)=>k.beq K&&t.beq T:=rfl
theorem Tm.iC (a:Tm):Tm.beq a a=j?:=by
 have b:∀(s:D?) (n:m?),(s== s&&n== n)=j?:=λs n=>by rw[K_,K_];rfl
 induction a with
 |p n=>exact K_ n
 |q s n=>exact b s n
 |n0 s n=>exact b s n
 |n1 s n t i=>exact t?.mpr ⟨b s n,i⟩
 |f0 o i=>exact i
 |f1 o t I c=>exact t?.mpr ⟨I,c⟩
 |u k t i=>exact t?.mpr ⟨U.iC k,i⟩
theorem Tm.beq_eq:∀{b:Tm},Tm.beq a b=j?->a=b:=by
 have nb:∀{s s':D?} {n m:m?},(s== s'&&n== m)=j?->s=s'/\n=m:=λh=>⟨U?.mp (t?.mp h).1,U?.mp (t?.mp h).2⟩
 induction a with
 |p n=>intro b h;cases b using aae<;>first|exact(O? h).elim|exact R? Tm.p (U?.mp h)
 |q s n=>intro b h;cases b using aae<;>first|exact(O? h).elim|(obtain⟨e,c⟩:=nb h;rw[e,c])
 |n0 s n=>intro b h;cases b using aae<;>first|exact(O? h).elim|(obtain⟨e,c⟩:=nb h;rw[e,c])
 |n1 s n t i=>intro b h;cases b using aae<;>first|exact(O? h).elim|(obtain⟨h,f⟩:=t?.mp h;obtain⟨e,c⟩:=nb h;rw[e,c,i f])
 |f0 o i=>intro b h;cases b using aae<;>first|exact(O? h).elim|exact R? Tm.f0 (i h)
 |f1 o t I d=>intro b h;cases b using aae<;>first|exact(O? h).elim|(obtain⟨e,c⟩:=t?.mp h;rw[I e,d c])
 |u k t i=>intro b h;cases b using aae<;>first|exact(O? h).elim|(obtain⟨e,c⟩:=t?.mp h;rw[(U.beq_iff _ _).mp e,i c])
theorem Tm.beq_iff (a b:Tm):Tm.beq a b=j?↔a=b:=⟨Tm.beq_eq,λh=>h▸Tm.iC a⟩
def fh (t:Tm) (l:g? Tm):D?:=l.any λx=>Tm.beq x t
theorem aO:fh t l=j?↔t∈l:=by
 unfold fh;rw[ñ];constructor
 ·rintro⟨x,H,e⟩;rw[<- (Tm.beq_iff x t).mp e];exact H
 ·intro h;exact⟨t,h,(Tm.beq_iff t t).mpr rfl⟩
def U.tag (c:U):k!:=U.casesOn c "a" "r" "b" "o" "w"
def Tm.tag (t:Tm):k!:=Tm.casesOn t (λZ=>"p") (λs Z=>if s then "m" else "x") (λs Z=>if s then "v" else "c") (λs Z Z=>if s then "v" else "c") (λZ=>"f") (λZ Z=>"f") (λk Z=>k.tag)
def Tm.toV:Tm->V
 |.p n=>ύ [Ϗ "p",ϋ n]
 |.q s n=>ύ [Ϗ (if s then "m" else "x"),ϋ n]
 |.n0 s tid=>ύ [Ϗ (if s then "v" else "c"),ϋ tid,ύ []]
 |.n1 s tid t=>ύ [Ϗ (if s then "v" else "c"),ϋ tid,ύ [t.toV]]
 |.f0 o=>ύ [Ϗ "f",o.toV,ύ []]
 |.f1 o t=>ύ [Ϗ "f",o.toV,ύ [t.toV]]
 |.u k t=>ύ [Ϗ k.tag,t.toV]
theorem Wk:(Tm.p n).toV=ύ [Ϗ "p",ϋ n]:=rfl
theorem Sd:(Tm.q s n).toV=ύ [Ϗ (if s then "m" else "x"),ϋ n]:=rfl
theorem LZ:(Tm.n0 s n).toV=ύ [Ϗ (if s then "v" else "c"),ϋ n,ύ []]:=rfl
theorem NU:(Tm.n1 s n t).toV=ύ [Ϗ (if s then "v" else "c"),ϋ n,ύ [t.toV]]:=rfl
theorem Uo:(Tm.f0 o).toV=ύ [Ϗ "f",o.toV,ύ []]:=rfl
theorem Uk:(Tm.f1 o t).toV=ύ [Ϗ "f",o.toV,ύ [t.toV]]:=rfl
theorem WZ:(Tm.u k t).toV=ύ [Ϗ k.tag,t.toV]:=rfl
def U.sort (c:U):m?:=U.casesOn c 4 5 8 9 11
def Tm.sort (t:Tm):m?:=Tm.casesOn t (λZ=>1) (λs Z=>if s then 7 else 6) (λs Z=>if s then 3 else 2) (λs Z Z=>if s then 3 else 2) (λZ=>10) (λZ Z=>10) (λk Z=>k.sort)
def cR (T:g? Tm):Tm->V->Prop
 |.p n,r=>r=ύ [ϋ 1,ϋ n]
 |.q s n,r=>r=ύ [ϋ (if s then 7 else 6),ϋ n]
 |.n0 s tid,r=>r=ύ [ϋ (if s then 3 else 2),ϋ tid,ύ []]
 |.n1 s tid t,r=>∃k:m?,T[k]? = d? t/\r=ύ [ϋ (if s then 3 else 2),ϋ tid,ύ [ϋ k]]
 |.f0 o,r=>∃k:m?,T[k]? = d? o/\r=ύ [ϋ 10,ϋ k,ϋ 0,ύ []]
 |.f1 o t,r=>∃k j:m?,T[k]? = d? o/\T[j]? = d? t/\r=ύ [ϋ 10,ϋ k,ϋ 0,ύ [ϋ j]]
 |.u c t,r=>∃k:m?,T[k]? = d? t/\r=ύ [ϋ c.sort,ϋ k]
def Tm.isVar (t:Tm):D?:=Tm.casesOn t (λZ=>f?) (λZ Z=>j?) (λZ Z=>f?) (λZ Z Z=>f?) (λZ=>f?) (λZ Z=>f?) (λZ Z=>f?)
def Tm.isVal (t:Tm):D?:=Tm.casesOn t (λn=>decide (1<=n/\n<=11)) (λZ Z=>f?) (λs Z=>s) (λs Z Z=>s) (λZ=>f?) (λZ Z=>f?) (λZ Z=>f?)
def Tm.isRef (t:Tm):D?:=Tm.casesOn t (λn=>decide (n=12\/n=13\/n=14)) (λZ Z=>f?) (λs Z=>!s) (λs Z Z=>!s) (λZ=>f?) (λZ Z=>f?) (λk Z=>U.casesOn k (j?) (f?) (j?) (f?) (f?))
def Tm.dO (T:Tm):g? Tm:=Tm.casesOn T (λZ=>[]) (λZ Z=>[]) (λZ Z=>[]) (λZ Z t=>[t]) (λo=>[o]) (λo t=>[o,t]) (λZ t=>[t])
def Tm.args (T:Tm):g? Tm:=Tm.casesOn T (λZ=>[]) (λZ Z=>[]) (λZ Z=>[]) (λZ Z t=>[t]) (λZ=>[]) (λZ Z=>[]) (λZ Z=>[])
def wL (n:m?):m?:=([20,9,10,11,12,13,14,15,16,17,18,19,1,4]:g? m?).getD n 0
def Tm.tid (T:Tm):m?:=Tm.casesOn T (λn=>wL n) (λZ Z=>0) (λZ t=>t) (λZ t Z=>t) (λZ=>0) (λZ Z=>0) (λk Z=>U.casesOn k (5) (0) (0) (0) (0))
def Tm.cM (t:Tm):D?:=Tm.casesOn t (λn=>decide (n≠0/\n≠14)) (λZ Z=>j?) (λZ Z=>j?) (λZ Z Z=>j?) (λZ=>f?) (λZ Z=>f?) (λk Z=>U.casesOn k (j?) (f?) (f?) (f?) (f?))
def Tm.level (t:Tm):m?:=Tm.casesOn t (λZ=>0) (λZ Z=>0) (λZ Z=>1) (λZ Z Z=>1) (λZ=>0) (λZ Z=>0) (λk Z=>U.casesOn k (1) (0) (0) (0) (0))
def Tm.depth:Tm->m?
 |.n1 _ _ t=>max 1 (t.depth+1)
 |.f0 o=>max 1 o.depth
 |.f1 o t=>max (max 1 o.depth) t.depth
 |.u .a t=>max 1 (t.depth+1)
 |.u _ t=>max 1 t.depth
 |_=>1
def Tm.weight:Tm->m?
 |.n1 _ _ t=>1+t.weight
 |.f0 o=>1+o.weight
 |.f1 o t=>1+o.weight+t.weight
 |.u _ t=>1+t.weight
 |_=>1
def Tm.opens:Tm->D?
 |.q _ _=>j?
 |.n1 _ _ t=>t.opens
 |.f0 o=>o.opens
 |.f1 o t=>o.opens||t.opens
 |.u _ t=>t.opens
 |_=>f?
def Tm.eW (t:Tm):m?:=if t.opens=j? then 1 else 0
def Tm.good (T:Tm):D?:=Tm.casesOn T (λZ=>f?) (λZ Z=>j?) (λZ tid=>decide (0<tid)&&!(lg 48).any λK=>K.1== (tid:C?)) (λZ tid t=>decide (0<tid)&&(!(lg 48).any λK=>K.1== (tid:C?))&&t.cM) (λo=>o.cM) (λo t=>o.cM&&t.cM) (λk t=>U.casesOn k (t.cM) (t.cM) (t.isVal||t.isVar) (t.cM) (t.cM))
def Tm.VB (t:Tm):D?:=Tm.casesOn t (λZ=>j?) (λZ Z=>f?) (λZ Z=>f?) (λZ Z Z=>f?) (λZ=>f?) (λZ Z=>f?) (λZ Z=>f?)
abbrev tA:Tm:=.n0 f? 64
abbrev tB:Tm:=.n0 f? 65
abbrev tI:Tm:=.n0 f? 66
abbrev tS:Tm:=.n0 j? 68
def vars:g? Tm:=[.q f? 0,.q f? 1,.q f? 2,.q j? 0,.q j? 1,.q j? 2,.q j? 3]
def V0:g? Tm:=[.n0 f? 2,.n0 f? 5,tA,tB,tI,tS,.n0 f? 73,.n0 f? 60,.n0 j? 9999,.n0 f? 68,.n0 f? 69]
def around (t:Tm):g? Tm:=[.u .a t,.n1 f? 67 t,.n1 f? 69 t,.n1 f? 70 t,.n1 f? 71 t,.n1 f? 72 t]
def Xv:g? Tm:=[.n1 f? 69 (.p 13),.n1 f? 70 tS,.n1 f? 72 tB,.n1 f? 71 tB,.n1 f? 72 tS,.u .a (.p 7),.n1 f? 69 (.u .a (.p 7)),.u .a (.n1 f? 69 (.u .a (.p 7))),.n1 f? 69 (.p 7),.n1 f? 67 (.n1 f? 69 (.p 7)),
  .u .a (.n1 f? 71 tB),.u .a tS,.u .r tA,.n1 j? 69 tA,.u .a (.p 15),.f0 tA,.f1 tA tS,.u .w tS,.u .w tA,.u .o tA]
def WW:g? Tm:=[tS,.n0 j? 9999,.n1 j? 69 tA]
def ă:g? Tm:=((l! 16).map Tm.p).append (vars.append (V0.append (((vars.append [tA]).flatMap around).append (Xv.append ((vars.append WW).map (Tm.u .b))))))
def Uu:g? Tm:=[tA,tI,.u .a tA,tB,.n0 f? 2]
def UX:g? Tm:=[.f0 tA,.u .w tS,.u .w tA,.u .b tS,.u .o tA,.p 14,.u .a (.p 15),.n0 f? 60,.n0 j? 9999,.n0 f? 68,.n0 f? 69,
  .n1 f? 67 (.n1 f? 69 (.p 7)),.n1 f? 70 tA,.u .a (.n1 f? 71 tB),.n1 f? 72 tS,.p 0,.u .r tA,.n1 j? 69 tA]
def cI:g? Tm:=Uu.append (vars.append ((vars.map (Tm.n1 f? 67)).append UX))
theorem bI {P:Tm->D?} (h:ă.all P=j?) (H:t∈ă):P t=j?:=L?.mp h t H
theorem VN:b? ă<200:=by decide
theorem F9 (h:t∈ă):t.VB=j?\/t.good=j?:=by
 have:=bI (P:=λt=>t.VB||t.good) (by decide+kernel) h
 simpa using this
theorem AR (h:t∈ă):t.depth<=24/\t.weight<=4096:=by
 have:=bI (P:=λt=>decide (t.depth<=24)&&decide (t.weight<=4096)) (by decide+kernel) h
 simpa using this
theorem uE (h:t∈ă) (H:u∈t.dO):u∈ă:=by
 have:=bI (P:=λt=>t.dO.all λu=>fh u ă) (by decide+kernel) h;exact aO.mp (L?.mp this u H)
theorem aZ (h:t∈cI):t∈ă:=by
 have:cI.all (λt=>fh t ă)=j?:=by decide+kernel
 exact aO.mp (L?.mp this t h)
open Mine.Internal.Tm renaming casesOn->ϐ,n1->ϗ,n0->Ϡ
open Mine.Internal.U renaming casesOn->ϙ
section
set_option tactic.hygienic true
def đ (r:g? V):g? (V×V):=r.zipIdx.map λp=>(p.1,ϋ (p.2:m?))
structure uY (H:Hp) (ts:g? Tm) (rows:g? V):Prop where
 inst:H[3]? = d? (ϕ 79 [("rows",ϊ 4),("index",ϊ 5),("depths",ϊ 6),("weights",ϊ 7),("opens",ϊ 8)])
 c4:H[4]? = d? (ό rows)
 c5:H[5]? = d? (Ϝ (đ rows))
 c6:H[6]? = d? (ό (ts.map λt=>ϋ t.depth))
 c7:H[7]? = d? (ό (ts.map λt=>ϋ t.weight))
 c8:H[8]? = d? (ό (ts.map λt=>ϋ t.eW))
 len:b? rows=b? ts
 row:∀(k:m?) (t:Tm) (r:V),ts[k]? = d? t->rows[k]? = d? r->cR ts t r
 inj:∀(i j:m?) (t:Tm),ts[i]? = d? t->ts[j]? = d? t->i=j
 prim:∀n,n<16->ts[n]? = d? (.p n)
 lO:∀t∈ts,t∈ă
 Vq:∃xs:g? C?,H[1]? = d? (ό (xs.map ϋ))/\b? xs<=50
def KT (H:Hp) (t:g? Tm):Prop:=∃r,uY H t r
theorem sub_len:∀{l m:g? Tm},(∀(i j:m?) (t:Tm),l[i]? = d? t->l[j]? = d? t->i=j)->(∀t∈l,t∈m)->b? l<=b? m:=by
 classical
 intro l;induction l with
 |nil=>intro m Z Z;exact w_ _
 |cons a l I=>
  intro m e f;have d:a∈m:=f a o?;have c:a∉l:=λh=>by
   obtain⟨i,k⟩:=ń h;have:=e 0 (i+1) a rfl (k);omega
  have H:b? l<=b? (m.erase a):=I (λi j t H b=>by
   have:=e (i+1) (j+1) t (H) (b);omega) λt g=>by
   show(aaj ?_).mpr (f t (q? _ g));rintro rfl;exact c g
  have b:0<b? m:=ν d;rw[å d] at H;exact aak b H
theorem uY.small (w:uY H t r):b? t<200:=w! (sub_len w.inj w.lO) VN
theorem KT.small (w:KT H t):b? t<200:=let⟨_,w⟩:=w;w.small
theorem KT.inj (w:KT H T):∀(i j:m?) (t:Tm),T[i]? = d? t->T[j]? = d? t->i=j:=let⟨_,w⟩:=w;w.inj
theorem KT.lt (w:KT H T) (h:T[k]? = d? t):k<200:=by
 have:=(i?.mp h).1;have:=w.small;omega
theorem KT.mem {H:Hp} {T:g? Tm} {k:m?} {t:Tm} (w:KT H T) (h:T[k]? = d? t):t∈ă:=let⟨_,w⟩:=w;w.lO t (U! h)
theorem KT.prim {H:Hp} {ts:g? Tm} {k:m?} {t:Tm} (w:KT H ts) (h:ts[k]? = d? t):(k<16/\t= .p k)\/(16<=k/\t.VB=f?):=by
 have hm:=w.mem h;obtain⟨rows,w⟩:=w;by_cases hk:k<16
 ·have:=w.prim k hk;rw[h] at this;cases this;exact x? ⟨hk,rfl⟩
 ·show u? ⟨by omega,?_⟩;cases t using ϐ with
  |p n=>
   exfalso;have hn:n<16:=by
    have:=bI (P:=λt=>match t with| .p n=>decide (n<16)| _=>j?) (by decide+kernel) hm
    simpa using this
   have:=w.inj k n (.p n) h (w.prim n hn);omega
  |_=>rfl
theorem bP (h:cR T t r):bN r (ϋ 0) H=d? (ϋ t.sort):=by
 cases t using ϐ<;>simp only[cR] at h
 case p=>subst h;exact nR
 case q s n=>subst h;cases s using so<;>exact nR
 case n0 s n=>subst h;cases s using so<;>exact nR
 case n1 s n t=>obtain⟨k,_,rfl⟩:=h;cases s using so<;>exact nR
 case f0=>obtain⟨k,_,rfl⟩:=h;exact nR
 case f1=>obtain⟨k,_,_,_,rfl⟩:=h;exact nR
 case u=>obtain⟨k,_,rfl⟩:=h;exact nR
section
theorem uY.Nq (w:uY H t r):aA H "rows" (ϊ 3)=d? (ϊ 4):=ay w.inst (by kernel_rfl)
theorem uY.vu (w:uY H t r):aA H "index" (ϊ 3)=d? (ϊ 5):=ay w.inst (by kernel_rfl)
theorem uY.rK (w:uY H t r):aA H "depths" (ϊ 3)=d? (ϊ 6):=ay w.inst (by kernel_rfl)
theorem uY.uZ (w:uY H t r):aA H "weights" (ϊ 3)=d? (ϊ 7):=ay w.inst (by kernel_rfl)
theorem uY.v9 (w:uY H t r):aA H "opens" (ϊ 3)=d? (ϊ 8):=ay w.inst (by kernel_rfl)
theorem KT.cls (w:KT H t):jz H (ϊ 3)=d? 79:=by obtain⟨_,w⟩:=w;simp only[jz,w.inst,vR,LL,F?]
theorem KT.VM (w:KT H t):aA H "row" (ϊ 3)=e?:=by obtain⟨_,w⟩:=w;simp only[aA,w.inst,vR];kernel_rfl
theorem KT.hJ (w:KT H t):aA H "put" (ϊ 3)=e?:=by obtain⟨_,w⟩:=w;simp only[aA,w.inst,vR];kernel_rfl
theorem W5:Ā.meth 79 "row"=d? 69:=by kernel_rfl
theorem KT.cP (w:KT H t):ok (jz H (ϊ 3)) (xq d "row" e ρ (ϊ 3) H m Q)=i7 Ā d e ρ H (w8 d 69 (ϊ 3) m Q):=by
 rw[w.cls,bL,wh,W5,bL,vM,w.VM];exact abY ⟨λh=>h.2,λh=>⟨rfl,h⟩⟩
theorem hW:Ā.meth 79 "put"=d? 76:=by kernel_rfl
theorem gV {d:m?} {H:Hp} {T:g? Tm} {k:m?} {t:Tm} (h:1<=d) (w:KT H T) (b:T[k]? = d? t) (q:∀r,cR T t r->Q r H):aG d 69 [ϊ 3,ϋ k] H Q:=by
 show dposE h λd h=>?_;have c:k<b? T:=(i?.mp b).1;have f:=w.small;obtain⟨R,w⟩:=w;have e:=w.len;have a:R[k]? = d? R[k]:=Z? (by omega);show fE rfl ?_;simp![aw (w.Nq),aw (len_list w.c4 (by omega)),aw (br w.c4 a (by omega)),show decide ((k:C?)<0)=f? from rfl,show decide ((b? R:C?)<=(k:C?))=f? from by simp;omega];exact q _ (w.row k t _ b a)
theorem bk {d:m?} {H:Hp} {T:g? Tm} {k:m?} {t:Tm} (h:2<=d) (w:KT H T) (b:T[k]? = d? t) (q:Q (ϋ t.sort) H):aG d 174 [ϊ 3,ϋ k] H Q:=by
 show qR.go h rfl λd h=>?_;simp![w.cP];show gV (by omega) w b λr a=>?_;simp![aw (bP a)];exact q
theorem LK [ů p] (h:p):decide p=j?:=Ħ h
theorem EK [ů p] (h:¬p):decide p=f?:=ě h
theorem bU {d:m?} {H:Hp} {T:g? Tm} {k:m?} {t:Tm} (h:2<=d) (w:KT H T) (b:T[k]? = d? t) (q:Q (ϑ t.isVar) H):aG d 216 [ϊ 3,ϋ k] H Q:=by
 show Ak.go h rfl λd h=>?_;simp![w.cP];show gV (by omega) w b λr a=>?_;simp![aw (bP a)];clear a b;cases t using ϐ with
 |q s n=>cases s using so<;>exact bl (n:=20) (by kernel_rfl) q
 |n0 s n=>cases s using so<;>exact bl (n:=20) (by kernel_rfl) q
 |n1 s n t=>cases s using so<;>exact bl (n:=20) (by kernel_rfl) q
 |u c t=>cases c using ϙ<;>exact bl (n:=20) (by kernel_rfl) q
 |_=>exact bl (n:=20) (by kernel_rfl) q
theorem ofNat_le {a b:m?} (h:a<=b):decide ((a:C?)<=(b:C?))=j?:=Ħ (ø.mpr h)
theorem uh {a b:m?} (h:¬a<=b):decide ((a:C?)<=(b:C?))=f?:=ě (λe=>h (ø.mp e))
theorem jk {a b:m?} (h:a≠b):decide ((a:C?)=(b:C?))=f?:=ě (λe=>h (Int.ofNat_inj.mp e))
theorem BL {t:Tm} (h:t.VB=f?):t.isVal=decide ((t.sort:C?)=3):=by
 cases t using ϐ with
 |p n=>cases h
 |q s n=>cases s using so<;>rfl
 |n0 s n=>cases s using so<;>rfl
 |n1 s n t=>cases s using so<;>rfl
 |u c t=>cases c using ϙ<;>rfl
 |_=>rfl
theorem dH {d:m?} {H:Hp} {T:g? Tm} {k:m?} {t:Tm} (e:2<=d) (w:KT H T) (c:T[k]? = d? t) (q:Q (ϑ t.isVal) H):aG d 202 [ϊ 3,ϋ k] H Q:=by
 show tQ.go e rfl λd e=>?_;have i:t.isVal=(decide ((1:m?)<=k)&&decide (k<=11)||decide ((t.sort:C?)=3)):=by
  rcases w.prim c with⟨f,rfl⟩| ⟨f,g⟩
  ·change decide (1<=k/\k<=11)=_;rw[Bool.decide_and];exact(Ő _).symm
  ·rw[BL g,EK (show ¬k<=11 by omega),acp,G!]
 rw[i] at q;by_cases h:1<=k
 ·by_cases a:k<=11
  ·rw[LK h,LK a] at q;simp![show decide ((1:C?)<=(k:C?))=j? from ofNat_le h,show decide ((k:C?)<=11)=j? from ofNat_le a];exact q
  ·rw[EK a,acp,G!] at q;simp![show decide ((1:C?)<=(k:C?))=j? from ofNat_le h,show decide ((k:C?)<=11)=f? from uh a,w.cP];show gV (by omega) w c λr b=>?_;simp![aw (bP b)];exact q
 ·rw[EK h,acq,G!] at q;simp![show decide ((1:C?)<=(k:C?))=f? from uh h,w.cP];show gV (by omega) w c λr b=>?_;simp![aw (bP b)];exact q
theorem mS {d:m?} {H:Hp} {T:g? Tm} {k:m?} {t:Tm} (g:2<=d) (w:KT H T) (a:T[k]? = d? t) (q:Q (ϑ t.isRef) H):aG d 209 [ϊ 3,ϋ k] H Q:=by
 show yx.go g rfl λd g=>?_;by_cases h:k=12\/k=13\/k=14
 ·have e:t= .p k:=by
   rcases w.prim a with⟨b,e⟩| ⟨b,i⟩
   ·exact e
   ·omega
  subst e;clear a;rcases h with rfl|rfl|rfl<;>exact bl (n:=20) (by kernel_rfl) q
 ·simp![show decide ((k:C?)=12)=f? from jk λe=>h (x? e),show decide ((k:C?)=13)=f? from jk λe=>h (u? (x? e)),show decide ((k:C?)=14)=f? from jk λe=>h (u? (u? e)),w.cP];show gV (by omega) w a λr f=>?_;simp![aw (bP f)];have j:t.isRef=(decide (t.sort=2)||(decide (t.sort=4)||decide (t.sort=8))):=by
   clear f;rcases w.prim a with⟨b,rfl⟩| ⟨b,i⟩
   ·exact EK h
   ·cases t using ϐ with
    |p n=>cases i
    |q s n=>cases s using so<;>rfl
    |n0 s n=>cases s using so<;>rfl
    |n1 s n t=>cases s using so<;>rfl
    |u c t=>cases c using ϙ<;>rfl
    |_=>rfl
  rw[j] at q;replace q:=q;clear j;clear f a;cases t using ϐ with
  |q s n=>cases s using so<;>exact bl (n:=20) (by kernel_rfl) q
  |n0 s n=>cases s using so<;>exact bl (n:=20) (by kernel_rfl) q
  |n1 s n t=>cases s using so<;>exact bl (n:=20) (by kernel_rfl) q
  |u c t=>cases c using ϙ<;>exact bl (n:=20) (by kernel_rfl) q
  |_=>exact bl (n:=20) (by kernel_rfl) q
theorem fW {d:m?} {H:Hp} {T:g? Tm} {k:m?} {t:Tm} (g:2<=d) (w:KT H T) (a:T[k]? = d? t) (q:Q (ϑ t.cM) H):aG d 132 [ϊ 3,ϋ k] H Q:=by
 show jh.go g rfl λd g=>?_;by_cases h:k=0\/k=14
 ·have e:t= .p k:=by
   rcases w.prim a with⟨b,e⟩| ⟨b,i⟩
   ·exact e
   ·omega
  subst e;clear a;rcases h with rfl|rfl<;>exact bl (n:=20) (by kernel_rfl) q
 ·simp![show decide ((k:C?)=0)=f? from jk λe=>h (x? e),show decide ((k:C?)=14)=f? from jk λe=>h (u? e),w.cP];show gV (by omega) w a λr f=>?_;simp![aw (bP f)];have j:t.cM=(decide (t.sort<=4)||(decide (t.sort=6)||decide (t.sort=7))):=by
   clear f;rcases w.prim a with⟨b,rfl⟩| ⟨b,i⟩
   ·exact LK ⟨λe=>h (x? e),λe=>h (u? e)⟩
   ·cases t using ϐ with
    |p n=>cases i
    |q s n=>cases s using so<;>rfl
    |n0 s n=>cases s using so<;>rfl
    |n1 s n t=>cases s using so<;>rfl
    |u c t=>cases c using ϙ<;>rfl
    |_=>rfl
  rw[j] at q;replace q:=q;clear j;clear f a;cases t using ϐ with
  |q s n=>cases s using so<;>exact bl (n:=20) (by kernel_rfl) q
  |n0 s n=>cases s using so<;>exact bl (n:=20) (by kernel_rfl) q
  |n1 s n t=>cases s using so<;>exact bl (n:=20) (by kernel_rfl) q
  |u c t=>cases c using ϙ<;>exact bl (n:=20) (by kernel_rfl) q
  |_=>exact bl (n:=20) (by kernel_rfl) q
end
end
section
set_option tactic.hygienic true
def aL (T:g? Tm):g? Tm->g? m?->Prop
 |[],[]=>ŀ
 |u::us,k::ks=>T[k]? = d? u/\aL T us ks
 |_,_=>a_
def aN (ks:g? m?):g? V:=ks.map λk=>ϋ (k:m?)
theorem cS {H:Hp}:aH H (ύ [])=d? []:=rfl
theorem dt {a:V} {H:Hp}:aH H (ύ [a])=d? [a]:=rfl
theorem ff {l:g? V} {H:Hp}:ao H (ύ l)=f?:=rfl
section
variable {d:m?} {H:Hp} {ts:g? Tm} {k:m?} {t:Tm} {r:V} {Q:V->Hp->Prop}
theorem eu (b:1<=d) (a:cR ts t r) (q:∀ks,aL ts t.dO ks->Q (ύ (aN ks)) H):aG d 90 [r] H Q:=by
 show gX.go b rfl λd b=>?_;cases t using ϐ with
 |p n=>cases a;exact bl (n:=20) (by kernel_rfl) (q [] trivial)
 |q s n=>cases a;cases s using so<;>exact bl (n:=20) (by kernel_rfl) (q [] trivial)
 |n0 s n=>cases a;cases s using so<;>exact bl (n:=20) (by kernel_rfl) (q [] trivial)
 |n1 s n t=>obtain⟨k,h,rfl⟩:=a;cases s using so<;>exact bl (n:=20) (by kernel_rfl) (q [k] ⟨h,trivial⟩)
 |f0 o=>obtain⟨k,h,rfl⟩:=a;exact bl (n:=20) (by kernel_rfl) (q [k] ⟨h,trivial⟩)
 |f1 o t=>obtain⟨k,j,h,e,rfl⟩:=a;exact bl (n:=20) (by kernel_rfl) (q [k,j] ⟨h,e,trivial⟩)
 |u c t=>obtain⟨k,h,rfl⟩:=a;cases c using ϙ<;>exact bl (n:=20) (by kernel_rfl) (q [k] ⟨h,trivial⟩)
theorem yd (h:1<=d) (q:Q (ϋ t.level) H):aG d 97 [ϋ t.sort] H Q:=by
 show i4.go h rfl λd h=>?_;cases t using ϐ with
 |q s n=>cases s using so<;>exact bl (n:=20) (by kernel_rfl) q
 |n0 s n=>cases s using so<;>exact bl (n:=20) (by kernel_rfl) q
 |n1 s n t=>cases s using so<;>exact bl (n:=20) (by kernel_rfl) q
 |u c t=>cases c using ϙ<;>exact bl (n:=20) (by kernel_rfl) q
 |_=>exact bl (n:=20) (by kernel_rfl) q
theorem jP (h:2<=d) (w:KT H ts) (f:ts[k]? = d? (.u .b t)) (q:∀j:m?,ts[j]? = d? t->Q (ϋ j) H):aG d 181 [ϊ 3,ϋ k] H Q:=by
 show wC.go h rfl λd h=>?_;simp![w.cP];show gV (by omega) w f λr e=>?_;show bf e λj c a=>?_;subst a;simp![U.sort];exact q j c
theorem TA:((l! 16).all λk=>V.beq ((bx (k:C?) (lg 47)).getD (ϋ 0)) (ϋ (wL k)))=j?:=by kernel_rfl
theorem Vd {k:m?} (h:k<16):jb (ϩ 47) (ϋ k) (ϋ 0) H=d? (ϋ (wL k)):=
 R? d? ((V.beq_iff _ _).mp (L?.mp TA k (ť.mpr h)))
theorem Tq:ao H (ϩ 47)=j?:=rfl
theorem fy (f:2<=d) (w:KT H ts) (b:ts[k]? = d? t) (q:Q (ϋ t.tid) H):aG d 188 [ϊ 3,ϋ k] H Q:=by
 show ym.go f rfl λd f=>?_;simp![w.cP];show gV (by omega) w b λr h=>?_;have g:=w.prim b;cases t using ϐ with
 |p n=>
  clear b;cases h;rcases g with⟨a,e⟩| ⟨_,e⟩
  ·cases e;(simp![B7,Tq,aw (Vd a),K?]);exact q
  ·cases e
 |q s n=>cases h;cases s using so<;>exact bl (n:=20) (by kernel_rfl) q
 |n0 s n=>cases h;cases s using so<;>exact bl (n:=20) (by kernel_rfl) q
 |n1 s n t=>obtain⟨k,a,rfl⟩:=h;cases s using so<;>exact bl (n:=20) (by kernel_rfl) q
 |f0 o=>obtain⟨k,a,rfl⟩:=h;exact bl (n:=20) (by kernel_rfl) q
 |f1 o t=>obtain⟨k,j,a,i,rfl⟩:=h;exact bl (n:=20) (by kernel_rfl) q
 |u c t=>obtain⟨k,a,rfl⟩:=h;cases c using ϙ<;>exact bl (n:=20) (by kernel_rfl) q
theorem ot (b:2<=d) (w:KT H ts) (e:ts[k]? = d? t) (q:∀ks,aL ts t.args ks->Q (ύ (aN ks)) H):aG d 195 [ϊ 3,ϋ k] H Q:=by
 show vK.go b rfl λd b=>?_;simp![w.cP];show gV (by omega) w e λr h=>?_;clear e;cases t using ϐ with
 |p n=>cases h;exact bl (n:=20) (by kernel_rfl) (q [] trivial)
 |q s n=>cases h;cases s using so<;>exact bl (n:=20) (by kernel_rfl) (q [] trivial)
 |n0 s n=>cases h;cases s using so<;>exact bl (n:=20) (by kernel_rfl) (q [] trivial)
 |n1 s n t=>obtain⟨k,a,rfl⟩:=h;cases s using so<;>exact bl (n:=20) (by kernel_rfl) (q [k] ⟨a,trivial⟩)
 |f0 o=>obtain⟨k,a,rfl⟩:=h;exact bl (n:=20) (by kernel_rfl) (q [] trivial)
 |f1 o t=>obtain⟨k,j,a,f,rfl⟩:=h;exact bl (n:=20) (by kernel_rfl) (q [] trivial)
 |u c t=>obtain⟨k,a,rfl⟩:=h;cases c using ϙ<;>exact bl (n:=20) (by kernel_rfl) (q [] trivial)
theorem gp (b:3<=d) (w:KT H ts) (a:ts[k]? = d? t) (q:Q (ϑ f?) H):aG d 463 [ϊ 3,ϋ k] H Q:=by
 show nC.go b rfl λd b=>?_;simp![];show bk (by omega) w a ?_;have c:t.tid≠8:=by
  have:=bI (P:=λt=>decide (t.tid≠8)) (by decide+kernel) (w.mem a)
  simpa using this
 by_cases h:(t.sort:C?)=3
 ·simp![h];show fy (by omega) w a ?_;simp![];rw[show decide ((t.tid:C?)=8)=f? from by simp;omega];simp![*,h];exact q
 ·simp![h];exact q
theorem ko (h:3<=d) (w:KT H ts) (b:ts[k]? = d? t) (a:t.cM=j?) (q:Q ϖ H):aG d 125 [ϊ 3,ύ [ϋ k]] H Q:=by
 show eQ.go h rfl λd h=>?_;simp![dt,ff,bC,cz,K?];show fW (by omega) w b ?_;simp![a];exact q
theorem ku (h:3<=d) (q:Q ϖ H):aG d 125 [ϊ 3,ύ []] H Q:=by
 show eQ.go h rfl λd h=>?_;simp![cS,ff,bC,cz,K?,acr];exact q
theorem SK {n:m?}:uR H (ϋ n) (ϩ 48)=d? ((lg 48).any λK=>K.1== (n:C?)):=rfl
theorem oh {a b:V}:bZ W! a b H=uR H a b:=rfl
def Tm.qv (t:Tm):m?:=if t.sort=2\/t.sort=3 then 3 else if t.sort=10 then 4 else 2
theorem ES (h:cR ts t r):gE H r=d? (t.qv:C?):=by
 cases t using ϐ<;>simp only[cR] at h
 case p=>subst h;rfl
 case q s n=>subst h;cases s using so<;>rfl
 case n0 s n=>subst h;cases s using so<;>rfl
 case n1 s n t=>obtain⟨k,_,rfl⟩:=h;cases s using so<;>rfl
 case f0=>obtain⟨k,_,rfl⟩:=h;rfl
 case f1=>obtain⟨k,_,_,_,rfl⟩:=h;rfl
 case u c t=>obtain⟨k,_,rfl⟩:=h;cases c using ϙ<;>rfl
theorem wk (h:1<=d) (q:Q (ϋ t.qv) H):aG d 104 [ϋ t.sort] H Q:=by
 show iH.go h rfl λd h=>?_;cases t using ϐ with
 |q s n=>cases s using so<;>exact bl (n:=20) (by kernel_rfl) q
 |n0 s n=>cases s using so<;>exact bl (n:=20) (by kernel_rfl) q
 |n1 s n t=>cases s using so<;>exact bl (n:=20) (by kernel_rfl) q
 |u c t=>cases c using ϙ<;>exact bl (n:=20) (by kernel_rfl) q
 |_=>exact bl (n:=20) (by kernel_rfl) q
theorem kl {s:C?} {tid:m?} {x:g? V} (h:2<=d) (c:0<tid) (a:((lg 48).any λK=>K.1== (tid:C?))=f?) (b:aG (d - 1) 125 [ϊ 3,ύ x] H (λZ H=>Q ϖ H)):aG d 118 [ϊ 3,ύ [ϋ s,ϋ tid,ύ x]] H Q:=by
 show bf (U0 h) λd q h=>?_;subst q;show hO rfl ?_;simp![oh,SK,a,show decide ((tid:C?)<=0)=f? from by simp;omega];exact b
theorem ba {l:g? V} (h:b? l<10000000):aH H (ύ l)=d? l:=by simp only[aH,aJ,h,V!]
theorem aL.len:∀{us:g? Tm} {ks:g? m?},aL ts us ks->b? ks=b? us:=by
 intro l;induction l with
 |nil=>
  intro y;cases y using aab with
  |nil=>
   exact λZ=>rfl
  |cons b s=>
   exact λh=>h.elim
 |cons a R i=>
  intro y;cases y using aab with
  |cons b s=>
   exact λh=>R? (λZ=>Z+1) (i h.2)
  |nil=>
   exact λh=>h.elim
theorem qD:b? t.dO<=2:=by cases t using ϐ<;>simp[Tm.dO]
theorem FC (h:t.good=j?):(T! 2 t.sort&&(T! t.sort 11&&T! 1 t.qv))=j?:=by
 cases t using ϐ with
 |p n=>cases h
 |q s n=>cases s using so<;>rfl
 |n0 s n=>cases s using so<;>rfl
 |n1 s n t=>cases s using so<;>rfl
 |u c t=>cases c using ϙ<;>rfl
 |_=>rfl
theorem nG (C:6<=d) (w:KT H ts) (f:cR ts t r) (h:t.good=j?) (q:Q ϖ H):aG d 111 [ϊ 3,r] H Q:=by
 show e9.go C rfl λd C=>?_;have z:2<=t.sort/\t.sort<=11/\0<t.qv:=by
  obtain⟨D,m⟩:=t?.mp (FC h);obtain⟨m,E⟩:=t?.mp m;exact⟨w? D,w? m,w? E⟩
 simp![aw (ES f),aw (bP f),show decide ((t.qv:C?)=0)=f? from by simp;omega,show decide ((t.sort:C?)<=1)=f? from by simp;omega,show decide ((11:C?)<(t.sort:C?))=f? from by simp;omega];show wk (by omega) ?_;simp![];show eu (by omega) f λks x=>?_;have i:=x.len;have m:=qD (t:=t);show bo (ba (by simp[aN];omega)) ?_;have L:∀{ks:g? m?} {us:g? Tm} {o:p? V} {l:g? V} {P:Fl->Ă->Hp->Prop},aL ts us ks->b? l<10000000->(∀o,P ϒ [d? (ϊ 3),d? r,d? (ϋ t.sort),o] H)->
   bG (bu Ā d fJ) (λv ρ H Q=>Q (put v ρ 3) H) (λH'=>aH H' (ύ l)=d? l/\ao H' (ύ l)=ao H (ύ l)) (aN ks) [d? (ϊ 3),d? r,d? (ϋ t.sort),o] H P:=by
  intro ks;induction ks with
  |nil=>
   intro us o l P y i A;exact⟨⟨ba i,rfl⟩,A o⟩
  |cons k ks K=>
   intro us o l P y i A;cases us using aab with
   |nil=>exact y.elim
   |cons u us=>
    simp![*,aw (ES f),aw (bP f)];show⟨⟨ba i,rfl⟩,?_⟩;simp![w.cP];exact gV (by omega) w y.1 λr f=>K y.2 i A
 show L x (by simp[aN];omega) λo=>?_;clear L;cases t using ϐ with
 |p n=>cases h
 |q s n=>
  cases f;clear m i x z h;cases s using so<;>(
   show pn 2 (Ϧ (.cmp M_ (.idx (Ϙ 1) (ϰ (1))) (ϰ (0))) Ϟ Ϲ) (by kernel_rfl) ?_;simp![show decide ((n:C?)<0)=f? from rfl];exact q)
 |n0 s n=>
  cases f;simp only[Tm.good,Y?,O!,į] at h;clear m i x z;cases s using so<;>(
   show pn 9 (.expr (Ϯ 118 (ϓ (Ϙ 0) (ϓ (Ϙ 1) Ϥ)))) (by kernel_rfl) ?_;exact kl (by omega) h.1 h.2 (ku (by omega) q))
 |n1 s n t=>
  show bf f λk e g=>?_;subst g;simp only[Tm.good,Y?,O!,į] at h;clear m i x z f;cases s using so<;>(
   show pn 9 (.expr (Ϯ 118 (ϓ (Ϙ 0) (ϓ (Ϙ 1) Ϥ)))) (by kernel_rfl) ?_;exact kl (by omega) h.1.1 h.1.2 (ko (by omega) w e h.2 q))
 |f0 t=>
  show bf f λk e g=>?_;try clear f
  subst g;show pn 9 (Ϣ (Ϧ (.or (.not (Ϯ 132 (ϓ (Ϙ 0) (ϓ (.idx (Ϙ 1) (ϰ (1))) Ϥ)))) (.cmp M_ (.idx (Ϙ 1) (ϰ (2))) (ϰ (0)))) Ϟ Ϲ) dC) (by kernel_rfl) ?_;simp![];show fW (by omega) w e ?_;simp![show t.cM=j? from h];exact ku (by omega) q
 |f1 t T=>
  show fL f λk j e F B=>?_;try clear f
  subst B;simp only[Tm.good,Y?] at h;show pn 9 (Ϣ (Ϧ (.or (.not (Ϯ 132 (ϓ (Ϙ 0) (ϓ (.idx (Ϙ 1) (ϰ (1))) Ϥ)))) (.cmp M_ (.idx (Ϙ 1) (ϰ (2))) (ϰ (0)))) Ϟ Ϲ) dC) (by kernel_rfl) ?_;simp![];show fW (by omega) w e ?_;simp![h.1];exact ko (by omega) w F h.2 q
 |u c t=>
  show bf f λk e g=>?_;try clear f
  subst g;have R:t.cM=j?->∀s,bu Ā d (Ϧ (.not (Ϯ 132 (ϓ (Ϙ 0) (ϓ (.idx (Ϙ 1) (ϰ (1))) Ϥ)))) Ϟ Ϲ) [d? (ϊ 3),d? (ύ [ϋ s,ϋ k]),d? (ϋ s),o] H (dA Q):=by
   intro I s;simp![];show fW (by omega) w e ?_;simp![I];exact q
  cases c using ϙ with
  |b=>
   show pn 9 (Ϧ (.not (.or (Ϯ 202 (ϓ (Ϙ 0) (ϓ (.idx (Ϙ 1) (ϰ (1))) Ϥ))) (Ϯ 216 (ϓ (Ϙ 0) (ϓ (.idx (Ϙ 1) (ϰ (1))) Ϥ))))) Ϟ Ϲ) (by kernel_rfl) ?_;simp![];show dH (by omega) w e ?_;simp only[Tm.good,Ğ] at h;clear m i x z;cases J:t.isVal using so with
   |true=>(simp![]);exact q
   |false=>
    simp![];show bU (by omega) w e ?_;rw[J] at h;simp![show t.isVar=j? from by simpa using h];exact q
  |a=>exact pn 9 _ (by kernel_rfl) (R h 4)
  |r=>exact pn 9 _ (by kernel_rfl) (R h 5)
  |o=>exact pn 9 _ (by kernel_rfl) (R h 9)
  |w=>exact pn 9 _ (by kernel_rfl) (R h 11)
end
end
section
set_option tactic.hygienic true
structure Nx (H:Hp) (ts:g? Tm) (H':Hp) (ts':g? Tm):Prop where
 keep:∀n c,(n<4\/8<n)->H[n]? = d? c->H'[n]? = d? c
 len:b? H<=b? H'
 kt:KT H' ts'
 ext:∃us,ts'=ts++us
 base:9<=b? H
theorem KT.len {H:Hp} {T:g? Tm} (w:KT H T):9<=b? H:=by
 obtain⟨_,w⟩:=w;have:=(i?.mp w.c8).1;omega
theorem Nx.refl {H:Hp} {T:g? Tm} (w:KT H T):Nx H T H T:=⟨λZ Z Z e=>e,J? _,w,⟨[],by simp⟩,w.len⟩
theorem Nx.trans {H H' f:Hp} {i g T:g? Tm} (a:Nx H i H' g) (b:Nx H' g f T):Nx H i f T where
 keep:=λn c h e=>b.keep n c h (a.keep n c h e)
 len:=S? a.len b.len
 kt:=b.kt
 ext:=by obtain⟨x,rfl⟩:=a.ext;obtain⟨y,rfl⟩:=b.ext;exact⟨x++y,by simp⟩
 base:=a.base
theorem Nx.code {H H':Hp} {b T:g? Tm} {k:m?} {t:Tm} (a:Nx H b H' T) (h:b[k]? = d? t):T[k]? = d? t:=by
 obtain⟨x,rfl⟩:=a.ext;rw[H? (i?.mp h).1];exact h
theorem Nx.codes {H H':Hp} {b T:g? Tm} (a:Nx H b H' T):∀{us:g? Tm} {ks:g? m?},aL b us ks->aL T us ks:=by
 intro l;induction l with
 |nil=>
  intro y;cases y using aab with
  |nil=>
   exact λh=>h
  |cons B s=>
   exact λh=>h.elim
 |cons A R i=>
  intro y;cases y using aab with
  |cons B s=>
   exact λh=>⟨a.code h.1,i h.2⟩
  |nil=>
   exact λh=>h.elim
theorem KT.of {H H':Hp} {T:g? Tm} (w:KT H T) (h:∀n,n<9->H'[n]? = H[n]?):KT H' T:=by
 obtain⟨R,w⟩:=w;exact⟨R,(h 3 (by omega)).trans w.inst,(h 4 (by omega)).trans w.c4,(h 5 (by omega)).trans w.c5,(h 6 (by omega)).trans w.c6,(h 7 (by omega)).trans w.c7,(h 8 (by omega)).trans w.c8,w.len,w.row,w.inj,w.prim,w.lO,let⟨xs,e,l⟩:=w.Vq;⟨xs,(h 1 (by omega)).trans e,l⟩⟩
theorem Nx.app {H:Hp} {T:g? Tm} (w:KT H T) (X:g? ā):Nx H T (H++X) T where
 keep:=λn c Z e=>by rw[H? (i?.mp e).1];exact e
 len:=by simp
 kt:=w.of λn h=>H? (by have:=w.len;omega)
 ext:=⟨[],by simp⟩
 base:=w.len
theorem Nx.set {H H':Hp} {f T:g? Tm} (a:Nx H f H' T) {n:m?} (c:ā) (h:b? H<=n):Nx H f (H'.set n c) T where
 keep:=λm c' b e=>by
  have g:=(i?.mp e).1;rw[M? (by omega)];exact a.keep m c' b e
 len:=by simpa using a.len
 kt:=a.kt.of λm b=>M? (by have:=a.base;omega)
 ext:=a.ext
 base:=a.base
section
variable {d:m?} {H:Hp} {ts:g? Tm} {k:m?} {t:Tm} {r:V} {Q:V->Hp->Prop}
def natOf:V->m?
 |ϋ i=>i.toNat
 |_=>0
def ve:V->g? V
 |ύ l=>l
 |_=>[]
def natAt (l:g? V) (i:m?):m?:=natOf (l.getD i ϖ)
def decode (T:g? Tm) (r:V):p? Tm:=
 let l:=ve r
 let s:=natAt l 0
 let n:=natAt l 1
 if s=1 then d? (.p n) else if s=6 then d? (.q f? n) else if s=7 then d? (.q j? n)
 else if s=2\/s=3 then i_ (ve (l.getD 2 ϖ)) (d? (Ϡ (s== 3) n)) λy Z=>(T[natOf y]?).map (ϗ (s== 3) n)
 else if s=10 then i_ (ve (l.getD 3 ϖ)) ((T[n]?).map Tm.f0) λy Z=>(T[n]?).bind λo=>(T[natOf y]?).map (Tm.f1 o)
 else(T[n]?).map (Tm.u (if s=4 then .a else if s=5 then .r else if s=8 then .b else if s=9 then .o else .w))
theorem qq (h:cR ts t r):decode ts r=d? t:=by
 cases t using ϐ with
 |p n=>cases h;rfl
 |q s n=>cases h;cases s using so<;>rfl
 |n0 s n=>cases h;cases s using so<;>rfl
 |n1 s n t=>obtain⟨k,a,rfl⟩:=h;cases s using so<;>exact(R? (aaM _) a:(ts[k]?).map _=_)
 |f0 o=>obtain⟨k,a,rfl⟩:=h;exact(R? (aaM Tm.f0) a:(ts[k]?).map _=_)
 |f1 o t=>obtain⟨k,j,a,b,rfl⟩:=h;change((ts[k]?).bind λo=>(ts[j]?).map (Tm.f1 o))=_;rw[a,b];rfl
 |u c t=>obtain⟨k,a,rfl⟩:=h;cases c using ϙ<;>exact(R? (aaM _) a:(ts[k]?).map _=_)
theorem xn {T:Tm} (h:cR ts t r) (h':cR ts T r):t=T:=by
 have:=(qq h).symm.trans (qq h');cases this;rfl
theorem P8 {R:V} (w:KT H ts) (h:cR ts t r) (h':cR ts t R):r=R:=by
 have i:=w.inj;cases t using ϐ with
 |p n=>exact Ŷ h (adq h')
 |q s n=>exact Ŷ h (adq h')
 |n0 s n=>exact Ŷ h (adq h')
 |n1 s n t=>obtain⟨k,b,rfl⟩:=h;obtain⟨K,a,rfl⟩:=h';rw[i _ _ _ b a]
 |f0 o=>obtain⟨k,b,rfl⟩:=h;obtain⟨K,a,rfl⟩:=h';rw[i _ _ _ b a]
 |f1 o t=>obtain⟨k,j,b,f,rfl⟩:=h;obtain⟨K,J,a,e,rfl⟩:=h';rw[i _ _ _ b a,i _ _ _ f e]
 |u c t=>obtain⟨k,b,rfl⟩:=h;obtain⟨K,a,rfl⟩:=h';rw[i _ _ _ b a]
theorem n6 (h:cR ts t r):V.pl 8 r=j?/\∃l,r=ύ l:=by
 cases t using ϐ with
 |p n=>cases h;exact⟨rfl,_,rfl⟩
 |q s n=>cases h;exact⟨rfl,_,rfl⟩
 |n0 s n=>cases h;exact⟨rfl,_,rfl⟩
 |n1 s n t=>obtain⟨k,a,rfl⟩:=h;exact⟨rfl,_,rfl⟩
 |f0 o=>obtain⟨k,a,rfl⟩:=h;exact⟨rfl,_,rfl⟩
 |f1 o t=>obtain⟨k,j,a,b,rfl⟩:=h;exact⟨rfl,_,rfl⟩
 |u c t=>obtain⟨k,a,rfl⟩:=h;exact⟨rfl,_,rfl⟩
theorem FV (r:V):∀(R:g? V) (n:m?),(∀(i:m?) (x:V),R[i]? = d? x->x≠r)->ea r ((R.zipIdx n).map λp=>(p.1,ϋ (p.2:m?)))=e?:=by
 intro l;induction l with
 |nil=>
  exact λn Z=>rfl
 |cons x R I=>
  exact λn h=>by
   simp only[ô,C!,rH,md];have a:V.beq x r=f?:=by
    cases e:V.beq x r using so with
    |false=>rfl
    |true=>exact absurd ((V.beq_iff _ _).mp e) (h 0 x rfl)
   rw[a];exact I (n+1) λi y b=>h (i+1) y (b)
theorem wx (r:V):∀(R:g? V) (n k:m?),R[k]? = d? r->(∀i:m?,R[i]? = d? r->i=k)->ea r ((R.zipIdx n).map λp=>(p.1,ϋ (p.2:m?)))=d? (ϋ ((n+k:m?):C?)):=by
 intro l;induction l with
 |nil=>
  rintro n k;exact λh Z=>by simp at h
 |cons x R I=>
  intro n y;cases y using aac with
  |zero=>
   exact λh Z=>by
    simp at h;subst h;simp only[ô,C!,rH,md,(V.beq_iff x x).mpr rfl,V!,Nat.add_zero]
  |succ k=>
   exact λh a=>by
    simp only[ô,C!,rH,md];have c:V.beq x r=f?:=by
     cases e:V.beq x r using so with
     |false=>rfl
     |true=>
      rw[(V.beq_iff _ _).mp e] at a;have:=a 0 rfl;omega
    rw[c];have:=I (n+1) k (h) (λi b=>by have:=a (i+1) (b);omega);rw[show n+(k+1)=n+1+k from by omega];exact this
theorem uY.find {R:g? V} (w:uY H ts R) (c:ts[k]? = d? t) (g:cR ts t r):ea r (đ R)=d? (ϋ k):=by
 have b:k<b? R:=by rw[w.len];exact(i?.mp c).1
 have a:R[k]? = d? R[k]:=Z? b;have e:=P8 ⟨R,w⟩ (w.row k t _ c a) g;rw[e] at a;have:=wx r R 0 k a λi f=>by
  have h:i<b? ts:=by rw[<- w.len];exact(i?.mp f).1
  have j:=xn (w.row i ts[i] r (Z? h) f) g;exact w.inj i k t (j▸Z? h) c
 simpa [đ] using this
theorem uY.bt {R:g? V} (w:uY H ts R) (f:t∉ts) (c:cR ts t r):ea r (đ R)=e?:=
 FV r R 0 λi x a e=>by
  subst e;have h:i<b? ts:=by rw[<- w.len];exact(i?.mp a).1
  have b:=xn (w.row i ts[i] _ (Z? h) a) c;exact f (b▸Ų h)
theorem uY.TR {R:g? V} (w:uY H ts R) (j:t∉ts) (g:cR ts t r):r∉(đ R).map (λZ=>Z.1):=by
 intro h;simp only[đ,abh,B_,aaB] at h;show bf h λc f q=>?_;try clear h
 subst q;obtain⟨x,i⟩:=c;have a:=List.mem_zipIdx_iff_getElem?.mp f;simp only at a;replace a:=a;have b:i<b? ts:=by rw[<- w.len];exact(i?.mp a).1
 have e:=xn (w.row i ts[i] _ (Z? b) a) g;exact j (e▸Ų b)
theorem Lv {R:g? V} {r:V}:đ (R++[r])=đ R++[(r,ϋ (b? R:m?))]:=by
 simp[đ,List.zipIdx_append]
theorem W6 {a x e:V} {n:m?} {kvs:g? (V×V)} (h:H[n]? = d? (Ϝ kvs)) (b:V.pl 8 x=j?) (c:∃l,x=ύ l):jb (ϊ n) x e H=d? ((ea x kvs).getD e):=by
 obtain⟨l,rfl⟩:=c;simp only[jb,h,b,V!,vI,vT,fO,F?]
theorem Dm {n:m?} {kvs:g? (V×V)} (h:H[n]? = d? (Ϝ kvs)):ao H (ϊ n)=j?:=by simp only[ao,h,fO,F?,Ĕ]
theorem bq {n:m?} {xs:g? V} (h:H[n]? = d? (ό xs)):dB H (ϊ n)=j?:=by simp only[dB,h,nQ,F?,Ĕ]
theorem aV {n:m?} {xs:g? V} {v:V} (a:H[n]? = d? (ό xs)) (h:b? xs<10000000):dY (ϊ n) v H=d? (H.set n (ό (xs++[v]))):=by simp only[dY,a,aJ,h,V!,vR,nQ,F?]
theorem sR {n:m?} {kvs:g? (V×V)} {x v:V} (b:H[n]? = d? (Ϝ kvs)) (c:V.pl 8 x=j?) (e:∃l,x=ύ l) (h:b? kvs<10000000) (a:x∉kvs.map (λZ=>Z.1)):cG (ϊ n) x v H=d? (H.set n (Ϝ (kvs++[(x,v)]))):=by
 obtain⟨l,rfl⟩:=e;simp only[cG,b,c,aJ,h,aco,V!,sO a,vI,vS,vT,vR,fO,F?]
theorem FT (b:1<=d) (w:KT H ts) (c:ts[k]? = d? t) (h:cR ts t r) (q:Q (ϋ k) H):aG d 76 [ϊ 3,r] H Q:=by
 show dF.go b rfl λd b=>?_;obtain⟨R,W⟩:=w;simp![aw (W.vu),Dm W.c5,aw (W6 W.c5 (n6 h).1 (n6 h).2 (a:=ϖ)),W.find c h,Option.getD_some,K?];exact q
def grown (H:Hp) (T:g? Tm) (R:g? V) (r:V) (t:Tm):Hp:=
 ((((H.set 4 (ό (R++[r]))).set 5 (Ϝ (đ R++[(r,ϋ (b? R:m?))]))).set 6 (ό ((T.map λt=>ϋ t.depth)++[ϋ t.depth]))).set 7 (ό ((T.map λt=>ϋ t.weight)++[ϋ t.weight]))).set 8 (ό ((T.map λt=>ϋ t.eW)++[ϋ t.eW]))
theorem cR.mono {T:g? Tm} (h:cR ts t r) (e:∀(k:m?) (u:Tm),ts[k]? = d? u->T[k]? = d? u):cR T t r:=by
 cases t using ϐ<;>simp only[cR] at h ⊢
 case p=>exact h
 case q s n=>exact h
 case n0 s n=>exact h
 case n1 s n t=>obtain⟨k,a,rfl⟩:=h;exact⟨k,e _ _ a,rfl⟩
 case f0=>obtain⟨k,a,rfl⟩:=h;exact⟨k,e _ _ a,rfl⟩
 case f1=>obtain⟨k,j,a,b,rfl⟩:=h;exact⟨k,j,e _ _ a,e _ _ b,rfl⟩
 case u c t=>obtain⟨k,a,rfl⟩:=h;exact⟨k,e _ _ a,rfl⟩
theorem Nx.grown {R:g? V} (w:uY H ts R) (y:cR ts t r) (q:t∈ă) (m:t∉ts):Nx H ts (grown H ts R r t) (ts++[t]):=by
 have g:9<=b? H:=KT.len ⟨R,w⟩;have p:∀(k:m?) (u:Tm),ts[k]? = d? u->(ts++[t])[k]? = d? u:=λk u e=>by
  rw[H? (i?.mp e).1];exact e
 show⟨λn c h e=>?_,by simp[Mine.Internal.grown],⟨R++[r],?_⟩,⟨[t],rfl⟩,g⟩
 ·simp only[Mine.Internal.grown];rw[M? (by omega),M? (by omega),M? (by omega),M? (by omega),M? (by omega)];exact e
 ·have s:∀{i j:m?} {c:ā} {h:Hp},i≠j->(h.set i c)[j]? = h[j]? :=λh=>M? h;have S:∀{i:m?} {c:ā} {h:Hp},i<b? h->(h.set i c)[i]? = d? c:=λh=>by rw[B! h]
  show⟨?_,?_,?_,?_,?_,?_,?_,?_,?_,?_,?_,?_⟩
  ·simp only[Mine.Internal.grown];rw[s (by decide),s (by decide),s (by decide),s (by decide),s (by decide)];exact w.inst
  ·simp only[Mine.Internal.grown];rw[s (by decide),s (by decide),s (by decide),s (by decide),S (by omega)]
  ·simp only[Mine.Internal.grown];rw[s (by decide),s (by decide),s (by decide),S (by simp;omega),Lv]
  ·simp only[Mine.Internal.grown];rw[s (by decide),s (by decide),S (by simp;omega)];simp
  ·simp only[Mine.Internal.grown];rw[s (by decide),S (by simp;omega)];simp
  ·simp only[Mine.Internal.grown];rw[S (by simp;omega)];simp
  ·simp[w.len]
  ·intro k u x B o;clear m q;rcases fZ B with f| ⟨rfl,rfl⟩
   ·have C:k<b? R:=by rw[w.len];exact(i?.mp f).1
    rw[H? C] at o;exact(w.row k u x f o).mono p
   ·rw[<- w.len,eg] at o;cases o;exact y.mono p
  ·intro i j u z A;clear p q y;rcases fZ z with a| ⟨rfl,rfl⟩<;>rcases fZ A with b| ⟨rfl,e⟩
   ·exact w.inj i j u a b
   ·subst e;exact absurd (U! a) m
   ·exact absurd (U! b) m
   ·rfl
  ·exact λn m=>p _ _ (w.prim n m)
  ·intro u v;rcases N?.mp v with h|h
   ·exact w.lO u h
   ·rw[B?.mp h];exact q
  ·exact bf w.Vq λxs e l=>⟨xs,by simp only[Mine.Internal.grown];rw[s (by decide),s (by decide),s (by decide),s (by decide),s (by decide)];exact e,l⟩
end
end
def Fx (l:m?):g? Tm->m?->m?
 |[],x=>x
 |u::us,x=>Fx l us (if x<u.depth+l then u.depth+l else x)
theorem XH (l x:m?):Fx l [] x=x:=rfl
theorem D5 (l x:m?) (u:Tm) (us:g? Tm):Fx l (u::us) x=Fx l us (if x<u.depth+l then u.depth+l else x):=rfl
def Yl:g? Tm->m?->m?
 |[],x=>x
 |u::us,x=>Yl us (x+u.weight)
def Xu:g? Tm->m?->m?
 |[],x=>x
 |u::us,x=>Xu us (if u.opens=j? then 1 else x)
theorem mx (a b:m?):(if a<b then b else a)=max a b:=by
 by_cases h:a<b
 ·exact(P? h).trans (Nat.max_eq_right (Ã h)).symm
 ·exact(E? h).trans (Nat.max_eq_left (í h)).symm
theorem UG (t:Tm):Fx t.level t.dO 1=t.depth:=by
 cases t using ϐ with
 |u c t=>cases c using ϙ<;>exact mx 1 _
 |f1 o t=>exact(mx _ _).trans (R? (λx=>max x t.depth) (mx 1 o.depth))
 |n1 s n t=>exact mx 1 _
 |f0 o=>exact mx 1 _
 |_=>rfl
theorem Wl (t:Tm):Yl t.dO 1=t.weight:=by cases t using ϐ<;>rfl
theorem bor (a b:D?):(if b=j? then 1 else(if a=j? then 1 else 0):m?)=if(a||b)=j? then 1 else 0:=by cases a using so<;>cases b using so<;>rfl
theorem We (t:Tm):Xu t.dO (if t.isVar=j? then 1 else 0)=t.eW:=by
 cases t using ϐ with
 |f1 o t=>exact bor o.opens t.opens
 |_=>rfl
section
theorem Hi (hd:7<=d) (w:KT H i) (g:cR i t r) (N:t∈ă) (hp:t.VB=f?) (z:t∉i) (q:∀H',Nx H i H' (i++[t])->Q (ϋ (b? i:m?)) H'):aG d 76 [ϊ 3,r] H Q:=by
 show dF.go hd rfl λd hd=>?_;have hg:t.good=j?:=by
  rcases F9 N with h|h
  ·rw[hp] at h;cases h
  ·simp![];exact h
 have hsm:=AR N;have hlen:=w.small;have O:=w;obtain⟨R,W⟩:=w;have hb:=KT.len O;simp![aw (W.vu),Dm W.c5,aw (W6 W.c5 (n6 g).1 (n6 g).2 (a:=ϖ)),W.bt z g,ç,K?];show nG (by omega) O g hg ?_;simp![lx,aw (bP g)];have K:∀(dep wt op:m?) (o1 o2:p? V),dep=t.depth->wt=t.weight->op=t.eW->
   bu Ā d fz [d? (ϊ 3),d? r,d? (ϋ (-1)),d? (ϋ dep),d? (ϋ wt),d? (ϋ op),o1,o2,e?] H (dA Q):=by
  intro dep wt op o1 o2 J B e3;have x:=W.len;have g4:(H.set 4 (ό (R++[r])))[5]? = d? (Ϝ (đ R)):=by rw[M? (by decide)];exact W.c5
  have I:∀{n:m?} {c:ā} {h:Hp},n≠3->h[3]? = H[3]? ->(h.set n c)[3]? = H[3]? :=λz e=>by rw[M? z];exact e
  have A:∀{h:Hp} {a:k!} {u:V},h[3]? = H[3]? ->aA H a (ϊ 3)=d? u->aA h a (ϊ 3)=d? u:=λJ B=>by simp only[aA,J,vR,LL] at B ⊢;exact B
  have X:(H.set 4 (ό (R++[r])))[3]? = H[3]? :=I (by decide) rfl;have Y:=I (n:=5) (c:=Ϝ (đ R++[(r,ϋ (b? R:m?))])) (by decide) X;have e7:=I (n:=6) (c:=ό ((i.map λt=>ϋ t.depth)++[ϋ dep])) (by decide) Y;have e8:=I (n:=7) (c:=ό ((i.map λt=>ϋ t.weight)++[ϋ wt])) (by decide) e7;have g6:((H.set 4 (ό (R++[r]))).set 5 (Ϝ (đ R++[(r,ϋ (b? R:m?))])))[6]? = d? (ό (i.map λt=>ϋ t.depth)):=by
   rw[M? (by decide),M? (by decide)];exact W.c6
  have g7:(((H.set 4 (ό (R++[r]))).set 5 (Ϝ (đ R++[(r,ϋ (b? R:m?))]))).set 6 (ό ((i.map λt=>ϋ t.depth)++[ϋ dep])))[7]? = d? (ό (i.map λt=>ϋ t.weight)):=by
   rw[M? (by decide),M? (by decide),M? (by decide)];exact W.c7
  have g8:((((H.set 4 (ό (R++[r]))).set 5 (Ϝ (đ R++[(r,ϋ (b? R:m?))]))).set 6 (ό ((i.map λt=>ϋ t.depth)++[ϋ dep]))).set 7 (ό ((i.map λt=>ϋ t.weight)++[ϋ wt])))[8]? = d? (ό (i.map λt=>ϋ t.eW)):=by
   rw[M? (by decide),M? (by decide),M? (by decide),M? (by decide)];exact W.c8
  simp![fz,show decide ((24:C?)<(dep:C?))=f? from by simp;omega,show decide ((4096:C?)<(wt:C?))=f? from by simp;omega,aw (W.Nq),aw (len_list W.c4 (by omega))];simp![bq W.c4,aw (aV W.c4 (v:=r) (by omega)),K?];simp![A X W.vu,aw (sR g4 (n6 g).1 (n6 g).2 (v:=ϋ (b? R:m?)) (by simp[đ];omega) (W.TR z g))];simp![A Y W.rK,bq g6,aw (aV g6 (v:=ϋ dep) (by simp;omega)),K?];simp![A e7 W.uZ,bq g7,aw (aV g7 (v:=ϋ wt) (by simp;omega)),K?];simp![A e8 W.v9,bq g8,aw (aV g8 (v:=ϋ op) (by simp;omega)),K?];have:=q _ (Nx.grown W g N z);clear g8 e8 g7 e7;subst J B e3;rw[<- x] at this;exact this
 have L:∀{ks:g? m?} {us:g? Tm} {dep wt op:m?} {o:p? V} {l:g? V} {P:Fl->Ă->Hp->Prop},aL i us ks->b? l<10000000->(∀o,P ϒ [d? (ϊ 3),d? r,d? (ϋ (-1)),d? (ϋ (Fx t.level us dep:m?)),d? (ϋ (Yl us wt:m?)),d? (ϋ (Xu us op:m?)),d? (ϋ t.level),o,e?] H)->
   bG (bu Ā d dc) (d6 Ā d (ϝ 7)) (λH'=>aH H' (ύ l)=d? l/\ao H' (ύ l)=ao H (ύ l)) (aN ks) [d? (ϊ 3),d? r,d? (ϋ (-1)),d? (ϋ dep),d? (ϋ wt),d? (ϋ op),d? (ϋ t.level),o,e?] H P:=by
  intro ks;induction ks with
  |nil=>
   intro us dep wt op o l P m x C;cases us using aab with
   |nil=>exact⟨⟨ba x,rfl⟩,C o⟩
   |cons _ _=>exact m.elim
  |cons k ks ih=>
   intro us dep wt op o l P m x C;cases us using aab with
   |nil=>exact m.elim
   |cons u us=>
    show⟨⟨ba x,rfl⟩,?_⟩;have h6:(i.map λt=>ϋ t.depth)[k]? = d? (ϋ u.depth):=by rw[X!,m.1];rfl
    have h7:(i.map λt=>ϋ t.weight)[k]? = d? (ϋ u.weight):=by rw[X!,m.1];rfl
    have h8:(i.map λt=>ϋ t.eW)[k]? = d? (ϋ u.eW):=by rw[X!,m.1];rfl
    have M:=O.lt m.1;have S:∀D:m?,D=(if dep<u.depth+t.level then u.depth+t.level else dep)->bu Ā d fY [d? (ϊ 3),d? r,d? (ϋ (-1)),d? (ϋ D),d? (ϋ wt),d? (ϋ op),d? (ϋ t.level),d? (ϋ k),e?] H (λf b j=>match f with
      |ϒ=>bG (bu Ā d dc) (d6 Ā d (ϝ 7)) (λH'=>aH H' (ύ l)=d? l/\ao H' (ύ l)=ao H (ύ l)) (aN ks) b j P
      |Ϭ=>bG (bu Ā d dc) (d6 Ā d (ϝ 7)) (λH'=>aH H' (ύ l)=d? l/\ao H' (ύ l)=ao H (ύ l)) (aN ks) b j P
      |ϲ=>P ϒ b j
      |ϣ v=>P (ϣ v) b j):=by
     intro D e;simp![fY,aw (W.uZ),aw (br W.c7 h7 (by omega)),aw (W.v9),aw (br W.c8 h8 (by omega))];clear K hsm hg q z hp;cases F:u.opens using so with
     |true=>
      simp![show u.eW=1 from by simp[Tm.eW,F]];show ih (us:=us) (dep:=D) (wt:=wt+u.weight) (op:=1) m.2 x λo=>?_;have:=C o;simp only[D5,Xu,F,<- e] at this;exact this
     |false=>
      simp![show u.eW=0 from by simp[Tm.eW,F]];show ih (us:=us) (dep:=D) (wt:=wt+u.weight) (op:=op) m.2 x λo=>?_;have:=C o;simp only[D5,Xu,F,<- e] at this;exact this
    simp![aw (W.rK),aw (br W.c6 h6 (by omega))];clear K hsm hg q z hp;by_cases y:dep<u.depth+t.level
    ·rw[show decide ((dep:C?)<(u.depth:C?)+(t.level:C?))=j? from by simp;omega];simp![aw (W.rK),aw (br W.c6 h6 (by omega))];exact S (u.depth+t.level) (by rw[P? y])
    ·rw[show decide ((dep:C?)<(u.depth:C?)+(t.level:C?))=f? from by simp;omega];exact S dep (by rw[E? y])
 have T:∀op:m?,op=(if t.isVar=j? then 1 else 0)->bu Ā d fK [d? (ϊ 3),d? r,d? (ϋ (-1)),d? (ϋ 1),d? (ϋ 1),d? (ϋ op),e?,e?,e?] H (dA Q):=by
  intro op e;simp![fK,aw (bP g)];show yd (by omega) ?_;simp![];show eu (by omega) g λks M=>?_;have x:=M.len;have h2:=qD (t:=t);show bo (ba (by simp[aN];omega)) ?_;show L (dep:=1) (wt:=1) (op:=op) M (by simp[aN];omega) λo=>?_;exact K _ _ _ _ _ (UG t) (Wl t) (by rw[e];exact We t)
 clear L K hsm hg z N;cases t using ϐ with
 |p n=>cases hp
 |q s n=>cases s using so<;>(simp![Tm.sort,aw (bP g)])<;>exact T 1 rfl
 |n0 s n=>cases s using so<;>(simp![Tm.sort,aw (bP g)])<;>exact T 0 rfl
 |n1 s n t=>cases s using so<;>(simp![Tm.sort,aw (bP g)])<;>exact T 0 rfl
 |f0 o=>(simp![Tm.sort,aw (bP g)]);exact T 0 rfl
 |f1 o t=>(simp![Tm.sort,aw (bP g)]);exact T 0 rfl
 |u c t=>cases c using ϙ<;>(simp![Tm.sort,U.sort,aw (bP g)])<;>exact T 0 rfl
end
def K4 (a:m?) (t s b:C?) (n:m?) (g:D?) (m:g? V):g? ā:=
 [ϕ 275 [("tid",ϋ t),("name",(Ϗ "T")),("sort",ϋ s),("flags",ϋ 0),("base",ϋ b),("ifaces",ϊ (a+1)),("params",ϊ (a+2)),("variances",ϊ (a+3)),("bounds",ϊ n),("fields",ϊ (a+5)),("methods",ϊ (a+6)),("asm",ϋ 0),("cctor",ϋ 0),("under",(ϋ (-1))),("impls",ϊ (a+7)),("props",ϊ (a+8)),("events",ϊ (a+9)),("finaliser",ϋ 0),("home",ϋ 0)],ό [],ό (bif g then[Ϗ "T"] else[]),ό (bif g then[ϋ 0] else[]),ό (bif g then[ύ [ϋ 0,ύ []]] else[]),ό [],ό m,ό [],ό [],ό []]
def Sh:g? V:=((l! 16).map λ(k:m?)=>ύ [ϋ 1,ϋ k])++[(ύ [ϋ 2,ϋ 2,(ύ [])]),(ύ [ϋ 2,ϋ 64,(ύ [])])]
def HT:g? ā:=
 [ϕ 338 [("kt",ϊ 3),("types",ϊ 15),("fields_",ϊ 10),("methods",ϊ 11),("names",ϊ 12),("asms",ϊ 13),("entry",ϋ 0)],ϕ 79 [("rows",ϊ 4),("index",ϊ 5),("depths",ϊ 6),("weights",ϊ 7),("opens",ϊ 8)],ό Sh,Ϝ (Sh.zipIdx.map λp=>(p.1,ϋ p.2)),ό (X? 18 (ϋ 1)),ό (X? 18 (ϋ 1)),ό (X? 18 (ϋ 0)),ό [ϖ],ό [ϖ],ό [ϖ,ϊ 132],ώ [],ό [],ό [ϖ],ό ([ϖ,ϖ,ϊ 16]++X? 61 ϖ++(l! 10).map λk=>ϊ (26+10 * k))]++
 (K4 16 2 1 12 20 f? []++(K4 26 64 1 12 30 f? [ϋ 1]++(K4 36 65 1 17 40 f? []++(K4 46 66 3 (-1) 50 f? []++(K4 56 67 3 (-1) 60 j? []++(K4 66 68 2 16 70 f? []++(K4 76 69 1 12 127 j? []++(K4 86 70 1 12 128 j? []++(K4 96 71 1 12 129 j? []++(K4 106 72 1 12 131 j? []++(K4 116 73 3 (-1) 120 f? []))))))))))++
 [ό [],ό [(ύ [ϋ 1,(ύ [])])],ό [(ύ [ϋ 2,(ύ [])])],ό [(ύ [ϋ 4,(ύ [])])],ό [],ό [(ύ [ϋ 0,(ύ [ϋ 17])])],ϕ 317 [("mid",ϋ 1),("owner",ϋ 64),("name",(Ϗ ".ctor")),("access",ϋ 6),("flags",ϋ 32),("ngen",ϋ 0),("gnames",ϊ 133),("gbounds",ϊ 134),("ret",ϋ 0),("params",(ύ [])),("pnames",(ύ [])),("pflags",(ύ [])),("body",ϖ),("native",ϋ 0)],ό [],ό [],ό []])
theorem G9 (c C:ā):rL j? 120 966 [] [c,C]=d? (ϊ 2,c::C::HT):=by kernel_rfl
def OV (tid:m?):m?:=if tid=2 then 16 else if tid=64 then 26 else if tid=65 then 36 else if tid=66 then 46 else if tid=67 then 56 else if tid=68 then 66 else if tid=69 then 76 else if tid=70 then 86 else if tid=71 then 96 else if tid=72 then 106 else if tid=73 then 116 else 0
def iR (tid:m?):D?:=([2,64,65,66,67,68,69,70,71,72,73]:g? m?).contains tid
def XD (tid:m?):V:=if iR tid then ϊ (OV tid) else ϖ
def lq:g? V:=(l! 74).map XD
def bD (tid:m?):m?:=if tid=66\/tid=67\/tid=73 then 3 else if tid=68 then 2 else 1
def ux (tid:m?):C?:=if tid=66\/tid=67\/tid=73 then -1 else if tid=68 then 16 else if tid=65 then 17 else 12
def d5 (tid:m?):m?:=if 67=tid\/(69<=tid/\tid<=72) then 1 else 0
def Ga (tid:m?):g? (C?×g? m?):=if tid=67 then[(0,[])] else if tid=69 then[(1,[])] else if tid=70 then[(2,[])] else if tid=71 then[(4,[])] else if tid=72 then[(0,[17])] else[]
def TU (p:C?×g? m?):V:=ύ [ϋ p.1,ύ (aN p.2)]
def y0 (tid:m?):g? V:=if tid=64 then[ϋ 1] else[]
structure WS (H:Hp) (ts:g? Tm):Prop where
 kt:KT H ts
 st:H[2]? = d? (ϕ 338 [("kt",ϊ 3),("types",ϊ 15),("fields_",ϊ 10),("methods",ϊ 11),("names",ϊ 12),("asms",ϊ 13),("entry",ϋ 0)])
 ty:∃ex:g? V,H[15]? = d? (ό (lq++ex))/\b? ex<=10
 me:∃ex:g? V,H[11]? = d? (ό (ϖ::ϊ 132::ex))
 stat:∀n c,16<=n->n<136->HT[n - 2]? = d? c->H[n]? = d? c
 c16:ts[16]? = d? (Ϡ f? 2)
 c17:ts[17]? = d? tA
theorem WS.nx (w:WS H T) (a:Nx H T H' t):WS H' t where
 kt:=a.kt
 st:=a.keep _ _ (by omega) w.st
 ty:=let⟨b,h,l⟩:=w.ty;⟨b,a.keep _ _ (by omega) h,l⟩
 me:=let⟨b,h⟩:=w.me;⟨b,a.keep _ _ (by omega) h⟩
 stat:=λn c d f e=>a.keep _ _ (by omega) (w.stat n c d f e)
 c16:=a.code w.c16
 c17:=a.code w.c17
section
theorem WS.bB (w:WS H t):aA H "kt" (ϊ 2)=d? (ϊ 3):=ay w.st (by kernel_rfl)
theorem WS.dq (w:WS H t):aA H "types" (ϊ 2)=d? (ϊ 15):=ay w.st (by kernel_rfl)
theorem WS.gG (w:WS H t):aA H "methods" (ϊ 2)=d? (ϊ 11):=ay w.st (by kernel_rfl)
theorem WS.jo (w:WS H t):aA H "fields_" (ϊ 2)=d? (ϊ 10):=ay w.st (by kernel_rfl)
theorem Vk (h:tid<74):lq[tid]? = d? (XD tid):=by
 simp[lq,h]
theorem qo:b? lq=74:=by simp[lq]
theorem yD (h:t∈ă):t.tid<74\/t.tid=9999:=by
 have:=bI (P:=λt=>decide (t.tid<74)||decide (t.tid=9999)) (by decide+kernel) h
 simpa using this
theorem WS.uG (w:WS H t):∃n:m?,gE H (ϊ 15)=d? (n:C?)/\74<=n/\n<=84:=by
 show bf w.ty λe h l=>⟨b? (lq++e),len_list h (by simp[qo];omega),by simp[qo],by simp[qo];omega⟩
theorem WS.rE {H:Hp} {t:g? Tm} (w:WS H t) {tid:m?} (h:tid<74):bN (ϊ 15) (ϋ tid) H=d? (XD tid):=by
 exact bf w.ty λe h' l=>br h' (by rw[H? (by rw[qo];exact h)];exact Vk h) (by omega)
structure WT (H:Hp) (tid:m?):Prop where
 sort:aA H "sort" (ϊ (OV tid))=d? (ϋ (bD tid))
 base:aA H "base" (ϊ (OV tid))=d? (ϋ (ux tid))
 flags:aA H "flags" (ϊ (OV tid))=d? (ϋ 0)
 bounds:∃n,aA H "bounds" (ϊ (OV tid))=d? (ϊ n)/\H[n]? = d? (ό ((Ga tid).map TU))
 params:∃n l,aA H "params" (ϊ (OV tid))=d? (ϊ n)/\H[n]? = d? (ό l)/\b? l=d5 tid
 methods:∃n,aA H "methods" (ϊ (OV tid))=d? (ϊ n)/\H[n]? = d? (ό (y0 tid))
def yb (n:m?):g? (k!×V):=match HT[n - 2]? with
 |some (ϕ _ fs)=>fs
 |_=>[]
theorem i6 (w:WS H t) (s:OV tid=n) (e:(decide (16<=n)&&decide (n<136)&&decide (16<=b)&&decide (b<136)&&decide (16<=p)&&decide (p<136)&&decide (16<=m)&&decide (m<136))=j?) (f:HT[n - 2]? = d? (ϕ 275 (yb n)))
  (g:(yb n).lookup (A? "sort")=d? (ϋ (bD tid))) (i:(yb n).lookup (A? "base")=d? (ϋ (ux tid))) (j:(yb n).lookup (A? "flags")=d? (ϋ 0))
  (k:(yb n).lookup (A? "bounds")=d? (ϊ b)) (o:HT[b - 2]? = d? (ό ((Ga tid).map TU))) (q:(yb n).lookup (A? "params")=d? (ϊ p)) (r:HT[p - 2]? = d? (ό l)) (a:b? l=d5 tid)
  (c:(yb n).lookup (A? "methods")=d? (ϊ m)) (d:HT[m - 2]? = d? (ό (y0 tid))):WT H tid:=by
 simp only[Y?,O!] at e;obtain⟨⟨⟨⟨⟨⟨⟨_,_⟩,_⟩,_⟩,_⟩,_⟩,_⟩,_⟩:=e;subst s;have h:=w.stat _ _ (by omega) (by omega) f;exact⟨ay h g,ay h i,ay h j,⟨b,ay h k,w.stat _ _ (by omega) (by omega) o⟩,⟨p,l,ay h q,w.stat _ _ (by omega) (by omega) r,a⟩,⟨m,ay h c,w.stat _ _ (by omega) (by omega) d⟩⟩
theorem uv (h:iR tid=j?):tid=2\/tid=64\/tid=65\/tid=66\/tid=67\/tid=68\/tid=69\/tid=70\/tid=71\/tid=72\/tid=73:=by
 simpa [iR] using h
theorem WS.Po (w:WS H t) (h:iR tid=j?):WT H tid:=by
 rcases uv h with h|h|h|h|h|h|h|h|h|h|h<;>subst h
 ·exact i6 w (n:=16) (b:=20) (p:=18) (m:=22) (l:=[]) (by rfl) rfl (by kernel_rfl) (by kernel_rfl) (by kernel_rfl) (by kernel_rfl) (by kernel_rfl) (by kernel_rfl) (by kernel_rfl) (by kernel_rfl) (by kernel_rfl) (by kernel_rfl) (by kernel_rfl)
 ·exact i6 w (n:=26) (b:=30) (p:=28) (m:=32) (l:=[]) (by rfl) rfl (by kernel_rfl) (by kernel_rfl) (by kernel_rfl) (by kernel_rfl) (by kernel_rfl) (by kernel_rfl) (by kernel_rfl) (by kernel_rfl) (by kernel_rfl) (by kernel_rfl) (by kernel_rfl)
 ·exact i6 w (n:=36) (b:=40) (p:=38) (m:=42) (l:=[]) (by rfl) rfl (by kernel_rfl) (by kernel_rfl) (by kernel_rfl) (by kernel_rfl) (by kernel_rfl) (by kernel_rfl) (by kernel_rfl) (by kernel_rfl) (by kernel_rfl) (by kernel_rfl) (by kernel_rfl)
 ·exact i6 w (n:=46) (b:=50) (p:=48) (m:=52) (l:=[]) (by rfl) rfl (by kernel_rfl) (by kernel_rfl) (by kernel_rfl) (by kernel_rfl) (by kernel_rfl) (by kernel_rfl) (by kernel_rfl) (by kernel_rfl) (by kernel_rfl) (by kernel_rfl) (by kernel_rfl)
 ·exact i6 w (n:=56) (b:=60) (p:=58) (m:=62) (l:=[Ϗ "T"]) (by rfl) rfl (by kernel_rfl) (by kernel_rfl) (by kernel_rfl) (by kernel_rfl) (by kernel_rfl) (by kernel_rfl) (by kernel_rfl) (by kernel_rfl) (by kernel_rfl) (by kernel_rfl) (by kernel_rfl)
 ·exact i6 w (n:=66) (b:=70) (p:=68) (m:=72) (l:=[]) (by rfl) rfl (by kernel_rfl) (by kernel_rfl) (by kernel_rfl) (by kernel_rfl) (by kernel_rfl) (by kernel_rfl) (by kernel_rfl) (by kernel_rfl) (by kernel_rfl) (by kernel_rfl) (by kernel_rfl)
 ·exact i6 w (n:=76) (b:=127) (p:=78) (m:=82) (l:=[Ϗ "T"]) (by rfl) rfl (by kernel_rfl) (by kernel_rfl) (by kernel_rfl) (by kernel_rfl) (by kernel_rfl) (by kernel_rfl) (by kernel_rfl) (by kernel_rfl) (by kernel_rfl) (by kernel_rfl) (by kernel_rfl)
 ·exact i6 w (n:=86) (b:=128) (p:=88) (m:=92) (l:=[Ϗ "T"]) (by rfl) rfl (by kernel_rfl) (by kernel_rfl) (by kernel_rfl) (by kernel_rfl) (by kernel_rfl) (by kernel_rfl) (by kernel_rfl) (by kernel_rfl) (by kernel_rfl) (by kernel_rfl) (by kernel_rfl)
 ·exact i6 w (n:=96) (b:=129) (p:=98) (m:=102) (l:=[Ϗ "T"]) (by rfl) rfl (by kernel_rfl) (by kernel_rfl) (by kernel_rfl) (by kernel_rfl) (by kernel_rfl) (by kernel_rfl) (by kernel_rfl) (by kernel_rfl) (by kernel_rfl) (by kernel_rfl) (by kernel_rfl)
 ·exact i6 w (n:=106) (b:=131) (p:=108) (m:=112) (l:=[Ϗ "T"]) (by rfl) rfl (by kernel_rfl) (by kernel_rfl) (by kernel_rfl) (by kernel_rfl) (by kernel_rfl) (by kernel_rfl) (by kernel_rfl) (by kernel_rfl) (by kernel_rfl) (by kernel_rfl) (by kernel_rfl)
 ·exact i6 w (n:=116) (b:=120) (p:=118) (m:=122) (l:=[]) (by rfl) rfl (by kernel_rfl) (by kernel_rfl) (by kernel_rfl) (by kernel_rfl) (by kernel_rfl) (by kernel_rfl) (by kernel_rfl) (by kernel_rfl) (by kernel_rfl) (by kernel_rfl) (by kernel_rfl)
end
abbrev Ĉ:=g? (Tm×m?×g? Tm)
def aQ (R:Ĉ) (t:Tm):g? Tm:=match R with
 |[]=>[]
 |(u,_,bs)::r=>if Tm.beq u t then bs else aQ r t
theorem GI (t:Tm):aQ [] t=[]:=rfl
theorem en (t u:Tm) (f:m?) (bs:g? Tm) (r:g? (Tm×m?×g? Tm)):aQ ((u,f,bs)::r) t=if u.beq t=j? then bs else aQ r t:=rfl
def bp (R:Ĉ) (t:Tm):m?:=match R with
 |[]=>0
 |(u,f,_)::r=>if Tm.beq u t then f else bp r t
theorem Vo (t:Tm):bp [] t=0:=rfl
theorem ek (t u:Tm) (f:m?) (bs:g? Tm) (r:g? (Tm×m?×g? Tm)):bp ((u,f,bs)::r) t=if u.beq t=j? then f else bp r t:=rfl
def Đ (R:Ĉ) (t:Tm):D?:=R.any λp=>Tm.beq p.1 t
inductive HB (ts:g? Tm):Ĉ->g? (C?×V)->g? (C?×V)->Prop
 |nil:HB ts [] [] []
 |cons {t:Tm} {f:m?} {bs:g? Tm} {R:Ĉ} {k:m?} {ks:g? m?} {b g:g? (C?×V)}:ts[k]? = d? t->aL ts bs ks->HB ts R b g->HB ts ((t,f,bs)::R) (((k:C?),ύ (aN ks))::b) (((k:C?),ϋ f)::g)
structure bj (R:Ĉ):Prop where
 keys:∀p∈R,p.1.isVar=j?/\p.1∈vars
 nodup:(R.map (λZ=>Z.1)).Nodup
 Bb:∀p∈R,∀b∈p.2.2,b∈cI
 flags:∀p∈R,p.2.1<8
 short:b? R<=5
 few:∀p∈R,p.2.2.length<=2
structure aM (H:Hp) (h:m?) (ts:g? Tm) (R:Ĉ):Prop where
 big:136<=h
 inst:∃e1 e2 e3 e4 e5 e6:V,∃hb hg:m?,∃b g:g? (C?×V),H[h]? = d? (ϕ 522 [("kt",ϊ 3),("bases",e1),("ifaces",e2),("sorts",e3),("variances",e4),("unders",e5),("bounds",ϊ hb),("gflags",ϊ hg),("news",e6),("store",ϊ 2)])/\
  H[hb]? = d? (ώ b)/\H[hg]? = d? (ώ g)/\HB ts R b g/\136<=hb/\136<=hg
theorem HB.mono {c T:g? Tm} (e:∀(k:m?) (u:Tm),c[k]? = d? u->T[k]? = d? u) {R:Ĉ} {b g:g? (C?×V)} (h:HB c R b g):HB T R b g:=by
 induction h with
 |nil=>exact .nil
 |@cons t f bs R k ks b g j a _ I=>
  show .cons (e _ _ j) ?_ I;induction bs generalizing ks with
  |nil=>cases ks using aab with
   |nil=>trivial
   |cons _ _=>exact a.elim
  |cons u us i=>cases ks using aab with
   |nil=>exact a.elim
   |cons k ks=>exact⟨e _ _ a.1,i a.2⟩
theorem aM.nx {H H':Hp} {c T:g? Tm} {h:m?} {R:Ĉ} (w:aM H h c R) (a:Nx H c H' T):aM H' h T R where
 big:=w.big
 inst:=by
  obtain⟨e,E,f,i,j,l,v,x,b,g,m,n,o,p,q,s⟩:=w.inst;have:=w.big;exact⟨e,E,f,i,j,l,v,x,b,g,a.keep _ _ (by omega) m,a.keep _ _ (by omega) n,a.keep _ _ (by omega) o,p.mono (λk u=>a.code),q,s⟩
theorem iY {H:Hp}:bZ .Is ϖ ϖ H=d? j?:=rfl
theorem ez {n:m?} {H:Hp}:bZ .Is (ϊ n) ϖ H=d? f?:=rfl
section
variable {d:m?} {H:Hp} {ts:g? Tm} {k:m?} {t:Tm} {r:V} {Q:V->Hp->Prop} {h:m?} {R:Ĉ}
theorem aM.bB (w:aM H h ts R):aA H "kt" (ϊ h)=d? (ϊ 3):=by
 obtain⟨e,E,c,f,i,j,l,m,b,g,a,_⟩:=w.inst;exact ay a (by kernel_rfl)
theorem aM.iB (w:aM H h ts R):aA H "store" (ϊ h)=d? (ϊ 2):=by
 obtain⟨e,E,c,f,i,j,l,m,b,g,a,_⟩:=w.inst;exact ay a (by kernel_rfl)
theorem aM.cls (w:aM H h ts R):jz H (ϊ h)=d? 522:=by
 obtain⟨e,E,c,f,i,j,l,m,b,g,a,_⟩:=w.inst;simp only[jz,a,vR,LL,F?]
theorem aM.no {a:k!} (e:a="sort"\/a="base"\/a="has_new") (w:aM H h ts R):aA H a (ϊ h)=e?:=by
 obtain⟨E,f,i,j,l,m,n,o,b,g,c,_⟩:=w.inst;simp only[aA,c,vR,LL,F?];rcases e with rfl|rfl|rfl<;>kernel_rfl
theorem Ui:Ā.meth 522 "sort"=d? 498:=by kernel_rfl
theorem KD:Ā.meth 522 "base"=d? 484:=by kernel_rfl
theorem F2:Ā.meth 522 "has_new"=d? 519:=by kernel_rfl
theorem aM.UM (w:aM H h ts R):aA H "sort" (ϊ h)=e?:=w.no (x? rfl)
theorem aM.K8 (w:aM H h ts R):aA H "base" (ϊ h)=e?:=w.no (u? (x? rfl))
theorem aM.WH (w:aM H h ts R):aA H "has_new" (ϊ h)=e?:=w.no (u? (u? rfl))
theorem hG (f:7<=d) (w:KT H ts) (e:cR ts t r) (i:t∈ă) (g:t.VB=f?) (q:∀(j:m?) T H',Nx H ts H' T->T[j]? = d? t->Q (ϋ j) H'):aG d 76 [ϊ 3,r] H Q:=by
 by_cases c:t∈ts
 ·obtain⟨j,b⟩:=ń c;exact FT (by omega) w b e (q j ts H (Nx.refl w) b)
 ·show Hi f w e i g c λH' a=>q _ _ _ a ?_;simp
theorem A4 {n:m?} (a:8<=d) (w:KT H ts) (b:Tm.q f? n∈ă) (q:∀(j:m?) T H',Nx H ts H' T->T[j]? = d? (.q f? n)->Q (ϋ j) H'):aG d 153 [ϊ 3,ϋ n] H Q:=by
 show tf.go a rfl λd a=>?_;simp![w.cls,aw (hW),w.hJ,K?];exact hG (t:=.q f? n) (by omega) w rfl b rfl q
theorem yq {n:m?} (a:8<=d) (w:KT H ts) (b:Tm.q j? n∈ă) (q:∀(j:m?) T H',Nx H ts H' T->T[j]? = d? (.q j? n)->Q (ϋ j) H'):aG d 160 [ϊ 3,ϋ n] H Q:=by
 show rG.go a rfl λd a=>?_;simp![w.cls,aw (hW),w.hJ,K?];exact hG (t:=.q j? n) (by omega) w rfl b rfl q
theorem hY (a:8<=d) (w:KT H ts) (c:ts[k]? = d? t) (e:Tm.u .b t∈ă) (q:∀(j:m?) T H',Nx H ts H' T->T[j]? = d? (.u .b t)->Q (ϋ j) H'):aG d 167 [ϊ 3,ϋ k] H Q:=by
 show pW.go a rfl λd a=>?_;simp![w.cls,aw (hW),w.hJ,K?];exact hG (t:=.u .b t) (by omega) w ⟨k,c,rfl⟩ e rfl q
theorem fj {n:m?} (a:8<=d) (w:KT H ts) (b:n=2\/n=5) (q:∀(j:m?) T H',Nx H ts H' T->T[j]? = d? (Ϡ f? n)->Q (ϋ j) H'):aG d 139 [ϊ 3,ϋ n,ύ []] H Q:=by
 show pS.go a rfl λd a=>?_;have c:((lg 48).any λK=>K.1== (n:C?))=f?:=by rcases b with rfl|rfl<;>decide
 have e:Ϡ f? n∈ă:=by rcases b with rfl|rfl<;>exact aO.mp (by decide+kernel)
 simp![oh,SK,c,w.cls,aw (hW),w.hJ,K?];exact hG (t:=Ϡ f? n) (by omega) w rfl e rfl q
theorem jI (c:3<=d) (w:WS H ts) (e:ts[k]? = d? t) (q:Q (if iR t.tid=j? then ϊ (OV t.tid) else ϖ) H):aG d 356 [ϊ 2,ϋ k] H Q:=by
 show call_type_of.go c rfl λd c=>?_;simp![aw (w.bB)];show fy (by omega) w.kt e ?_;have a:=yD (w.kt.mem e);show jU w.uG λn b g i=>?_;by_cases f:t.tid=0
 ·rw[f] at q ⊢;simp![];exact q
 ·simp![*,aw (w.bB),aw (w.dq),b];rw[show decide ((t.tid:C?)<=0)=f? from by simp;omega];rcases a with a|a
  ·simp![*,aw (w.dq),b];rw[show decide ((n:C?)<=(t.tid:C?))=f? from by simp;omega];simp![aw (w.rE a), *,aw (w.dq)];exact q
  ·simp![*,aw (w.dq),b];rw[show decide ((n:C?)<=(t.tid:C?))=j? from by simp;omega];rw[a] at q;exact q
def Tm.xB (t:Tm):m?:=if iR t.tid=j? then bD t.tid else 0
theorem Tl (b:4<=d) (w:WS H ts) (v:aM H h ts R) (c:ts[k]? = d? t) (q:Q (ϋ t.xB) H):aG d 498 [ϊ h,ϋ k] H Q:=by
 show kd.go b rfl λd b=>?_;simp![aw (v.iB)];show jI (by omega) w c ?_;unfold Tm.xB at q;by_cases a:iR t.tid=j?
 ·simp only[a] at q ⊢;simp![aw (ez),(w.Po a).sort];exact q
 ·simp only[a] at q ⊢;(try simp only[iY] at q);(simp![aw (iY)])
  exact q
def Tm.nu (t:Tm):D?:=decide (t.sort=2)&&decide (t.xB=3)
theorem q8 (b:5<=d) (w:WS H ts) (v:aM H h ts R) (c:ts[k]? = d? t) (q:Q (ϑ t.nu) H):aG d 421 [ϊ h,ϋ k] H Q:=by
 show sX.go b rfl λd b=>?_;simp![aw (v.bB)];show bk (by omega) w.kt c ?_;unfold Tm.nu at q;by_cases a:t.sort=2
 ·(try simp only[a] at q);(simp![a])
  simp![v.cls,aw (Ui),v.UM,K?];show Tl (by omega) w v c ?_;simp![];rw[show decide ((t.xB:C?)=3)=decide (t.xB=3) from by simp only[decide_eq_decide];omega];exact q
 ·simp![show ¬((t.sort:C?)=2) from by omega];simp only[a] at q;exact q
theorem Ea (b:2<=d) (w:KT H ts) (a:ts[k]? = d? t) (g:t.opens=f?) {x y:V} (q:Q (ϋ k) H):aG d 223 [ϊ 3,ϋ k,x,y] H Q:=by
 show A0.go b rfl λd b=>?_;have i:=w.lt a;have e:=w;obtain⟨c,W⟩:=w;have f:(ts.map λt=>ϋ t.eW)[k]? = d? (ϋ t.eW):=by rw[X!,a];rfl
 simp![e.cP];show gV (by omega) e a λr j=>?_;simp![aw (W.v9),aw (br W.c8 f (by omega)),show t.eW=0 from by simp[Tm.eW,g]];exact q
theorem vJ (a:2<=d) (w:KT H ts) {x y:V} (q:∀H',Nx H ts H' ts->Q (ύ []) H'):aG d 258 [ϊ 3,ύ [],x,y] H Q:=by
 show jA.go a rfl λd a=>?_;simp![cS,ff,bC,cz,K?,acr,iT,nQ,F?,ģ,show 0<aJ from by decide];exact q _ (Nx.app w _)
theorem xy (c:3<=d) (w:KT H ts) (g:ts[k]? = d? t) (f:t.opens=f?) {x y:V} (q:∀H',Nx H ts H' ts->Q (ύ [ϋ k]) H'):aG d 258 [ϊ 3,ύ [ϋ k],x,y] H Q:=by
 show jA.go c rfl λd c=>?_;have a:=Nx.app w [ό []];have e:(H++[ό []])[b? H]? = d? (ό []):=ģ;simp![dt,ff,bC,cz,K?,bq e];show Ea (by omega) a.kt (a.code g) f ?_;simp![aw (aV e (by decide))];have b:((H++[ό []]).set (b? H) (ό ([]++[ϋ k])))[b? H]? = d? (ό [ϋ k]):=by
  rw[B! (by simp)];rfl
 simp![iT,nQ];rw[show(((H++[ό []]).set (b? H) (ό [ϋ (k:C?)]))[b? H]?)=d? (ό [ϋ k]) from b];simp![aJ,show(0+1<10000000)=ŀ from by simp,F?];exact q _ (a.set _ (J? _))
end
theorem dn:∀{ρ:Ă} {i:m?},put v ρ i=ρ.set i (d? v):=by
 intro l;induction l with
 |nil=>
  rintro i;simp[NL,Mx,By]
 |cons o r I=>
  intro y;cases y using aac with
  |zero=>
   exact rfl
  |succ i=>
   simp only[By,Î,I]
theorem jG:∀{ρ:Ă} {i j:m?},i≠j->look (ρ.set j o) i=look ρ i
 |[],i,j=>λh=>rfl
 |x::r,0,0=>λh=>absurd rfl h
 |x::r,0,j+1=>λh=>rfl
 |x::r,i+1,0=>λh=>rfl
 |x::r,i+1,j+1=>λh=>by simp only[Î,Ej,E4,Eo];exact jG (by omega)
theorem rM:∀{ρ:Ă} {i:m?},i<b? ρ->look (put v ρ i) i=d? v:=by
 intro l;induction l with
 |nil=>
  rintro i;exact λh=>by simp at h
 |cons o r I=>
  intro y;cases y using aac with
  |zero=>
   exact λh=>rfl
  |succ i=>
   exact λh=>by simp only[NL,Mx,By,Ej,E4,Eo];exact I (by simpa using h)
theorem cF (a b:g? m?):aN (a++b)=aN a++aN b:=by simp[aN]
theorem EM (a:g? m?):aN a.reverse=(aN a).reverse:=by simp[aN]
theorem aI (a:g? m?):b? (aN a)=b? a:=by simp[aN]
theorem J8 (k:m?) (a:g? m?):aN (k::a)=ϋ (k:C?)::aN a:=rfl
def bE (ks:g? m?):g? (C?×V):=ks.map λ(k:m?)=>((k:C?),ϋ 1)
theorem Mz {ks:g? m?} {j:m?}:((bE ks).any λK=>K.1== (j:C?))=decide (j∈ks):=by
 induction ks with
 |nil=>rfl
 |cons k ks i=>
  simp only[bE,C!,M!] at i ⊢;rw[i];clear i;by_cases h:k=j
  ·subst h;simp
  ·have:((k:C?)== (j:C?))=f?:=by simp;omega
   rw[this,G!];simp[N_ h]
theorem Cj {ks:g? m?} (h:j∉ks):au (j:C?) (ϋ 1) (bE ks)=bE (ks++[j]):=by
 induction ks with
 |nil=>rfl
 |cons k ks i=>
  simp only[G?,abr] at h;simp only[bE,C!,fq,m_] at i ⊢;rw[E? (by omega),i h.2]
theorem LG:b? (bE ks)=b? ks:=by simp[bE]
section
theorem jS {H:Hp} {n j:m?} {ks:g? m?} (h:H[n]? = d? (ώ (bE ks))):uR H (ϋ j) (ϊ n)=d? (decide (j∈ks)):=by
 simp only[uR,dU,h,Mz,eD,Gk,vR,nQ,fO,F?]
theorem bK:bZ E! a b H=(uR H a b).map (!·):=rfl
theorem gU {H:Hp} {ks:g? m?} (b:H[n]? = d? (ώ (bE ks))) (h:j∉ks) (a:b? ks<10000000):cG (ϊ n) (ϋ j) (ϋ 1) H=d? (H.set n (ώ (bE (ks++[j])))):=by
 simp only[cG,b,aJ,LG,a,V!,Cj h,vI,vS,vT,vR,fO,F?]
theorem mY (a:H[n]? = d? (ό (xs++[x]))) (h:b? xs<1000000):zr (ϊ n) H=d? (x,H.set n (ό xs)):=by
 simp only[zr,a,aJ,I?,Z_,show(b? xs)+1<10000000 from by omega,V!,List.getLast?_append,List.getLast?_singleton,List.dropLast_concat,vR,nQ,F?];simp
theorem fw (a:H[n]? = d? (ό xs)) (h:b? xs<10000000):bT H (ϊ n)=d? (!xs.isEmpty):=by
 simp only[bT,a,h,V!,nQ,F?]
theorem aj (a:H[n]? = d? (ό xs)) (h:b? xs<10000000):aH H (ϊ n)=d? xs:=by
 simp only[aH,a,aJ,h,V!,fO,F?]
theorem av (h:H[n]? = d? (ό xs)):ao H (ϊ n)=f?:=by
 simp only[ao,h,fO,F?,Option.isSome_none]
theorem qf (h:b? l<10000000):iT H (ύ l)=d? l:=by simp only[iT,aJ,h,V!]
theorem dh (a:H[n]? = d? (ό xs)) (h:b? xs<10000000):iT H (ϊ n)=d? xs:=by simp only[iT,a,aJ,h,V!,nQ,F?]
theorem zq (a:H[n]? = d? (ό xs)) (h:b? xs<10000000):tV (ϊ n) H=d? (ϊ (b? H),H++[ό xs.reverse]):=by simp only[tV,a,aJ,h,V!,nQ,F?]
theorem wU (h:b? l<10000000):tV (ύ l) H=d? (ύ l.reverse,H):=by simp only[tV,aJ,h,V!]
theorem aC {H:Hp} {X:g? ā} {n:m?} {c:ā} (h:H[n]? = d? c):(H++X)[n]? = d? c:=by
 rw[H? (i?.mp h).1];exact h
theorem aD:(H++[c])[b? H]? = d? c:=ģ
theorem ae {H:Hp} {c c':ā} (h:H[m]? = d? c) (a:n≠m):(H.set n c')[m]? = d? c:=by rw[M? a];exact h
theorem ah {H:Hp} {c c':ā} (h:H[n]? = d? c):(H.set n c')[n]? = d? c':=B! (i?.mp h).1
@[elab_as_elim] theorem hset {P:Hp->Prop} (c:ā) (h:H[n]? = d? b) (a:Nx H0 T H t) (d:b? H0<=n)
  (k:∀K:Hp,K[n]? = d? c->(∀m y,n≠m->H[m]? = d? y->K[m]? = d? y)->Nx H0 T K t->P K):P (H.set n c):=k _ (ah h) (λm y g e=>ae e g) (a.set c d)
theorem jR {chk:Hp->Prop} {P:Fl->Ă->Hp->Prop} (g:a≠b) (l:∀ys,chk (H.set n (ό ys))):∀{xs ys:g? V} {ρ:Ă},look ρ a=d? (ϊ n)->b<b? ρ->H[n]? = d? (ό ys)->b? ys+b? xs<1000000->(∀o,P ϒ (ρ.set b o) (H.set n (ό (ys++xs))))->
  bG (bu Ā d (.expr (.append (Ϙ a) (Ϙ b)))) (d6 Ā d (ϝ b)) chk xs ρ H P:=by
 have k:∀{xs ys:g? V} {ρ:Ă} {H':Hp},H'=H.set n (ό ys)->n<b? H->look ρ a=d? (ϊ n)->b<b? ρ->b? ys+b? xs<1000000->(∀o,P ϒ (ρ.set b o) (H.set n (ό (ys++xs))))->
   bG (bu Ā d (.expr (.append (Ϙ a) (Ϙ b)))) (d6 Ā d (ϝ b)) chk xs ρ H' P:=by
  intro xs;induction xs with
  |nil=>
   intro ys ρ H' e h f i j c;subst e;show⟨l ys,?_⟩;have:=c ρ[b]
   simpa using this
  |cons x xs I=>
   intro ys ρ H' e h f i j c;subst e;have m:(H.set n (ό ys))[n]? = d? (ό ys):=by rw[B! h]
   show⟨l ys,?_⟩;simp only[Q?] at j;simp![dn,jG g,f,bq m,K?];rw[<- dn,rM i];simp![];rw[aV m (by omega)];rw[dn];simp![];show I (ys:=ys++[x]) (by rw[o_]) h (by rw[jG g];exact f) (by simpa using i) (by simp;omega) λo=>?_;have:=c o;rw[o_,ę];exact this
 intro xs ys ρ f i h j c;exact k (ys:=ys) (by rw[cV h]) (i?.mp h).1 f i j c
end
theorem qc:Đ R t=j?↔t∈R.map (λZ=>Z.1):=by
 unfold Đ;rw[ñ,B_];constructor
 ·rintro⟨p,h,e⟩;exact⟨p,h,(Tm.beq_iff _ _).mp e⟩
 ·rintro⟨p,h,e⟩;exact⟨p,h,(Tm.beq_iff _ _).mpr e⟩
theorem HB.Bb {T:g? Tm} {R:Ĉ} {b g:g? (C?×V)} (l:HB T R b g) (a:∀(i j:m?) (t:Tm),T[i]? = d? t->T[j]? = d? t->i=j) {k:m?} {t:Tm} (H:T[k]? = d? t) :
  ∃ks,aL T (aQ R t) ks/\(bx (k:C?) b).getD (ύ [])=ύ (aN ks):=by
 induction l with
 |nil=>exact⟨[],trivial,rfl⟩
 |@cons u f bs R j ks b g c d _ I=>
  simp only[en,eG];by_cases e:u=t
  ·subst e;have:=a _ _ _ c H;clear I H;subst this;rw[P? ((Tm.beq_iff _ _).mpr rfl),P? rfl];exact⟨ks,d,rfl⟩
  ·rw[E? (λh=>e ((Tm.beq_iff _ _).mp h)),E? (λh=>by
    have:j=k:=by omega
    clear I h;subst this;rw[c] at H;cases H<;>exact e rfl)]
   exact I
theorem HB.flag {T:g? Tm} {R:Ĉ} {b g:g? (C?×V)} (c:HB T R b g) (d:∀(i j:m?) (t:Tm),T[i]? = d? t->T[j]? = d? t->i=j) {k:m?} {t:Tm} (a:T[k]? = d? t) :
  (bx (k:C?) g).getD (ϋ 0)=ϋ (bp R t)/\(g.any λK=>K.1== (k:C?))=Đ R t:=by
 induction c with
 |nil=>exact⟨rfl,rfl⟩
 |@cons u f bs R j ks b g l m _ I=>
  simp only[ek,eG,M!,Đ];by_cases e:u=t
  ·subst e;have:=d _ _ _ l a;clear I a;subst this;rw[P? ((Tm.beq_iff _ _).mpr rfl),P? rfl,(Tm.beq_iff u u).mpr rfl];exact⟨rfl,by simp⟩
  ·have H:¬(j:C?)=(k:C?):=λh=>by
    have:j=k:=by omega
    clear I h;subst this;rw[l] at a;cases a<;>exact e rfl
   have c:Tm.beq u t=f?:=by
    cases h:Tm.beq u t using so with
    |false=>rfl
    |true=>exact absurd ((Tm.beq_iff _ _).mp h) e
   rw[c,E? H,E? (show ¬(f?=j?) by decide),G!];rw[show((j:C?)== (k:C?))=f? from by simpa using H,G!];exact I
section
theorem aM.lH {H:Hp} {T:g? Tm} {k:m?} {t:Tm} {h:m?} {R:Ĉ} (v:aM H h T R) (w:KT H T) (j:T[k]? = d? t):∃n ks,aA H "bounds" (ϊ h)=d? (ϊ n)/\ao H (ϊ n)=j?/\jb (ϊ n) (ϋ k) (ύ []) H=d? (ύ (aN ks))/\aL T (aQ R t) ks:=by
 obtain⟨l,m,o,p,q,r,i,u,b,g,d,a,s,f,_⟩:=v.inst;exact bf (f.Bb w.inj j) λks c e=>⟨i,ks,ay d (by kernel_rfl),by simp only[ao,a,fO,F?,Ĕ],by simp only[jb,a,e,vI,vT,fO,F?],c⟩
theorem aM.gC {H:Hp} {T:g? Tm} {k:m?} {t:Tm} {h:m?} {R:Ĉ} (v:aM H h T R) (w:KT H T) (j:T[k]? = d? t):∃n,aA H "gflags" (ϊ h)=d? (ϊ n)/\ao H (ϊ n)=j?/\jb (ϊ n) (ϋ k) (ϋ 0) H=d? (ϋ (bp R t))/\uR H (ϋ k) (ϊ n)=d? (Đ R t):=by
 obtain⟨l,m,o,p,q,r,u,i,b,g,d,s,a,f,_⟩:=v.inst;obtain⟨e,c⟩:=f.flag w.inj j;exact⟨i,ay d (by kernel_rfl),by simp only[ao,a,fO,F?,Ĕ],by simp only[jb,a,e,vI,vT,fO,F?],by simp only[uR,dU,a,c,eD,Gk,vR,nQ,fO,F?]⟩
end
inductive Ą (R:Ĉ) (t:Tm):Tm->Prop
 |one {b:Tm}:b∈aQ R t->Ą R t b
 |more {c b:Tm}:Ą R t c->b∈aQ R c->Ą R t b
theorem lr (h:b∈aQ R t):∃p∈R,p.1=t/\b∈p.2.2/\aQ R t=p.2.2:=by
 induction R with
 |nil=>cases h
 |cons p R i=>
  obtain⟨u,f,bs⟩:=p;simp only[en] at h ⊢;by_cases e:Tm.beq u t=j?
  ·rw[P? e] at h ⊢;exact⟨_,o?,(Tm.beq_iff _ _).mp e,h,rfl⟩
  ·rw[E? e] at h ⊢;exact bf (i h) λp H r=>⟨p,q? _ H,r⟩
theorem bj.XG (o:bj R) (h:b∈aQ R t):b∈cI:=by
 exact Lw (lr h) λp a Z H Z=>o.Bb p a b H
theorem bj.XK (o:bj R) (h:b∈aQ R t):t.isVar=j?:=by
 exact Lw (lr h) λp H e Z Z=>e▸(o.keys p H).1
theorem bj.eK (o:bj R) (t:Tm):b? (aQ R t)<=2:=by
 cases e:aQ R t using aab with
 |nil=>simp
 |cons b r=>
  obtain⟨p,H,_,_,h⟩:=lr (R:=R) (t:=t) (b:=b) (by rw[e];exact o?);rw[<- e,h];exact o.few p H
theorem Ą.lO (o:bj R) (h:Ą R t b):b∈cI:=by
 cases h with
 |one h=>exact o.XG h
 |more _ h=>exact o.XG h
def bX:Ĉ->g? Tm->m?
 |[],_=>0
 |p::r,S=>(if fh p.1 S=j? then 0 else p.2.2.length)+bX r S
theorem D8:fh t (S++[b])=(fh t S||Tm.beq b t):=by simp[fh]
theorem tX:∀{R:Ĉ},bX R (S++[b])<=bX R S
 |[]=>J? _
 |p::r=>by
  have:=tX (S:=S) (b:=b) (R:=r);simp only[bX,D8];cases fh p.1 S<;>cases Tm.beq b p.1<;>simp<;>omega
theorem lD (h:fh b S=f?):∀{R:Ĉ},bX R (S++[b])+b? (aQ R b)<=bX R S:=by
 intro l;induction l with
 |nil=>
  exact J? _
 |cons p r i=>
  obtain⟨u,f,bs⟩:=p;simp only[bX,D8,GI,en];by_cases e:u=b
  ·subst e;have:=tX (S:=S) (b:=u) (R:=r);rw[h,(Tm.beq_iff u u).mpr rfl];simp;omega
  ·have:=i;have a:Tm.beq u b=f?:=by
    cases h:Tm.beq u b using so with
    |false=>rfl
    |true=>exact absurd ((Tm.beq_iff _ _).mp h) e
   have c:Tm.beq b u=f?:=by
    cases h:Tm.beq b u using so with
    |false=>rfl
    |true=>exact absurd ((Tm.beq_iff _ _).mp h).symm e
   rw[a,c,Ő,E? (show ¬(f?=j?) by decide)];omega
theorem fe:∀{R:Ĉ} (_:∀p∈R,p.2.2.length<=2),bX R S<=2 * b? R
 |[]=>λZ=>J? _
 |p::r=>λh=>by
  have a:=h p o?;have:=fe (S:=S) (R:=r) λq H=>h q (q? _ H);simp only[bX,Q?];split<;>omega
theorem cy {l:g? Tm} (h:l.Nodup) (b:∀t∈l,t∈ă):b? l<200:=
 w! (sub_len (λi j t H a=>gR h H a) b) VN
theorem aL.mem:∀{us:g? Tm} {ks:g? m?},aL T us ks->∀{j:m?} {u:Tm},T[j]? = d? u->(∀(i j:m?) (t:Tm),T[i]? = d? t->T[j]? = d? t->i=j)->(j∈ks↔u∈us):=by
 intro l;induction l with
 |nil=>
  intro y;cases y using aab with
  |nil=>
   exact λZ j u Z Z=>by simp
  |cons b s=>
   exact λh Z Z Z Z=>h.elim
 |cons x us a=>
  intro y;cases y using aab with
  |cons k ks=>
   exact λh j u H I=>by
    have:=a h.2 H I;simp only[G?,this];constructor
    ·rintro(rfl|h')
     ·rw[h.1] at H;cases H;exact x? rfl
     ·exact u? h'
    ·rintro(rfl|h')
     ·exact x? (I _ _ _ H h.1)
     ·exact u? h'
  |nil=>
   exact λh Z Z Z Z=>h.elim
theorem aL.app:∀{us vs:g? Tm} {ks js:g? m?},aL t us ks->aL t vs js->aL t (us++vs) (ks++js):=by
 intro l;induction l with
 |nil=>
  intro vs y;cases y using aab with
  |nil=>
   exact λa h=>by rename_i js;exact h
  |cons b s=>
   exact λh z=>by rename_i _;exact h.elim
 |cons x us i=>
  intro vs y;cases y using aab with
  |cons k ks=>
   exact λh h'=>by rename_i js;exact⟨h.1,i h.2 h'⟩
  |nil=>
   exact λh z=>by rename_i _;exact h.elim
theorem aL.rev:∀{us:g? Tm} {ks:g? m?},aL t us ks->aL t us.reverse ks.reverse:=by
 intro l;induction l with
 |nil=>
  intro y;cases y using aab with
  |nil=>
   exact λZ=>trivial
  |cons b s=>
   exact λh=>h.elim
 |cons x us i=>
  intro y;cases y using aab with
  |cons k ks=>
   exact λh=>by
    rw[S_,S_];exact aL.app (i h.2) ⟨h.1,trivial⟩
  |nil=>
   exact λh=>h.elim
theorem aL.snoc (h:aL t us ks) (c:us≠[]):∃a u K k,us=a++[u]/\ks=K++[k]/\aL t a K/\t[k]? = d? u:=by
 have H:=h.rev;cases e:us.reverse using aab with
 |nil=>exact absurd (List.reverse_eq_nil_iff.mp e) c
 |cons u r=>
  rw[e] at H;cases b:ks.reverse using aab with
  |nil=>rw[b] at H;exact H.elim
  |cons k R=>
   rw[b] at H;show⟨r.reverse,u,R.reverse,k,?_,?_,aL.rev H.2,H.1⟩
   ·rw[<- aal us,e,S_]
   ·rw[<- aal ks,b,S_]
theorem aL.get:∀{us:g? Tm} {ks:g? m?},aL t us ks->∀{k:m?},k∈ks->∃u∈us,t[k]? = d? u:=by
 intro l;induction l with
 |nil=>
  intro y;cases y using aab with
  |nil=>
   exact λZ k h=>by cases h
  |cons b s=>
   exact λh Z Z=>h.elim
 |cons x us i=>
  intro y;cases y using aab with
  |cons j ks=>
   exact λh k H=>by
    rcases G?.mp H with rfl| H
    ·exact⟨x,o?,h.1⟩
    ·obtain⟨u,a,e⟩:=i h.2 H;exact⟨u,q? _ a,e⟩
  |nil=>
   exact λh Z Z=>h.elim
section
inductive BK (H:Hp) (ts:g? Tm) (R:Ĉ) (h k:m?) (t:Tm) (n:m?) (ρ:Ă) (Hc:Hp):Prop
 |mk (bs td:g? Tm) (ks tk:g? m?) (o5 o6:p? V) (h1_:n=b? td+bX R (t::bs)) (h2_:ρ=[d? (ϊ h),d? (ϋ k),d? (ϊ (b? H)),d? (ϊ (b? H+1)),d? (ϊ (b? H+3)),o5,o6]) (h3_:Nx H ts Hc ts) (h4_:Hc[b? H]? = d? (ό (aN ks))) (h5_:Hc[b? H+1]? = d? (ώ (bE (k::ks)))) (h6_:Hc[b? H+3]? = d? (ό (aN tk))) (h7_:aL ts bs ks) (h8_:aL ts td tk) (h9_:bs.Nodup) (h10_:t∉bs) (h11_:(∀b∈bs,Ą R t b)) (h12_:(∀b∈td,Ą R t b)) (h13_:(∀c∈t::bs,∀b∈aQ R c,b=t\/b∈bs\/b∈td)) (h14_:n<=20):BK H ts R h k t n ρ Hc
theorem er {d:m?} {H:Hp} {s:g? Tm} {k:m?} {t:Tm} {h:m?} {R:Ĉ} (hd:4<=d) (o:bj R) (w:KT H s) (v:aM H h s R) (ht:s[k]? = d? t)
  (q:∀H' n bs ks,Nx H s H' s->H'[n]? = d? (ό (aN ks))->b? H<=n->aL s bs ks->bs.Nodup->(∀b,b∈bs↔Ą R t b/\b≠t)->Q (ϊ n) H'):aG d 393 [ϊ h,ϋ k] H Q:=by
 show nT.go hd rfl λd hd=>?_;have a1:=Nx.app w [ό []];have a2:Nx H s ((H++[ό []]++[ώ []]).set (b? H+1) (ώ [((k:C?),ϋ 1)])) s:=(a1.trans (Nx.app a1.kt [ώ []])).set _ (by omega);have e0:(H++[ό []]++[ώ []])[b? H+1]? = d? (ώ []):=by
  simpa using this
 show DI ((v.nx a2).lH a2.kt ht) λnb l hb1 hb2 hb3 J=>?_;have hkl:b? l<=2:=by rw[J.len];exact o.eK t
 simp![I?,e0];simp![hb1,hb2,hb3,K?,aw (qf (show(aN l).length<10000000 by rw[aI];omega))];have z:b? ((H++[ό []]++[ώ []]).set (b? H+1) (ώ [((k:C?),ϋ 1)]))=b? H+2:=by simp
 have f0:((H++[ό []]++[ώ []]).set (b? H+1) (ώ [((k:C?),ϋ 1)]))[b? H]? = d? (ό []):=ae (aC aD) (by omega);have f1:((H++[ό []]++[ώ []]).set (b? H+1) (ώ [((k:C?),ϋ 1)]))[b? H+1]? = d? (ώ (bE [k])):=ah e0;generalize ((H++[ό []]++[ώ []]).set (b? H+1) (ώ [((k:C?),ϋ 1)]))=W at *;show bo (zq aD (by rw[aI];omega)) ?_;have a4:Nx H s (W++[ό (aN l)]++[ό (aN l).reverse]) s:=(a2.trans (Nx.app a2.kt _)).trans (Nx.app (Nx.app a2.kt _).kt _);have g0:(W++[ό (aN l)]++[ό (aN l).reverse])[b? H]? = d? (ό []):=aC (aC f0);have g1:(W++[ό (aN l)]++[ό (aN l).reverse])[b? H+1]? = d? (ώ (bE [k])):=aC (aC f1);have g3:(W++[ό (aN l)]++[ό (aN l).reverse])[b? H+3]? = d? (ό (aN l).reverse):=by
  simpa [z] using this
 rw[show(W++[ό (aN l)]).length=b? H+3 from by simp[z]];generalize (W++[ό (aN l)]++[ό (aN l).reverse])=H4 at *;have Y:=o.eK t;have hus:∀S,bX R S<=10:=λS=>by have:=fe (S:=S) o.few;have:=o.short;omega
 show⟨BK H s R h k t,b? (aQ R t)+bX R [t],⟨[],(aQ R t).reverse,[],l.reverse,e?,e?,by simp,rfl,a4,g0,g1,by rw[EM];exact g3,trivial,J.rev,V_,(λe=>nomatch e),(λ_ h=>nomatch h),λb I=>.one (ų.mp I),λc i b I=>?_,?_⟩,?_⟩
 ·rw[B?.mp i] at I;exact u? (u? (ų.mpr I))
 ·have:=hus [t];omega
 rintro n ρ Hc ⟨bs,td,ks,tk,o5,o6,hn,rfl,ac,c0,c1,X,cb,ct,nd,N,rb,rt,cl,hn20⟩;have hbl:b? bs<200:=cy nd λb I=>aZ ((rb b I).lO o);have hkl':=cb.len;have htl:=ct.len;simp![aw (fw X (by rw[aI];omega))];by_cases P:td=[]
 ·subst P;clear X;cases tk using aab with
  |cons _ _=>exact ct.elim
  |nil=>
   show q Hc (b? H) bs ks ac c0 (J? _) cb nd λb=>⟨λI=>⟨rb b I,λe=>N (e▸I)⟩,λ⟨Y,hne⟩=>?_⟩
   have key:∀b,Ą R t b->b=t\/b∈bs:=by
    intro b Y;induction Y with
    |one h=>
     rcases cl t o? _ h with h|h|h
     ·exact x? h
     ·exact u? h
     ·cases h
    |more _ h ih=>
     have i:=ih;clear rt Y hn rb N J q ht htl ct;rcases i with rfl|i
     ·rcases cl _ o? _ h with h|h|h
      ·exact x? h
      ·exact u? h
      ·cases h
     ·rcases cl _ (q? _ i) _ h with h|h|h
      ·exact x? h
      ·exact u? h
      ·cases h
   rcases key b Y with h|h
   ·exact absurd h hne
   ·exact h
 ·show XN (ct.snoc P) λp b T j q_4 q_5 F hj=>?_;subst q_4;subst q_5;rw[cF] at X;have htl':=F.len;simp only[I?,Z_] at hn;have hpos:(!(aN (T++[j])).isEmpty)=j?:=by simp[aN]
  simp![hpos];show bo (mY (x:=ϋ (j:C?)) X (by rw[aI];omega)) ?_;have D:(Hc.set (b? H+3) (ό (aN T)))[b? H+1]? = d? (ώ (bE (k::ks))):=ae c1 (by omega);have c0':(Hc.set (b? H+3) (ό (aN T)))[b? H]? = d? (ό (aN ks)):=ae c0 (by omega);have c3':(Hc.set (b? H+3) (ό (aN T)))[b? H+3]? = d? (ό (aN T)):=ah X;have ac':=ac.set (n:=b? H+3) (ό (aN T)) (by omega);generalize (Hc.set (b? H+3) (ό (aN T)))=Hd at *;simp![oh,jS D];have u:aL s (t::bs) (k::ks):=⟨ht,cb⟩
  have L:=u.mem hj w.inj;have hrb:Ą R t b:=rt b (i! _ o?);clear u P;by_cases hs:j∈k::ks
  ·have g:=L.mp hs;simp![hs];show⟨b? p+bX R (t::bs),by omega,bs,p,ks,T,_,_,rfl,rfl,ac',c0',D,c3',cb,F,nd,N,rb,λx a=>rt x (by simp[a]),λc i x a=>?_,by omega⟩;rcases cl c i x a with h|h|h
   ·exact x? h
   ·exact u? (x? h)
   ·rcases N?.mp h with h|h
    ·exact u? (u? h)
    ·rw[B?.mp h];rcases G?.mp g with h|h
     ·exact x? h
     ·exact u? (x? h)
  ·have g:b∉t::bs:=λh=>hs (L.mpr h);simp only[G?,abr] at g;simp![hs,aw (gU D hs (by simp;omega))];have d0:(Hd.set (b? H+1) (ώ (bE (k::(ks++[j])))))[b? H]? = d? (ό (aN ks)):=ae c0' (by omega);have d1:(Hd.set (b? H+1) (ώ (bE (k::(ks++[j])))))[b? H+1]? = d? (ώ (bE (k::(ks++[j])))):=ah D;have d3:(Hd.set (b? H+1) (ώ (bE (k::(ks++[j])))))[b? H+3]? = d? (ό (aN T)):=ae c3' (by omega);have ad:=ac'.set (n:=b? H+1) (ώ (bE (k::(ks++[j])))) (by omega);generalize (Hd.set (b? H+1) (ώ (bE (k::(ks++[j])))))=He at *;simp![bq d0,aw (aV d0 (v:=ϋ (j:C?)) (by rw[aI];omega)),K?];have f0:(He.set (b? H) (ό (aN ks++[ϋ (j:C?)])))[b? H]? = d? (ό (aN (ks++[j]))):=by rw[cF];exact ah d0
   have f1:(He.set (b? H) (ό (aN ks++[ϋ (j:C?)])))[b? H+1]? = d? (ώ (bE (k::(ks++[j])))):=ae d1 (by omega);have f3:(He.set (b? H) (ό (aN ks++[ϋ (j:C?)])))[b? H+3]? = d? (ό (aN T)):=ae d3 (by omega);have O:=ad.set (n:=b? H) (ό (aN ks++[ϋ (j:C?)])) (by omega);generalize (He.set (b? H) (ό (aN ks++[ϋ (j:C?)])))=C at *;have vf:=v.nx O;show DI (vf.lH O.kt hj) λnj K j1 j2 j3 j4=>?_;have hjl:b? K<=2:=by rw[j4.len];exact o.eK b
   simp![aw (vf.bB)];show bU (by omega) O.kt hj ?_;have nd':(bs++[b]).Nodup:=by
    rw[f_];exact⟨nd,by simp,λx a y hy=>by rw[B?.mp hy];rintro rfl;exact g.2 a⟩
   have hun:fh b (t::bs)=f?:=by
    cases e:fh b (t::bs) using so with
    |false=>rfl
    |true=>
     rcases G?.mp (aO.mp e) with h|h
     ·exact absurd h g.1
     ·exact absurd h g.2
   have f:=lD hun (R:=R);simp only[m_] at f;have clb:∀{B:g? Tm},(∀x∈p,x∈B)->(∀x∈aQ R b,x∈B)->∀c∈t::(bs++[b]),∀x∈aQ R c,x=t\/x∈bs++[b]\/x∈B:=by
    intro B h1 h2 c i x a;have old:∀c∈t::bs,x∈aQ R c->x=t\/x∈bs++[b]\/x∈B:=λc i a=>by
     rcases cl c i x a with h|h|h
     ·exact x? h
     ·exact u? (x? (V? _ h))
     ·rcases N?.mp h with h|h
      ·exact u? (u? (h1 x h))
      ·exact u? (x? (i! _ h))
    clear cl rt Y hn rb N J q ht g;rcases G?.mp i with rfl|i
    ·exact old _ o? a
    ·rcases N?.mp i with i|i
     ·exact old c (q? _ i) a
     ·rw[B?.mp i] at a;exact u? (u? (h2 x a))
   have rb':∀x∈bs++[b],Ą R t x:=λx a=>by
    rcases N?.mp a with h|h
    ·exact rb x h
    ·rw[B?.mp h];exact hrb
   have M:t∉bs++[b]:=by
    simp![N?,B?,abr];exact⟨N,λe=>g.1 e.symm⟩
   have cb':aL s (bs++[b]) (ks++[j]):=cb.app ⟨hj,trivial⟩;cases hv:b.isVar using so with
   |false=>
    have A:aQ R b=[]:=by
     clear htl ct X;cases e:aQ R b using aab with
     |nil=>rfl
     |cons x r=>have:=o.XK (R:=R) (t:=b) (b:=x) (by rw[e];exact o?);rw[hv] at this;cases this
    show⟨b? p+bX R (t::(bs++[b])),by rw[A] at f;simp only[J_] at f;omega,bs++[b],p,ks++[j],T,_,_,rfl,rfl,O,f0,f1,f3,cb',F,nd',M,rb',λx a=>rt x (by simp[a]),clb (λZ h=>h) (by rw[A];simp),by rw[A] at f;simp only[J_] at f;omega⟩
   |true=>
    simp![j1,j2,j3,K?,aw (qf (show(aN K).length<10000000 by rw[aI];omega)),aw (zq aD (show(aN K).length<10000000 by rw[aI];omega))];have p3:(C++[ό (aN K)]++[ό (aN K).reverse])[b? H+3]? = d? (ό (aN T)):=aC (aC f3);have pm:(C++[ό (aN K)]++[ό (aN K).reverse])[b? (C++[ό (aN K)])]? = d? (ό (aN K).reverse):=aD;have p0:(C++[ό (aN K)]++[ό (aN K).reverse])[b? H]? = d? (ό (aN (ks++[j]))):=aC (aC f0);have p1:(C++[ό (aN K)]++[ό (aN K).reverse])[b? H+1]? = d? (ώ (bE (k::(ks++[j])))):=aC (aC f1);have ap:Nx H s (C++[ό (aN K)]++[ό (aN K).reverse]) s:=(O.trans (Nx.app O.kt _)).trans (Nx.app (Nx.app O.kt _).kt _);have hlf:b? H+3<b? (C++[ό (aN K)]):=by
     have:=(i?.mp f3).1;simp;omega
    generalize (b? (C++[ό (aN K)]))=m at *;generalize (C++[ό (aN K)]++[ό (aN K).reverse])=Hp at *;show bo (aj pm (by simp[aI];omega)) ?_;show jR (n:=b? H+3) (by decide) (λys=>⟨aj (ae pm (by omega)) (by simp[aI];omega),by rw[av (ae pm (by omega)),av pm]⟩) rfl (J? _) p3 (by simp only[aI,ġ];omega) λo'=>?_;show⟨b? (p++(aQ R b).reverse)+bX R (t::(bs++[b])),by simp only[I?,ġ];omega,bs++[b],p++(aQ R b).reverse,ks++[j],T++K.reverse,d? (ϋ (j:C?)),o',rfl,rfl,ap.set _ (by omega),ae p0 (by omega),ae p1 (by omega),by rw[cF,EM];exact ah p3,cb',F.app j4.rev,nd',M,rb',λx a=>?_,clb (λZ h=>V? _ h) (λZ h=>i! _ (ų.mpr h)),by simp only[I?,ġ];omega⟩;rcases N?.mp a with h|h
    ·exact rt x (V? _ h)
    ·exact .more hrb (ų.mp h)
end
section
set_option tactic.hygienic true
theorem UD {b:Tm} (h:b.isVal=j?):b.isVar=f?:=by cases b using ϐ<;>first|rfl|cases h
theorem zv {b:Tm} (h:b.isVar=j?):b.isVal=f?:=by cases b using ϐ<;>first|rfl|cases h
theorem jV {f n:m?} {H:Hp} (a:f<100000) (b:n<100000):cY o! (ϋ f) (ϋ n) H=d? (ϋ ((f &&& n:m?):C?),H):=by
 have e:=gJ (x:=(f:C?)) (y:=(n:C?)) ⟨Ķ _,int_lt a rfl,Ķ _,int_lt b rfl⟩;exact fc e
theorem dI {R:Ĉ} (o:bj R) (t:Tm):bp R t<8:=by
 have:∀{R:Ĉ},(∀p∈R,p.2.1<8)->bp R t<8:=by
  intro R;induction R with
  |nil=>intro Z;exact Nat.zero_lt_succ _
  |cons p r i=>
   intro h;obtain⟨u,f,bs⟩:=p;simp only[ek];split
   ·exact h _ o?
   ·exact i λq a=>h q (q? _ a)
 exact this o.flags
theorem gj {R:Ĉ} (o:bj R) {t:Tm} (h:t.isVar=f?):bp R t=0:=by
 have:∀{R:Ĉ},(∀p∈R,p.1.isVar=j?)->bp R t=0:=by
  intro R;induction R with
  |nil=>intro Z;rfl
  |cons p r i=>
   intro h';obtain⟨u,f,bs⟩:=p;simp only[ek];split
   ·rename_i e;rw[(Tm.beq_iff _ _).mp e] at h';have:=h' (t,f,bs) o?;rw[h] at this;cases this
   ·exact i λq b=>h' q (q? _ b)
 exact this λp a=>(o.keys p a).1
section
variable {d:m?} {H:Hp} {ts:g? Tm} {k:m?} {t:Tm} {Q:V->Hp->Prop} {h:m?} {R:Ĉ}
theorem jC {S:MS} {i n:m?} {ρ:Ă} {a:Hp} {us0:g? Tm} {l:g? V} {e:Fl->Ă->Hp->Prop} (s:a[n]? = d? (ό l)) (r:b? l<10000000) (P:Tm->Prop)
  (body:∀(u:Tm) (k:m?) (p:Fl->Ă->Hp->Prop),u∈us0->ts[k]? = d? u->(P u->p (ϣ (ϑ j?)) (ρ.set i (d? (ϋ k))) a)->(¬P u->p ϒ (ρ.set i (d? (ϋ k))) a)->bu Ā d S (ρ.set i (d? (ϋ k))) a p) :
  ∀{us:g? Tm} {ks:g? m?} {o:p? V},(∀u∈us,u∈us0)->aL ts us ks->((∃u∈us,P u)->∀q,e (ϣ (ϑ j?)) q a)->((∀u∈us,¬P u)->∀o,e ϒ (ρ.set i o) a)->
   bG (bu Ā d S) (d6 Ā d (ϝ i)) (λH'=>aH H' (ϊ n)=d? l/\ao H' (ϊ n)=ao a (ϊ n)) (aN ks) (ρ.set i o) a e:=by
 intro L;induction L with
 |nil=>
  intro y;cases y using aab with
  |nil=>
   exact λz D f g=>by rename_i o;exact⟨⟨aj s r,rfl⟩,g (by simp) o⟩
  |cons B C=>
   exact λz c w A=>by rename_i _;exact c.elim
 |cons u us I=>
  intro y;cases y using aab with
  |cons k ks=>
   exact λv c f g=>by
    rename_i o;simp![];show⟨⟨aj s r,rfl⟩,?_⟩;change bu Ā d S (put (ϋ (k:C?)) (ρ.set i o) i) a _;rw[dn,o_];simp![];show body u k _ (v u o?) c.1 (λj=>f ⟨u,o?,j⟩ _) (λj=>?_);exact I (ks:=ks) (o:=d? (ϋ (k:C?))) (λx b=>v x (q? _ b)) c.2 (λ⟨x,b,m⟩=>f ⟨x,q? _ b,m⟩) (λhh=>g λx b=>by
     clear o g f c v;rcases G?.mp b with rfl|b
     ·exact j
     ·exact hh x b)
  |nil=>
   exact λz c w A=>by rename_i _;exact c.elim
def iW (R:Ĉ) (t:Tm):Prop:=∃b,(b=t\/Ą R t b)/\(b.isVal=j?\/bp R b &&& 2≠0)
theorem hA (J:6<=d) (o:bj R) (w:KT H ts) (v:aM H h ts R) (x:ts[k]? = d? t) (N:t.isVar=j?) (q:∀(r:D?) H',(r=j?↔iW R t)->Nx H ts H' ts->Q (ϑ r) H'):aG d 400 [ϊ h,ϋ k] H Q:=by
 show j8.go J rfl λd J=>Lw (v.gC w x) λng O P A E=>?_;have K:=dI o t;simp![O,P,A,K?];rw[show(2:C?)=((2:m?):C?) from rfl,jV (by omega) (by omega),bL];simp![];by_cases y:bp R t &&& 2=0
 ·simp![y,Ī,A!];show er (by omega) o w v x λH' n bs ks a M Z D nd s=>?_;have z:=v.nx a;have S:b? bs<200:=cy nd λb B=>aZ (((s b).mp B).1.lO o);have L:b? (aN ks)<10000000:=by rw[aI,D.len];omega
  show bo (aj M L)<|jC (ρ:=[d? (ϊ h),d? (ϋ k),e?]) (i:=2) (us0:=bs) (o:=e?) M L (λb=>b.isVal=j?\/bp R b &&& 2≠0) ?_ (λZ h=>h) D ?_ ?_
  ·intro b j PP l u F I;show Lw (z.gC a.kt u) λnj X Y j3 j4=>?_;have T:=dI o b;simp![aw (z.bB)];show bU (by omega) a.kt u ?_;cases m:b.isVar using so with
   |true=>
    have g:=zv m;simp![X,Y,j3,K?];rw[show(2:C?)=((2:m?):C?) from rfl,jV (by omega) (by omega),bL];simp![*,Ī];clear s y K E A q N x;by_cases hz:bp R b &&& 2=0
    ·simp![hz,A!];exact I (by rw[g,hz];simp)
    ·simp![show ¬((bp R b &&& 2:m?):C?)=0 from by omega,F!];exact F (u? hz)
   |false=>
    have hz:=gj o m;simp![aw (z.bB)];show dH (by omega) a.kt u ?_;cases p:b.isVal using so with
    |true=>
     simp![aw (z.bB)];show gp (by omega) a.kt u ?_;simp![];exact F (x? p)
    |false=>
     simp![];exact I (by rw[p,hz];simp)
  ·rintro⟨b,l,W⟩ ρ';exact q j? H' ⟨λZ=>⟨b,u? ((s b).mp l).1,W⟩,λZ=>rfl⟩ a
  ·intro C o';show q f? H' ⟨λh=>(by cases h),λ⟨b,c,f⟩=>?_⟩ a;clear K E A q x;by_cases e:b=t
   ·subst e;have g:=zv N;rw[g,y] at f;simp at f
   ·rcases c with rfl|c
    ·exact absurd rfl e
    ·exact absurd f (C b ((s b).mpr ⟨c,e⟩))
 ·simp![Ī,show ¬((bp R t &&& 2:m?):C?)=0 from by omega,F!];exact q j? H ⟨λZ=>⟨t,x? rfl,u? y⟩,λZ=>rfl⟩ (Nx.refl w)
def Tm.um (t:Tm):D?:=t.isRef&&!t.nu&&!decide (t.tid=1\/t.tid=2\/t.tid=3)
theorem J4 {b:Tm} (h:b.isVar=j?):b.um=f?:=by cases b using ϐ<;>first|rfl|cases h
def sE (R:Ĉ) (t:Tm):Prop:=bp R t &&& 1≠0\/∃b,Ą R t b/\b.um=j?
theorem Md {n:m?} {H:Hp}:bZ E! (ϋ n) (ύ [ϋ 1,ϋ 2,ϋ 3]) H=d? (!decide (n=1\/n=2\/n=3)):=by
 change(d? _:p? D?).map _=_;simp only[ĸ,M!,abm,Ed,Ő]
 congr 2
 by_cases a:n=1
 ·subst a;rfl
 ·by_cases b:n=2
  ·subst b;rfl
  ·by_cases c:n=3
   ·subst c;rfl
   ·simp[a,b,c];omega
theorem rZ (f:7<=d) (o:bj R) (w:WS H ts) (v:aM H h ts R) (B:ts[k]? = d? t) (W:t.isVar=j?) (q:∀(r:D?) H',(r=j?↔sE R t)->Nx H ts H' ts->Q (ϑ r) H'):aG d 414 [ϊ h,ϋ k] H Q:=by
 show l5.go f rfl λd f=>Lw (v.gC w.kt B) λng M N E O=>?_;have S:=dI o t;simp![M,N,E,K?];rw[show(1:C?)=((1:m?):C?) from rfl,jV (by omega) (by omega),bL];simp![];by_cases m:bp R t &&& 1=0
 ·simp![m,Ī,A!];show er (by omega) o w.kt v B λH' n bs ks a J Z D X s=>?_;have C:=v.nx a;have Y:=w.nx a;have P:b? bs<200:=cy X λb u=>aZ (((s b).mp u).1.lO o);have I:b? (aN ks)<10000000:=by rw[aI,D.len];omega
  show bo (aj J I)<|jC (ρ:=[d? (ϊ h),d? (ϋ k),e?]) (i:=2) (us0:=bs) (o:=e?) J I (λb=>b.um=j?) ?_ (λZ h=>h) D ?_ ?_
  ·intro b j PP l z p g;simp![aw (C.bB)];show mS (by omega) a.kt z ?_;unfold Tm.um at p g;cases K:b.isRef using so with
   |false=>
    simp![];exact g (by rw[K];simp)
   |true=>
    simp![];show q8 (by omega) Y C z ?_;cases F:b.nu using so with
    |true=>
     simp![];exact g (by rw[F];simp)
    |false=>
     simp![aw (C.bB)];show fy (by omega) a.kt z ?_;simp![aw (Md)];rw[K,F] at p g;cases f:decide (b.tid=1\/b.tid=2\/b.tid=3) using so with
     |true=>
      exact g (by rw[f];simp)
     |false=>
      exact p (by rw[f];rfl)
  ·rintro⟨b,l,T⟩ ρ';exact q j? H' ⟨λZ=>u? ⟨b,((s b).mp l).1,T⟩,λZ=>rfl⟩ a
  ·intro A o';show q f? H' ⟨λh=>(by cases h),λy=>?_⟩ a;rcases y with y| L
   ·exact absurd m y
   ·show bf L λb x c=>?_;try clear L
    clear m S O E q B f;clear f;by_cases e:b=t
    ·subst e;have:=J4 W;rw[this] at c;cases c
    ·exact absurd c (A b ((s b).mpr ⟨x,e⟩))
 ·simp![Ī,show ¬((bp R t &&& 1:m?):C?)=0 from by omega,F!];exact q j? H ⟨λZ=>x? m,λZ=>rfl⟩ (Nx.refl w.kt)
end
end
section
set_option tactic.hygienic true
def fX (s:D?) (tid:m?):p? Tm:=if iR tid=j? then(if s=j? then d? (Ϡ f? 2) else if bD tid=3 then e? else if tid=65 then d? tA else if tid=68 then d? (Ϡ f? 2) else d? (.p 12)) else e?
def d8 (t:Tm):p? Tm:=ϐ t (λn=>if 1<=n/\n<=11 then d? (Ϡ f? 2) else if n=13 then d? (.p 12) else e?) (λZ Z=>e?) (λs tid=>fX s tid) (λs tid Z=>fX s tid) (λZ=>e?) (λZ Z=>e?) (λk Z=>ϙ k (d? (Ϡ f? 5)) (e?) (e?) (e?) (e?))
def iF (t:Tm):p? Tm:=ϐ t (λX=>d8 (.p X)) (λX b=>d8 (.q X b)) (λX b=>d8 (Ϡ X b)) (λX b c=>d8 (ϗ X b c)) (λX=>d8 (.f0 X)) (λX b=>d8 (.f1 X b)) (λk x=>ϙ k (d8 (.u .a x)) (d8 (.u .r x)) (d8 x) (d8 (.u .o x)) (d8 (.u .w x)))
def jE (t:g? Tm) (o:p? Tm) (i:C?):Prop:=match o with
 |Option.none=>i= -1
 |some b=>∃j:m?,t[j]? = d? b/\i=j
def Tm.EY (t:Tm):D?:=ϐ t (λZ=>f?) (λZ Z=>f?) (λZ Z=>f?) (λZ Z Z=>f?) (λZ=>f?) (λZ Z=>f?) (λk Z=>ϙ k (f?) (f?) (j?) (f?) (f?))
section
def Qx (d k:m?) (t:Tm) (H:Hp) (Q:V->Hp->Prop):Prop:=bu Ā d iX [d? (ϊ 2),d? (ϋ k),d? (ϊ 3),d? (ϋ t.sort),e?] H λf x H'=>Q f.val H'
def YK (d k:m?) (t:Tm) (H:Hp) (Q:V->Hp->Prop):Prop:=iR t.tid=f?->d8 t=e?->Qx d k t H Q
def Ym (d k:m?) (t:Tm) (H:Hp) (Q:V->Hp->Prop):Prop:=∀{s:D?} {tid:m?},t.tid=tid->t.sort=(if s=j? then 3 else 2)->d8 t=fX s tid->Qx d k t H Q
theorem Gp {d:m?} {H:Hp} {l:g? Tm} {k:m?} {t:Tm} (I:10<=d) (w:WS H l) (C:l[k]? = d? t) (hv:t.isVar=f?) (Y:t.EY=f?) (q:∀(i:C?) e H',Nx H l H' e->jE e (d8 t) i->Q (ϋ i) H'):aG d 363 [ϊ 2,ϋ k] H Q:=by
 show wm.go I rfl λd I=>?_;simp![aw (w.bB)];rcases w.kt.prim C with⟨hk,rfl⟩| ⟨hk,hp⟩
 ·rw[show decide ((k:C?)<16)=j? from by simp;omega];simp![];show dposE (c:=8) (d:=d) (by omega) λd I=>?_;show mI rfl ?_;by_cases O:1<=k/\k<=11
  ·simp![show decide ((1:C?)<=(k:C?))=j? from by simp;omega,show decide ((k:C?)<=11)=j? from by simp;omega,aw (w.bB)];show fj (n:=2) (by omega) w.kt (x? rfl) λj e H' a A=>q _ e H' a ?_;simp![d8,O,aco,jE];exact⟨j,A,rfl⟩
  ·have m:bu Ā d gZ [d? (ϊ 2),d? (ϋ k)] H λf x H'=>Q f.val H':=by
    simp![gZ];clear Y hv C hk;by_cases v:k=13
    ·subst v;show q 12 l H (Nx.refl w.kt) ?_;obtain⟨R,W⟩:=w.kt;exact⟨12,W.prim 12 (by omega),rfl⟩
    ·simp![show ¬((k:C?)=13) from by omega];show q (-1) l H (Nx.refl w.kt) ?_;simp![d8,O,v,jE]
   clear q Y hv C hk;by_cases h2:1<=k
   ·simp![show decide ((1:C?)<=(k:C?))=j? from by simp;omega,show decide ((k:C?)<=11)=f? from by omega];exact m
   ·simp![show decide ((1:C?)<=(k:C?))=f? from by omega];exact m
 ·rw[show decide ((k:C?)<16)=f? from by simp;omega];simp![];show bk (by omega) w.kt C ?_;have N:YK d k t H Q:=by
   intro h hn;unfold Qx;simp![iX];show jI (by omega) w C ?_;simp![h,aw (iY)];exact q (-1) l H (Nx.refl w.kt) (by rw[hn];exact rfl)
  have g:Ym d k t H Q:=by
   intro s tid P S F;subst P;unfold Qx;by_cases h:iR t.tid=j?
   ·have T:=w.Po h;simp![iX];show jI (by omega) w C ?_;simp![h,aw (ez),S];cases s using so with
    |true=>
     simp![T.sort];have X:¬((bD t.tid:C?)=5):=by unfold bD;split<;>(try split)<;>omega
     simp![X];show fj (n:=2) (by omega) w.kt (x? rfl) λj e H' a A=>q _ e H' a ?_;rw[F];(simp![fX,h,jE])
     exact⟨j,A,rfl⟩
    |false=>
     simp![T.base];clear hk;by_cases r:bD t.tid=3
     ·have B:ux t.tid= -1:=by
       unfold bD at r;unfold ux;split at r
       ·rename_i hh;rw[P? hh]
       ·split at r<;>omega
      rw[B];show q (-1) l H (Nx.refl w.kt) ?_;rw[F];(simp![fX,h,r,jE])
     ·obtain⟨u,j,K,D,L,M⟩:∃(u:Tm) (j:m?),ux t.tid=j/\l[j]? = d? u/\u.opens=f?/\fX f? t.tid=d? u:=by
       obtain⟨R,W⟩:=w.kt;have J:¬(t.tid=66\/t.tid=67\/t.tid=73):=λhh=>r (by unfold bD;rw[P? hh]);unfold ux fX;simp![J,h,r];clear q Y hv C N hp;by_cases z:t.tid=68
       ·simp![z];exact⟨_,16,rfl,w.c16,rfl,rfl⟩
       ·by_cases y:t.tid=65
        ·simp![y];exact⟨_,17,rfl,w.c17,rfl,rfl⟩
        ·simp![y,z];exact⟨_,12,rfl,W.prim 12 (by omega),rfl,rfl⟩
      simp![show decide ((j:C?)<0)=f? from rfl,show ¬((bD t.tid:C?)=3) from by omega,T.base,K,T.sort];show ot (by omega) w.kt C λks Z=>?_;show Ea (by omega) w.kt D L ?_;show q j l H (Nx.refl w.kt) ?_;rw[F,M];exact⟨j,D,rfl⟩
   ·have h:iR t.tid=f?:=by simpa using h
    exact N h (by rw[F];(simp![fX,h]))
  cases t using ϐ with
  |p n=>cases hp
  |q s n=>cases hv
  |n0 s tid=>
   have:=g (s:=s) (tid:=tid) rfl rfl rfl;clear g N hp q Y hv C;cases s using so<;>((try simp only[Tm.sort] at this);(simp![Tm.sort]);exact this)
  |n1 s tid x=>
   have:=g (s:=s) (tid:=tid) rfl rfl rfl;clear g N hp q Y hv C;cases s using so<;>((try simp only[Tm.sort] at this);(simp![Tm.sort]);exact this)
  |f0 o=>have:=N rfl rfl;(try simp only[Tm.sort] at this);(simp![Tm.sort]);exact this
  |f1 o x=>have:=N rfl rfl;(try simp only[Tm.sort] at this);(simp![Tm.sort]);exact this
  |u c x=>
   clear g hp hv C;cases c using ϙ
   case a=>
    simp![];show fj (n:=5) (by omega) w.kt (u? rfl) λj e H' a A=>q _ e H' a ?_;exact⟨j,A,rfl⟩
   case b=>cases Y
   all_goals(have:=N rfl rfl;(try simp only[] at this);(simp![Tm.sort,U.sort]);exact this)
end
end
def Tm.flat (t:Tm):D?:=!t.isVar&&!t.EY
def qw (T:Tm):D?:=ϐ T (λX=>(Tm.p X).flat) (λX b=>(Tm.q X b).flat) (λX b=>(Ϡ X b).flat) (λX b c=>(ϗ X b c).flat) (λX=>(Tm.f0 X).flat) (λX b=>(Tm.f1 X b).flat) (λk x=>ϙ k ((Tm.u .a x).flat) ((Tm.u .r x).flat) (x.flat) ((Tm.u .o x).flat) ((Tm.u .w x).flat))
def rank (t:Tm):m?:=ϐ t (λn=>if n=12 then 0 else if n=13 then 1 else 2) (λZ Z=>0) (λs tid=>bif s then 2 else if tid=5 then 0 else if tid=2\/tid=64 then 1 else 2) (λZ Z Z=>2) (λZ=>0) (λZ Z=>0) (λk Z=>ϙ k 1 0 3 0 0)
theorem jr {t:Tm} (ht:t∈ă) (h:qw t=j?):rank t<4/\∀b,iF t=d? b->qw b=j?/\b∈ă/\rank b<rank t:=by
 have:=bI (P:=λt=>!qw t||(decide (rank t<4)&&match iF t with|some b=>qw b&&fh b ă&&decide (rank b<rank t)| Option.none=>j?)) (by decide+kernel) ht;rw[h] at this;simp only[ŋ,G!,Y?,O!] at this;replace this:=this;show⟨this.1,λb hb=>?_⟩;have h2:=this.2;rw[hb] at h2;simp only[Y?,O!] at h2;exact⟨h2.1.1,aO.mp h2.1.2,h2.2⟩
def ee:m?->Tm->g? Tm
 |0,_=>[]
 |n+1,t=>t::(match iF t with
  |Option.none=>[]
  |some b=>ee n b)
theorem mz:∀{n m:m?} {t:Tm},t∈ă->qw t=j?->rank t<n->rank t<m->ee n t=ee m t
 |0,_=>λz i h p=>by rename_i _;omega
 |_+1,0=>λz i o h=>by rename_i _;omega
 |n+1,m+1=>λg f j l=>by
  rename_i t;simp only[ee];cases e:iF t using aaa with
  |none=>rfl
  |some b=>
   show fP ((jr g f).2 b e) λa B c=>?_;simp only;rw[mz (n:=n) (m:=m) B a (by omega) (by omega)]
def yL:p? Tm->g? Tm
 |Option.none=>[]
 |some c=>ee 6 c
theorem ML {t:Tm} (g:t∈ă) (f:qw t=j?):ee 6 t=t::yL (iF t):=by
 change t::_=_;cases e:iF t using aaa with
 |none=>rfl
 |some b=>
  show fP ((jr g f).2 b e) λa B c=>?_;have:=(jr g f).1;simp only[yL];rw[mz (n:=5) (m:=6) B a (by omega) (by omega)]
section
variable {d:m?} {H:Hp} {ts:g? Tm} {k:m?} {t:Tm} {Q:V->Hp->Prop} {h:m?} {R:Ĉ}
theorem zj (e:12<=d) (w:WS H ts) (v:aM H h ts R) (b:ts[k]? = d? t) (a:t.flat=j?) (q:∀(i:C?) T H',Nx H ts H' T->jE T (d8 t) i->Q (ϋ i) H'):aG d 484 [ϊ h,ϋ k] H Q:=by
 show dposE e λd e=>?_;simp only[Tm.flat,Y?,į] at a;show eY rfl ?_;simp![aw (v.bB)];show bU (by omega) w.kt b ?_;simp![a.1,aw (v.bB)];show bk (by omega) w.kt b ?_;have f:¬((t.sort:C?)=8):=by
  clear b;cases t using ϐ with
  |q s n=>cases s using so<;>simp[Tm.sort]
  |n0 s n=>cases s using so<;>simp[Tm.sort]
  |n1 s n t=>cases s using so<;>simp[Tm.sort]
  |u c x=>cases c using ϙ<;>first|(simp[Tm.sort,U.sort];done)|cases a.2
  |_=>simp[Tm.sort]
 simp![f,aw (v.iB)];exact Gp (by omega) w b a.1 a.2 q
theorem QH (g:15<=d) (w:WS H ts) (v:aM H h ts R) (a:ts[k]? = d? t) (f:qw t=j?) (q:∀(i:C?) T H',Nx H ts H' T->jE T (iF t) i->Q (ϋ i) H'):aG d 484 [ϊ h,ϋ k] H Q:=by
 by_cases b:t.EY=j?
 ·cases t using ϐ with
  |u c x=>
   cases c using ϙ<;>first|(cases b;done)|skip
   show eY.go g rfl λd g=>?_;simp![aw (v.bB)];show bU (by omega) w.kt a ?_;simp![Tm.isVar,aw (v.bB)];show bk (by omega) w.kt a ?_;simp![];show dposE (c:=13) (d:=d) (by omega) λd g=>?_;show pL rfl ?_;simp![aw (v.bB)];show bk (by omega) w.kt a ?_;simp![Tm.sort,U.sort,v.cls,aw (KD),v.K8,K?];show jP (by omega) w.kt a λj m=>?_;exact zj (by omega) w v m f q
  |_=>cases b
 ·have e:t.EY=f?:=by simpa using b
  have E:qw t=t.flat:=by
   clear b q f a;cases t using ϐ with
   |u c x=>cases c using ϙ<;>first|rfl|cases e
   |_=>rfl
  have l:iF t=d8 t:=by
   clear b q f a E;cases t using ϐ with
   |u c x=>cases c using ϙ<;>first|rfl|cases e
   |_=>rfl
  rw[l] at q;exact zj (by omega) w v a (E▸f) q
structure BC (H:Hp) (ts:g? Tm) (h:m?) (t:Tm) (n:m?) (ρ:Ă) (Hc:Hp):Prop where
 ex:∃(tc:g? Tm) (vs:g? Tm) (ks:g? m?) (cur:p? Tm) (i:C?),ρ=[d? (ϊ h),d? (ϋ i),d? (ϊ (b? H)),d? (ϊ (b? H+1))]/\Nx H ts Hc tc/\Hc[b? H]? = d? (ό (aN ks))/\Hc[b? H+1]? = d? (ώ (bE ks))/\
  aL tc vs ks/\jE tc cur i/\ee 6 t=vs++yL cur/\b? vs<100/\(match cur with
   |Option.none=>n=0
   |some c=>n=rank c+1/\qw c=j?/\c∈ă/\(∀x∈vs,rank c<rank x)/\b? vs+n<100)
theorem wj (S:17<=d) (w:WS H ts) (v:aM H h ts R) (Y:ts[k]? = d? t) (X:qw t=j?)
  (q:∀n ks T H',Nx H ts H' T->H'[n]? = d? (ό (aN ks))->b? H<=n->aL T (ee 6 t) ks->b? ks<100->Q (ϊ n) H'):aG d 428 [ϊ h,ϋ k] H Q:=by
 show pE.go S rfl λd S=>?_;have hu:=w.kt.mem Y;have a0:Nx H ts (H++[ό []]++[ώ []]) ts:=(Nx.app w.kt _).trans (Nx.app (Nx.app w.kt _).kt _);have e0:(H++[ό []]++[ώ []])[b? H]? = d? (ό []):=aC aD;have e1:(H++[ό []]++[ώ []])[b? H+1]? = d? (ώ []):=by
  have:=aD (H:=H++[ό []]) (c:=ώ [])
  simpa using this
 simp![];rw[show(H++[ό []]).length=b? H+1 from I?];generalize (H++[ό []]++[ώ []])=H0 at *;have hr4:=(jr hu X).1;show⟨BC H ts h t,rank t+1,⟨ts,[],[],d? t,k,rfl,a0,e0,e1,trivial,⟨k,Y,rfl⟩,rfl,ň _,rfl,X,hu,by simp,by simp;omega⟩,?_⟩;rintro n ρ p ⟨tc,vs,ks,y,i,rfl,s,N,u,C,z,f,I,W⟩;cases y using aaa with
 |none=>
  have hi:i= -1:=z;subst hi;rw[show yL e?=[] from rfl,S!] at f;simp![];exact q _ ks tc p s N (J? _) (f▸C) (by rw[C.len];exact I)
 |some c=>
  show bf z λj F K=>?_;try clear z
  subst K;show X9 W λJ O uc l hl=>?_;try clear W
  subst J;have g:j∉ks:=λE=>by
   have:=(C.mem F s.kt.inj).mp E;have:=l c this;omega
  have hkl:=C.len;simp![show ¬((j:C?)= -1) from by omega,bK,jS u,g,ĸ,aw (gU u g (by omega))];have D:(p.set (b? H+1) (ώ (bE (ks++[j]))))[b? H]? = d? (ό (aN ks)):=ae N (by omega);have d1:(p.set (b? H+1) (ώ (bE (ks++[j]))))[b? H+1]? = d? (ώ (bE (ks++[j]))):=ah u;have ad:=s.set (n:=b? H+1) (ώ (bE (ks++[j]))) (by omega);generalize (p.set (b? H+1) (ώ (bE (ks++[j]))))=r at *;simp![bq D,aw (aV D (v:=ϋ (j:C?)) (by rw[aI];omega)),K?];have f0:(r.set (b? H) (ό (aN ks++[ϋ (j:C?)])))[b? H]? = d? (ό (aN (ks++[j]))):=by rw[cF];exact ah D
  have P:(r.set (b? H) (ό (aN ks++[ϋ (j:C?)])))[b? H+1]? = d? (ώ (bE (ks++[j]))):=ae d1 (by omega);have A:=ad.set (n:=b? H) (ό (aN ks++[ϋ (j:C?)])) (by omega);generalize (r.set (b? H) (ό (aN ks++[ϋ (j:C?)])))=Hf at *;have M:=v.nx A;have wf:=w.nx A;simp![M.cls,aw (KD),M.K8,K?];show QH (by omega) wf M F O λi' L H' a B=>?_;have m:=jr uc O;have hH:b? H+1<b? Hf:=(i?.mp P).1;have h9:=A.base;simp![];show⟨match iF c with| Option.none=>0|some b=>rank b+1,?_,L,vs++[c],ks++[j],iF c,i',rfl,A.trans a,a.keep _ _ (by omega) f0,a.keep _ _ (by omega) P,a.codes (C.app ⟨F,trivial⟩),B,?_,by simp;omega,?_⟩
  ·cases e:iF c using aaa with
   |none=>simp
   |some b=>have:=(m.2 b e).2.2;simp only;omega
  ·rw[f];(simp![yL]);rw[ML uc O,ę];rfl
  ·cases e:iF c using aaa with
   |none=>rfl
   |some b=>
    show fP (m.2 b e) λx1 x2 x3=>⟨rfl,x1,x2,λx o=>?_,by simp;omega⟩;rcases N?.mp o with o|o
    ·have:=l x o;omega
    ·rw[B?.mp o];exact x3
end
structure cE (E:m?->Prop) (H:Hp) (ts:g? Tm) (H':Hp) (ts':g? Tm):Prop where
 keep:∀n c,¬E n->(n<4\/8<n)->H[n]? = d? c->H'[n]? = d? c
 len:b? H<=b? H'
 kt:KT H' ts'
 ext:∃us,ts'=ts++us
 base:9<=b? H
theorem Nx.e (a:Nx H T H' t):cE E H T H' t:=⟨λn c Z h e=>a.keep n c h e,a.len,a.kt,a.ext,a.base⟩
theorem cE.trans (a:cE E H g H' T) (b:cE E H' T d t):cE E H g d t where
 keep:=λn c f h e=>b.keep n c f h (a.keep n c f h e)
 len:=S? a.len b.len
 kt:=b.kt
 ext:=by obtain⟨x,rfl⟩:=a.ext;obtain⟨y,rfl⟩:=b.ext;exact⟨x++y,by simp⟩
 base:=a.base
theorem cE.code {E:m?->Prop} {H H':Hp} {b T:g? Tm} {k:m?} {t:Tm} (a:cE E H b H' T) (h:b[k]? = d? t):T[k]? = d? t:=by
 obtain⟨x,rfl⟩:=a.ext;rw[H? (i?.mp h).1];exact h
theorem aL.up (e:∀(k:m?) (u:Tm),T[k]? = d? u->t[k]? = d? u):∀{us:g? Tm} {ks:g? m?},aL T us ks->aL t us ks:=by
 intro l;induction l with
 |nil=>
  intro y;cases y using aab with
  |nil=>
   exact λh=>h
  |cons b s=>
   exact λh=>h.elim
 |cons a r i=>
  intro y;cases y using aab with
  |cons b s=>
   exact λh=>⟨e _ _ h.1,i h.2⟩
  |nil=>
   exact λh=>h.elim
theorem cE.turn (a:cE E H T H' t) (c:ā) (h:E n) (f:9<=n):cE E H T (H'.set n c) t where
 keep:=λm c' b d e=>by
  rw[M? (by rintro rfl;exact b h)];exact a.keep m c' b d e
 len:=by simpa using a.len
 kt:=a.kt.of λm d=>M? (by omega)
 ext:=a.ext
 base:=a.base
theorem cE.fresh (a:cE E H T H' t) (h:∀n,E n->b? H<=n):Nx H T H' t where
 keep:=λn c f e=>by
  have d:=(i?.mp e).1;exact a.keep n c (λb=>by have:=h n b;omega) f e
 len:=a.len
 kt:=a.kt
 ext:=a.ext
 base:=a.base
theorem WS.KW (w:WS H T) (a:cE E H T H' t) (b:∀n,E n->136<=n):WS H' t where
 kt:=a.kt
 st:=a.keep _ _ (λh=>by have:=b _ h;omega) (by omega) w.st
 ty:=let⟨d,h,l⟩:=w.ty;⟨d,a.keep _ _ (λh=>by have:=b _ h;omega) (by omega) h,l⟩
 me:=let⟨d,h⟩:=w.me;⟨d,a.keep _ _ (λh=>by have:=b _ h;omega) (by omega) h⟩
 stat:=λn c f g e=>a.keep _ _ (λh=>by have:=b _ h;omega) (by omega) (w.stat n c f g e)
 c16:=a.code w.c16
 c17:=a.code w.c17
abbrev pr (k:m?):V:=ύ [ϋ (k:m?),ϋ 17]
def rS (ks:g? m?):g? (V×V):=ks.map λk=>(pr k,ϋ 1)
theorem TG:V.beq (pr i) (pr j)=decide (i=j):=by
 simp only[V.rx,V.CC,V.pJ];by_cases h:i=j
 ·subst h;simp
 ·have:¬((i:C?)=(j:C?)):=by omega
  simp[h,this]
theorem QY:((rS ks).any λK=>V.beq K.1 (pr j))=decide (j∈ks):=by
 induction ks with
 |nil=>rfl
 |cons k ks i=>
  simp only[rS,C!,M!] at i ⊢;rw[i,TG];clear i;by_cases h:k=j
  ·subst h;simp
  ·simp[h,N_ h]
theorem Dy (h:j∉ks):pr j∉(rS ks).map (λZ=>Z.1):=by
 intro H;simp only[rS,abh,B_,aaB] at H;show bf H λk a e=>?_;simp only[V.NK,ω,V.Vg] at e;have:k=j:=by omega
 exact h (this▸a)
theorem xK (h:H[n]? = d? (Ϝ (rS ks))):uR H (pr j) (ϊ n)=d? (decide (j∈ks)):=by
 rw[<- QY];simp only[uR,dU,h,show V.pl 8 (ύ [ϋ (j:C?),ϋ 17])=j? from rfl,V!,eD,Gk,vR,nQ,fO,F?]
structure cH (H:Hp) (b0 b1 b2 b3:m?) (tc Pl Pr:g? Tm):Prop where
 inst:H[b0]? = d? (ϕ 583 [("strict",ϋ 0),("pairs",ϊ b1),("listed",ϊ b2),("proved",ϊ b3)])
 cells:∃pk rk,H[b1]? = d? (ό (pk.map pr))/\H[b2]? = d? (Ϝ (rS pk))/\H[b3]? = d? (Ϝ (rS rk))/\aL tc Pl pk/\aL tc Pr rk
 apart:b0≠b1/\b0≠b2/\b0≠b3/\b1≠b2/\b1≠b3/\b2≠b3
 high:136<=b0/\136<=b1/\136<=b2/\136<=b3
 lnd:Pl.Nodup
 rnd:Pr.Nodup
 luni:∀t∈Pl,t∈ă
 runi:∀t∈Pr,t∈ă
def EB (b B a:m?) (n:m?):Prop:=n=b\/n=B\/n=a
theorem cH.nx {H H':Hp} {B c d e:m?} {T t P p:g? Tm} (b:cH H B c d e T P p) (a:Nx H T H' t):cH H' B c d e t P p:=by
 show Mk b.cells λk r h f g i j=>?_;have hh:=b.high;exact⟨a.keep _ _ (by omega) b.inst,⟨k,r,a.keep _ _ (by omega) h,a.keep _ _ (by omega) f,a.keep _ _ (by omega) g,a.codes i,a.codes j⟩,b.apart,b.high,b.lnd,b.rnd,b.luni,b.runi⟩
section
theorem cH.bS {H:Hp} {t:g? Tm} {B:m?} {a:m?} {c:m?} {d:m?} {P:g? Tm} {p:g? Tm} (b:cH H B a c d t P p):aA H "pairs" (ϊ B)=d? (ϊ a):=ay b.inst (by kernel_rfl)
theorem cH.yO {H:Hp} {t:g? Tm} {B:m?} {c:m?} {a:m?} {d:m?} {P:g? Tm} {p:g? Tm} (b:cH H B c a d t P p):aA H "listed" (ϊ B)=d? (ϊ a):=ay b.inst (by kernel_rfl)
theorem cH.bY {H:Hp} {t:g? Tm} {B:m?} {c:m?} {d:m?} {a:m?} {P:g? Tm} {p:g? Tm} (b:cH H B c d a t P p):aA H "proved" (ϊ B)=d? (ϊ a):=ay b.inst (by kernel_rfl)
theorem iM {d:m?} {H:Hp} {t:g? Tm} {j:m?} {s:Tm} {h:m?} {R:Ĉ} {D:m?} {l:m?} {m:m?} {F:m?} {u:g? Tm} {J:g? Tm} (hd:4<=d) (w:WS H t) (v:aM H h t R) (f:t[j]? = d? s) (B:cH H D l m F t u J)
  (q:∀(r:D?) (g:g? Tm) (H':Hp),(r=j?↔s=tA\/(s.isRef=j?/\(s= .p 14\/s∈J)))->cE (EB l m F) H t H' t->cH H' D l m F t g J->(g=u\/g=u++[s])->(s.isRef=j?->s≠tA->s≠.p 14->s∈g)->(s∈g->s∉u->s.isRef=j?/\s≠tA)->Q (ϑ r) H') :
  aG d 629 [ϊ h,ϋ j,ϋ 17,ϊ D] H Q:=by
 show lJ.go hd rfl λd hd=>?_;have S:∀(r:D?),(r=j?↔s=tA\/(s.isRef=j?/\(s= .p 14\/s∈J)))->(s.isRef=j?->s≠tA->s≠.p 14->s∈u)->Q (ϑ r) H:=λr h1 h2=>q r u H h1 (Nx.refl w.kt).e B (x? rfl) h2 (λa b=>absurd a b);simp![];by_cases z:s=tA
 ·subst z;have:j=17:=w.kt.inj _ _ _ f w.c17;clear q f;subst this;exact S j? ⟨λZ=>x? rfl,λZ=>rfl⟩ (λZ h=>absurd rfl h)
 ·have hj:j≠17:=λe=>by subst e;rw[w.c17] at f;cases f;exact z rfl
  simp![show ¬((j:C?)=17) from by omega,aw (v.bB)];show mS (by omega) w.kt f ?_;cases C:s.isRef using so with
  |false=>
   simp![];exact S f? (by rw[C];simp[z]) (by rw[C];simp)
  |true=>
   simp![];show mS (k:=17) (by omega) w.kt w.c17 ?_;simp![Tm.isRef];by_cases o:s= .p 14
   ·subst o;have:j=14:=by
     rcases w.kt.prim f with⟨_,e⟩| ⟨_,e⟩
     ·cases e;rfl
     ·cases e
    clear q f z C;subst this;exact S j? ⟨λZ=>u? ⟨rfl,x? rfl⟩,λZ=>rfl⟩ (λZ Z h=>absurd rfl h)
   ·have hj14:j≠14:=λe=>by
     clear S q z C;subst e;rcases w.kt.prim f with⟨_,e⟩| ⟨e,_⟩
     ·exact o e
     ·omega
    simp![show ¬((j:C?)=14) from by omega];show bk (k:=17) (by omega) w.kt w.c17 ?_;show Mk B.cells λP rk p1 Y p3 p4 p5=>?_;have hpl:b? P<200:=by rw[p4.len];exact cy B.lnd B.luni
    simp![Tm.sort,aw (B.yO),bK];rw[xK Y,ĸ,bL];have A:=p4.mem f w.kt.inj;have I:=p5.mem f w.kt.inj;by_cases i:j∈P
    ·simp![i,aw (B.bY)];show bo (xK (j:=j) p3)<|S _ ?_ (λZ Z Z=>A.mp i);rw[O!,I];constructor
     ·intro h;exact u? ⟨C,u? h⟩
     ·rintro(h| ⟨_,h|h⟩)
      ·exact absurd h z
      ·exact absurd h o
      ·exact h
    ·have T:s∉u:=λh=>i (A.mpr h);simp![i,aw (B.bS)];show bo (len_list p1 (by simp;omega)) ?_;simp![show decide ((b? (P.map pr):C?)<512)=j? from by simp;omega,aw (B.yO)];have c:=B.apart;have O:=B.high;show bo (sR (x:=pr j) Y rfl ⟨_,rfl⟩ (by simp[rS];omega) (Dy i)) ?_;have e2:(H.set m (Ϝ (rS P++[(pr j,ϋ 1)])))[m]? = d? (Ϝ (rS (P++[j]))):=by rw[ah Y];simp[rS]
     have N:=ae (c':=Ϝ (rS P++[(pr j,ϋ 1)])) p1 (N_ c.2.2.2.1);have e3:=ae (c':=Ϝ (rS P++[(pr j,ϋ 1)])) p3 c.2.2.2.2.2;have e0:=ae (c':=Ϝ (rS P++[(pr j,ϋ 1)])) B.inst (N_ c.2.1);have a1:cE (EB l m F) H t (H.set m (Ϝ (rS P++[(pr j,ϋ 1)]))) t:=(Nx.refl w.kt).e.turn _ (u? (x? rfl)) (by omega);generalize (H.set m (Ϝ (rS P++[(pr j,ϋ 1)])))=K at *;have L:aA K "pairs" (ϊ D)=d? (ϊ l):=ay e0 (by kernel_rfl);have M:∀{X:Hp},X[D]? = d? (ϕ 583 [("strict",ϋ 0),("pairs",ϊ l),("listed",ϊ m),("proved",ϊ F)])->aA X "proved" (ϊ D)=d? (ϊ F):=λe=>ay e (by kernel_rfl);simp![L,bq N,K?];show bo (aV (v:=pr j) N (by simp;omega)) ?_;have f1:(K.set l (ό (P.map pr++[pr j])))[l]? = d? (ό ((P++[j]).map pr)):=by rw[ah N];simp
     have f2:=ae (c':=ό (P.map pr++[pr j])) e2 c.2.2.2.1;have f3:=ae (c':=ό (P.map pr++[pr j])) e3 c.2.2.2.2.1;have f0:=ae (c':=ό (P.map pr++[pr j])) e0 (N_ c.1);have a2:=a1.turn (n:=l) (ό (P.map pr++[pr j])) (x? rfl) (by omega);generalize (K.set l (ό (P.map pr++[pr j])))=H2 at *;simp![M f0];show bo (xK (j:=j) f3)<|q _ (u++[s]) H2 ?_ a2 ⟨f0,⟨P++[j],rk,f1,f2,f3,p4.app ⟨f,trivial⟩,p5⟩,c,O,?_,B.rnd,?_,B.runi⟩ (u? rfl) (λZ Z Z=>by simp) (λZ Z=>⟨C,z⟩)
     ·rw[O!,I];constructor
      ·intro h;exact u? ⟨C,u? h⟩
      ·rintro(h| ⟨_,h|h⟩)
       ·exact absurd h z
       ·exact absurd h o
       ·exact h
     ·rw[f_];exact⟨B.lnd,by simp,λx W y hy=>by rw[B?.mp hy];rintro rfl;exact T W⟩
     ·intro x W;rcases N?.mp W with h|h
      ·exact B.luni x h
      ·rw[B?.mp h];exact w.kt.mem f
theorem vw {d:m?} {H:Hp} {T:g? Tm} {j:m?} {s:Tm} {h:m?} {R:Ĉ} (g:4<=d) (w:WS H T) (v:aM H h T R) (a:T[j]? = d? s) (q:∀r:D?,(r=j?↔s=tA)->Q (ϑ r) H):aG d 650 [ϊ h,ϋ j,ϋ 17,x] H Q:=by
 show pg.go g rfl λd g=>?_;by_cases b:s=tA
 ·subst b;have:j=17:=w.kt.inj _ _ _ a w.c17;subst this;simp![];exact q j? (by simp)
 ·have l:j≠17:=λe=>by subst e;rw[w.c17] at a;cases a;exact b rfl
  have f:Q (ϑ f?) H:=q f? (by simp[b]);simp![show ¬((j:C?)=17) from by omega,aw (v.bB)];show bk (by omega) w.kt a ?_;by_cases c:(s.sort:C?)=2
  ·simp![c];show bk (k:=17) (by omega) w.kt w.c17 ?_;simp![Tm.sort];show fy (by omega) w.kt a ?_;simp![];show fy (k:=17) (by omega) w.kt w.c17 ?_;have i:s.tid≠64:=by
    have:=bI (P:=λt=>Tm.beq t tA||!(decide (t.sort=2)&&decide (t.tid=64))) (by decide+kernel) (w.kt.mem a);intro e;rw[show decide (s.sort=2)=j? from by simp;omega,e] at this;rw[show Tm.beq s tA=f? from by
     cases h:Tm.beq s tA using so with
     |false=>rfl
     |true=>exact absurd ((Tm.beq_iff _ _).mp h) b] at this
    cases this
   simp![show(Ϡ f? 64).tid=64 from rfl,show ¬((s.tid:C?)=(64:C?)) from by omega];exact f
  ·simp![c];exact f
end
def cW (b:Tm):Tm:=if b.isVal=j? then .u .b b else b
def PW (P:g? Tm) (b:Tm):Prop:=b.isVar=f?/\(cW b=tA\/((cW b).isRef=j?/\(cW b= .p 14\/cW b∈P)))
def Ask (s:Tm):Prop:=qw s=j?\/∃x,s= .u .b x/\x.isVar=j?
def Pf (R:Ĉ) (P:g? Tm) (s:Tm):Prop:=(∃x,s= .u .b x/\x.isVar=j?/\∃b,Ą R x b/\PW P b)\/(qw s=j?/\tA∈ee 6 s)
theorem YG (h:b∈cI) (H:b.isVal=j?):Tm.u .b b∈ă:=by
 have:cI.all (λb=>!b.isVal||fh (.u .b b) ă)=j?:=by decide+kernel
 have:=L?.mp this b h;rw[H] at this;exact aO.mp (this)
theorem Xh (h:b∈cI) (a:b.isVar=f?) (H:(cW b).isRef=j?):qw (cW b)=j?:=by
 have:cI.all (λb=>b.isVar||!(cW b).isRef||qw (cW b))=j?:=by decide+kernel
 have:=L?.mp this b h;rw[a,H] at this
 simpa using this
theorem Pn {d b a c:m?} {H:Hp} {t P p:g? Tm} (B:cH H d b a c t P p):∀n,EB b a c n->136<=n:=by
 have:=B.high;rintro n (h|h|h)<;>omega
theorem aM.KW (w:aM H h T R) (a:cE E H T H' t) (y:∀n,E n->∀c d:m?,aA H "bounds" (ϊ h)=d? (ϊ c)->aA H "gflags" (ϊ h)=d? (ϊ d)->n≠h/\n≠c/\n≠d):aM H' h t R where
 big:=w.big
 inst:=by
  obtain⟨i,j,l,m,o,p,c,d,b,g,e,q,r,s,v,x⟩:=w.inst;have:=w.big;have f:∀n,E n->n≠h/\n≠c/\n≠d:=λn z=>y n z c d (ay e (by kernel_rfl)) (ay e (by kernel_rfl));exact⟨i,j,l,m,o,p,c,d,b,g,a.keep _ _ (λh'=>(f _ h').1 rfl) (by omega) e,a.keep _ _ (λh'=>(f _ h').2.1 rfl) (by omega) q,a.keep _ _ (λh'=>(f _ h').2.2 rfl) (by omega) r,s.mono (λk u=>a.code),v,x⟩
structure jX (H:Hp) (h L:m?):Prop where
 low:h<L
 lows:∀hb hg:m?,aA H "bounds" (ϊ h)=d? (ϊ hb)->aA H "gflags" (ϊ h)=d? (ϊ hg)->hb<L/\hg<L
theorem aM.w7 (w:aM H h t R):jX H h (b? H):=by
 obtain⟨k,l,m,n,o,p,e,i,b,g,a,c,d,_⟩:=w.inst;show⟨(i?.mp a).1,λf j a1 a2=>?_⟩;have a3:aA H "bounds" (ϊ h)=d? (ϊ e):=ay a (by kernel_rfl);have a4:aA H "gflags" (ϊ h)=d? (ϊ i):=ay a (by kernel_rfl);rw[a3] at a1;rw[a4] at a2;cases a1;cases a2;exact⟨(i?.mp c).1,(i?.mp d).1⟩
section
structure QW (L:m?) (H:Hp) (ts:g? Tm) (h:m?) (R:Ĉ) (b0 b1 b2 b3:m?) (Pl Pr:g? Tm):Prop where
 w:WS H ts
 v:aM H h ts R
 B:cH H b0 b1 b2 b3 ts Pl Pr
 low:jX H h L
 above:L<=b0/\L<=b1/\L<=b2/\L<=b3
theorem jX.keep (l:jX H h L) (v:aM H h t R) (a:cE E H t H' T) (k:∀n,E n->L<=n):jX H' h L:=by
 obtain⟨o,p,q,r,s,u,e,i,b,g,d,w,y,_⟩:=v.inst;have a3:aA H "bounds" (ϊ h)=d? (ϊ e):=ay d (by kernel_rfl);have a4:aA H "gflags" (ϊ h)=d? (ϊ i):=ay d (by kernel_rfl);have f:=v.big;have c:=a.keep _ _ (λh'=>by have:=k _ h';have:=l.low;omega) (by omega) d;show⟨l.low,λj m x X=>?_⟩;have a5:aA H' "bounds" (ϊ h)=d? (ϊ e):=ay c (by kernel_rfl);have A:aA H' "gflags" (ϊ h)=d? (ϊ i):=ay c (by kernel_rfl);rw[a5] at x;rw[A] at X;cases x;cases X;exact l.lows _ _ a3 a4
theorem QW.step {H:Hp} {T:g? Tm} {h:m?} {R:Ĉ} {f:m?} {c:m?} {d:m?} {e:m?} {i:g? Tm} {j:g? Tm} (x:QW L H T h R f c d e i j) (a:cE (EB c d e) H T H' t) (B:cH H' f c d e t P p):QW L H' t h R f c d e P p:=by
 have g:∀n,EB c d e n->L<=n:=by have:=x.above;rintro n (h|h|h)<;>omega
 show⟨x.w.KW a (Pn x.B),x.v.KW a (λn q m o k l=>?_),B,x.low.keep x.v a g,x.above⟩;have a:=g n q;have b:=x.low.lows m o k l;exact⟨vZ a x.low.low,vZ a b.1,vZ a b.2⟩
theorem QW.nx {H:Hp} {T:g? Tm} {h:m?} {R:Ĉ} {b:m?} {c:m?} {d:m?} {f:m?} {P:g? Tm} {p:g? Tm} (x:QW L H T h R b c d f P p) (a:Nx H T H' t):QW L H' t h R b c d f P p:=x.step a.e (x.B.nx a)
theorem qO {d:m?} {H:Hp} {ts:g? Tm} {k:m?} {h:m?} {R:Ĉ} {z:m?} {C:m?} {D:m?} {F:m?} {N:g? Tm} {P:g? Tm} (hd:10<=d) (o:bj R) (X:QW L H ts h R z C D F N P) (hx:ts[k]? = d? x) (hv:x.isVar=j?)
  (q:∀u t H' m,(u=j?↔∃b,Ą R x b/\PW P b)->cE (EB C D F) H ts H' t->cH H' z C D F t (N++m) P->(∀y∈m,qw y=j?)->(u=f?->∀b,Ą R x b->b.isVar=f?->(cW b).isRef=j?->cW b≠tA->cW b≠.p 14->cW b∈N++m)->Q (ϑ u) H') :
  aG d 643 [ϊ h,ϋ k,ϋ 17,ϊ z] H Q:=by
 show nr.go hd rfl λd hd=>?_;simp![aw (X.v.bB)];show fj (by omega) X.w.kt (x? rfl) λj ts1 H1 a1 hj=>?_;have X1:=X.nx a1;have:j=16:=a1.kt.inj _ _ _ hj X1.w.c16;subst this;simp![];show er (by omega) o X1.w.kt X1.v (a1.code hx) λH2 n bs ks a2 hn hnl cb nd hb=>?_;have X2:=X1.nx a2;have hbl:=cy nd λb hb'=>aZ (((hb b).mp hb').1.lO o);have hl:b? (aN ks)<10000000:=by rw[aI,cb.len];omega
 show bo (aj hn hl) ?_;have hbb:∀b∈bs,Ą R x b:=λb hb'=>((hb b).mp hb').1;have hn136:136<=n:=by
  have:=X1.v.w7.low;have:=X1.v.big;omega
 have hnE:¬EB C D F n:=by
  show DI X1.B.cells λpk rk p1 p2 p3 Z=>?_;have l1:=(i?.mp p1).1;have l2:=(i?.mp p2).1;have l3:=(i?.mp p3).1;rintro(e|e|e)<;>omega
 have loop:∀{us:g? Tm} {js:g? m?} {J:Hp} {Y m:g? Tm} {O o5:p? V} {S:Fl->Ă->Hp->Prop},(∀b∈us,b∈bs)->cE (EB C D F) H ts J Y->QW L J Y h R z C D F (N++m) P->J[n]? = d? (ό (aN ks))->aL Y us js->(∀y∈m,qw y=j?)->
   ((∃b∈us,PW P b)->∀ρ H' t M,cE (EB C D F) H ts H' t->cH H' z C D F t (N++M) P->(∀y∈M,qw y=j?)->S (ϣ (ϑ j?)) ρ H')->
   ((∀b∈us,¬PW P b)->∀O o5 H' t M,cE (EB C D F) H ts H' t->cH H' z C D F t (N++M) P->(∀y∈M,qw y=j?)->(∀y∈m,y∈M)->(∀b∈us,b.isVar=f?->(cW b).isRef=j?->cW b≠tA->cW b≠.p 14->cW b∈N++M)->S ϒ [d? (ϊ h),d? (ϋ k),d? (ϋ 17),d? (ϊ z),O,o5] H')->
   bG (bu Ā d dk) (d6 Ā d (ϝ 4)) (λH'=>aH H' (ϊ n)=d? (aN ks)/\ao H' (ϊ n)=ao H2 (ϊ n)) (aN js) [d? (ϊ h),d? (ϋ k),d? (ϋ 17),d? (ϊ z),O,o5] J S:=by
  intro us;induction us with
  |nil=>
   intro js J Y m O o5 S hs a X r I hm h1 h2;cases js using aab with
   |cons _ _=>exact I.elim
   |nil=>exact⟨⟨aj r hl,by rw[av r,av hn]⟩,h2 (by simp) O o5 J Y m a X.B hm (λZ h=>h) (by simp)⟩
  |cons b us ih=>
   intro js J Y m O o5 S hs a X r I hm h1 h2;cases js using aab with
   |nil=>exact I.elim
   |cons j js=>
    show⟨⟨aj r hl,by rw[av r,av hn]⟩,?_⟩;have hbu:=(hbb b (hs b o?)).lO o;have W:∀{g:Hp} {T:g? Tm} {o5':p? V},¬PW P b->(b.isVar=f?->(cW b).isRef=j?->cW b≠tA->cW b≠.p 14->a_)->Nx J Y g T->bG (bu Ā d dk) (d6 Ā d (ϝ 4)) (λH'=>aH H' (ϊ n)=d? (aN ks)/\ao H' (ϊ n)=ao H2 (ϊ n)) (aN js) [d? (ϊ h),d? (ϋ k),d? (ϋ 17),d? (ϊ z),d? (ϋ (j:C?)),o5'] g S:=by
     intro g T o5' hno hno2 A;show ih (λy c=>hs y (q? _ c)) (a.trans A.e) (X.nx A) (A.keep _ _ (by omega) r) (A.codes I.2) hm (λ⟨y,c,p⟩=>h1 ⟨y,q? _ c,p⟩) (λl O o5 H' t M x1 x2 x3 x4 x5=>h2 (λy c=>?_) O o5 H' t M x1 x2 x3 x4 (λy c e1 e2 e3 e4=>?_))
     ·rcases G?.mp c with rfl|c
      ·exact hno
      ·exact l y c
     ·rcases G?.mp c with rfl|c
      ·exact(hno2 e1 e2 e3 e4).elim
      ·exact x5 y c e1 e2 e3 e4
    have ask:∀{g:Hp} {T:g? Tm} {i:m?} {K:KE},b.isVar=f?->Nx J Y g T->T[i]? = d? (cW b)->(∀H,S (ϣ (ϑ j?)) [d? (ϊ h),d? (ϋ k),d? (ϋ 17),d? (ϊ z),d? (ϋ (j:C?)),d? (ϋ (i:C?))] H->K (ϑ j?) H)->(∀H,bG (bu Ā d dk) (d6 Ā d (ϝ 4)) (λH'=>aH H' (ϊ n)=d? (aN ks)/\ao H' (ϊ n)=ao H2 (ϊ n)) (aN js) [d? (ϊ h),d? (ϋ k),d? (ϋ 17),d? (ϊ z),d? (ϋ (j:C?)),d? (ϋ (i:C?))] H S->K (ϑ f?) H)->aG d 629 [ϊ h,ϋ i,ϋ 17,ϊ z] g K:=by
     intro g T i K f A hi kt kf;have X':=X.nx A;show iM (by omega) X'.w X'.v hi X'.B λu Pl' H3 r1 r2 r3 r4 r5 r6=>?_;have X3:=X'.step r2 r3;have hpw:u=j?↔PW P b:=by rw[r1];unfold PW;simp[f]
     obtain⟨M,hm',hmm,hok⟩:∃M,Pl'=N++M/\(∀y∈m,y∈M)/\∀y∈M,qw y=j?:=by
      rcases r4 with e|e
      ·exact⟨m,e,λZ h=>h,hm⟩
      ·by_cases hin:cW b∈N++m
       ·exfalso;have:=r3.lnd;rw[e,f_] at this;exact this.2.2 _ hin _ (B?.mpr rfl) rfl
       ·show⟨m++[cW b],by rw[e,ę],λy c=>V? _ c,λy c=>?_⟩;rcases N?.mp c with c|c
        ·exact hm y c
        ·rw[B?.mp c];exact Xh hbu f (r6 (by rw[e];simp) hin).1
     clear hbu r6 r4 hi f W;subst hm';clear r1;cases u using so with
     |true=>exact kt _ (h1 ⟨b,o?,hpw.mp rfl⟩ _ H3 T M ((a.trans A.e).trans r2) r3 hok)
     |false=>
      show kf _<|ih (λy c=>hs y (q? _ c)) ((a.trans A.e).trans r2) X3 (r2.keep _ _ hnE (by omega) (A.keep _ _ (by omega) r)) (aL.up (λZ Z=>r2.code) (A.codes I.2)) hok (λ⟨y,c,p⟩=>h1 ⟨y,q? _ c,p⟩) (λl O o5 H' t m'' x1 x2 x3 x4 x5=>h2 (λy c=>?_) O o5 H' t m'' x1 x2 x3 (λy c=>x4 y (hmm y c)) (λy c e1 e2 e3 e4=>?_))
      ·rcases G?.mp c with rfl|c
       ·exact λp=>by have:=hpw.mpr p;cases this
       ·exact l y c
      ·rcases G?.mp c with rfl|c
       ·rcases N?.mp (r5 e2 e3 e4) with h|h
        ·exact V? _ h
        ·exact i! _ (x4 _ h)
       ·exact x5 y c e1 e2 e3 e4
    simp![aw (X.v.bB)];show dH (by omega) X.w.kt I.1 ?_;cases s:b.isVal using so with
    |true=>
     have f:=UD s;simp![aw (X.v.bB)];show hY (by omega) X.w.kt I.1 (YG hbu s) λi T g A hi=>?_;have X':=X.nx A;simp![aw (X'.v.bB)];show bU (by omega) X'.w.kt (A.code I.1) ?_;simp![f];show ask f A (by rw[cW,P? s];exact hi) (λH p=>?_) (λH p=>?_)<;>((simp![]);exact p)
    |false=>
     simp![aw (X.v.bB)];show bU (by omega) X.w.kt I.1 ?_;cases f:b.isVar using so with
     |true=>
      simp![];exact W (λp=>by have:=p.1;rw[f] at this;cases this) (λe=>by rw[f] at e;cases e) (Nx.refl X.w.kt)
     |false=>
      simp![];show ask f (Nx.refl X.w.kt) (by rw[cW,s];exact I.1) (λH p=>?_) (λH p=>?_)<;>((simp![]);exact p)
 show loop (λZ h=>h) (a1.trans a2).e (by rw[S!];exact X2) hn cb (by simp) ?_ ?_
 ·rintro⟨b,hbm,p⟩ ρ H' t M x1 x2 x3;exact q j? t H' M ⟨λZ=>⟨b,hbb b hbm,p⟩,λZ=>rfl⟩ x1 x2 x3 (by simp)
 ·intro l O o5 H' t M x1 x2 x3 Z x5;have nex:∀b,Ą R x b->b.isVar=f?->b∈bs:=λb hr f=>(hb b).mpr ⟨hr,by rintro rfl;rw[hv] at f;cases f⟩;exact q f? t H' M ⟨λh=>(by cases h),λ⟨b,hr,p⟩=>absurd p (l b (nex b hr p.1))⟩ x1 x2 x3 (λZ b hr e1 e2 e3 e4=>x5 b (nex b hr e1) e1 e2 e3 e4)
end
section
set_option tactic.hygienic true
section
variable {d:m?} {H:Hp} {ts:g? Tm} {k j:m?} {s:Tm} {Q:V->Hp->Prop} {h:m?} {R:Ĉ} {b0 b1 b2 b3:m?} {Pl Pr:g? Tm}
def xO (R:Ĉ) (h f B c e:m?) (H:Hp) (T P a:g? Tm) (s:Tm) (Q:V->Hp->Prop):Prop:=
 ∀(r:D?) t H' m,(r=j?↔Pf R a s)->cE (EB B c e) H T H' t->cH H' f B c e t (P++m) a->(∀y∈m,qw y=j?)->
  (r=f?->∀x b,s= .u .b x->x.isVar=j?->Ą R x b->b.isVar=f?->(cW b).isRef=j?->cW b≠tA->cW b≠.p 14->cW b∈P++m)->Q (ϑ r) H'
theorem cX {s:Tm} (a:qw s=j?):∀x,s= .u .b x->x.isVar=f?:=by
 rintro x rfl;have:x.flat=j?:=a;simp only[Tm.flat,Y?,į] at this;exact this.1
theorem tN {L:m?} (hd:20<=d) (o:bj R) (X:QW L H ts h R b0 b1 b2 b3 Pl Pr) (f:ts[j]? = d? s) (ha:Ask s) (q:xO R h b0 b1 b2 b3 H ts Pl Pr s Q):aG d 636 [ϊ h,ϋ j,ϋ 17,ϊ b0] H Q:=by
 show nV.go hd rfl λd hd=>?_;have T:bu Ā d iL [d? (ϊ h),d? (ϋ j),d? (ϋ 17),d? (ϊ b0),d? (ϊ 3),e?] H (dA Q):=by
  simp![iL];show bk (by omega) X.w.kt f ?_;rcases ha with r| D
  ·-- the chain
   have W:bu Ā d iE [d? (ϊ h),d? (ϋ j),d? (ϋ 17),d? (ϊ b0),d? (ϊ 3),e?] H (dA Q):=by
    simp![iE];show wj (by omega) X.w X.v f r λn ks F S a1 hn hnl cb hkl=>?_;have g:=X.nx a1;have hl:b? (aN ks)<10000000:=by rw[aI];omega
    show bo (aj hn hl)<|jC (ρ:=[d? (ϊ h),d? (ϋ j),d? (ϋ 17),d? (ϊ b0),d? (ϊ 3),e?]) (i:=5) (us0:=ee 6 s) (o:=e?) hn hl (λb=>b=tA) ?_ (λZ h=>h) cb ?_ ?_
    ·intro b i PP z l h1 Y;by_cases I:b=tA
     ·subst I;have:i=17:=a1.kt.inj _ _ _ l g.w.c17;clear Y l z q f;subst this;simp![];exact h1 rfl
     ·have hi17:i≠17:=λe=>by subst e;rw[g.w.c17] at l;cases l;exact I rfl
      simp![show ¬((i:C?)=17) from by omega];show vw (by omega) g.w g.v l λC E=>?_;clear r q f;cases C using so with
      |true=>exact absurd (E.mp rfl) I
      |false=>
       simp![];exact Y I
    ·rintro⟨b,z,rfl⟩ ρ';show q j? F S [] ⟨λZ=>u? ⟨r,z⟩,λZ=>rfl⟩ a1.e (by rw[S!];exact g.B) (by simp) (by simp)
    ·intro M o';simp![];show q8 (k:=17) (by omega) g.w g.v g.w.c17 ?_;simp![show Tm.nu (Ϡ f? 64)=f? from by decide];show q f? F S [] ⟨λh=>(by cases h),λp=>?_⟩ a1.e (by rw[S!];exact g.B) (by simp) (λZ x b e N=>?_)
     ·rcases p with D| D
      ·show jU D λx e N Z=>?_;have:=cX r x e;rw[N] at this;cases this
      ·obtain⟨_,hm⟩:=D;exact absurd rfl (M tA hm)
     ·have:=cX r x e;rw[N] at this;cases this
   by_cases A:s.EY=j?
   ·cases s using ϐ with
    |u c x=>
     clear q;cases c using ϙ<;>first|(cases A;done)|skip
     have a:=cX r x rfl;simp![Tm.sort,U.sort];show jP (by omega) X.w.kt f λi l=>?_;show bU (by omega) X.w.kt l ?_;simp![a];exact W
    |_=>cases A
   ·have h8:¬((s.sort:C?)=8):=by
     clear r f;cases s using ϐ with
     |q s n=>cases s using so<;>simp[Tm.sort]
     |n0 s n=>cases s using so<;>simp[Tm.sort]
     |n1 s n t=>cases s using so<;>simp[Tm.sort]
     |u c x=>cases c using ϙ<;>first|(simp[Tm.sort,U.sort];done)|exact absurd rfl A
     |_=>simp[Tm.sort]
    simp![h8];exact W
  ·show bf D λx O a=>?_;clear D;subst O;simp![Tm.sort,U.sort];show jP (by omega) X.w.kt f λi l=>?_;show bU (by omega) X.w.kt l ?_;simp![a];show jP (by omega) X.w.kt f λi' K=>?_;show qO (by omega) o X K a λC P H' m r1 r2 r3 r4 r5=>?_;show q C P H' m ?_ r2 r3 r4 (λhf y b e hy=>?_)
   ·rw[r1];constructor
    ·rintro⟨b,J,p⟩;exact x? ⟨x,rfl,a,b,J,p⟩
    ·rintro(⟨y,e,_,b,J,p⟩| ⟨r,_⟩)
     ·cases e;exact⟨b,J,p⟩
     ·have:=cX r x rfl;rw[a] at this;cases this
   ·cases e;exact r5 hf b
 simp![aw (X.v.bB)];show bk (by omega) X.w.kt f ?_;clear q f;by_cases h4:(s.sort:C?)=4
 ·simp![h4];show bk (k:=17) (by omega) X.w.kt X.w.c17 ?_;simp![Tm.sort,show ¬((2:C?)=4) from by decide];exact T
 ·simp![h4];exact T
theorem yt {L:m?} (a:21<=d) (o:bj R) (X:QW L H ts h R b0 b1 b2 b3 Pl Pr) (c:ts[j]? = d? s) (b:Ask s) (q:xO R h b0 b1 b2 b3 H ts Pl Pr s Q):aG d 622 [ϊ h,pr j,ϊ b0] H Q:=by
 show rO.go a rfl λd a=>?_;simp![];exact tN (by omega) o X c b q
def Gd (R:Ĉ) (s:Tm):Prop:=(∃x,s= .u .b x/\x.isVar=j?/\∃b,Ą R x b/\(b=tA\/b=tB\/b= .p 14))\/(qw s=j?/\tA∈ee 6 s)
theorem Jx {b:Tm} (a:b∈cI) (f:b.isVar=f?) (e:(cW b).isRef=j?) (c:tA∈ee 6 (cW b)):b=tA\/b=tB:=by
 have:cI.all (λb=>b.isVar||!(cW b).isRef||!fh tA (ee 6 (cW b))||Tm.beq b tA||Tm.beq b tB)=j?:=by decide+kernel
 have:=L?.mp this b a;rw[f,e,aO.mpr c] at this;simp only[ŋ,G!,Ğ] at this;exact this.imp (Tm.beq_iff _ _).mp (Tm.beq_iff _ _).mp
theorem Pf.gd {s:Tm} (o:bj R) (r:∀y∈Pr,Gd R y) (p:Pf R Pr s):Gd R s:=by
 rcases p with⟨x,e,u,b,l,i,f⟩|p
 ·show x? ⟨x,e,u,b,l,?_⟩;have g:=l.lO o;have B:∀{c:Tm},cW b=c->(c=tA\/c= .p 14)->b=c:=by
   rintro c rfl a;unfold cW at a ⊢;split
   ·rename_i t;rw[P? t] at a;rcases a with a|a<;>cases a
   ·rfl
  rcases f with f| ⟨m,f|f⟩
  ·exact x? (B f (x? rfl))
  ·exact u? (u? (B f (u? rfl)))
  ·have n:=Xh g i m;rcases r _ f with q|q
   ·show jU q λy E v Z=>?_;have:=cX n y E;rw[v] at this;cases this
   ·obtain⟨_,a⟩:=q;rcases Jx g i m a with h|h
    ·exact x? h
    ·exact u? (x? h)
 ·exact u? p
def Done (R:Ĉ) (a P:g? Tm) (s:Tm):Prop:=s∈P\/(¬Pf R P s/\∀x b,s= .u .b x->x.isVar=j?->Ą R x b->b.isVar=f?->(cW b).isRef=j?->cW b≠tA->cW b≠.p 14->cW b∈a)
inductive SB (L:m?) (H:Hp) (ts:g? Tm) (h:m?) (R:Ĉ) (b0 b1 b2 b3:m?) (s0:Tm) (n:m?) (ρ:Ă) (Hc:Hp):Prop
 |mk (tc Pl Pr:g? Tm) (at_:m?) (o:p? V) (h1_:ρ=[d? (ϊ h),d? (ϊ b0),d? (ϋ at_),o]) (h2_:n=(200 - b? Pr) * 401+(200 - at_)) (h3_:QW L Hc tc h R b0 b1 b2 b3 Pl Pr) (h4_:cE (EB b1 b2 b3) H ts Hc tc) (h5_:(∀y∈Pl,Ask y)) (h6_:(∀y∈Pr,Gd R y/\y∈Pl)) (h7_:at_<=b? Pl) (h8_:(∀(i:m?) (y:Tm),i<at_->Pl[i]? = d? y->Done R Pl Pr y)) (h9_:s0∈Pl):SB L H ts h R b0 b1 b2 b3 s0 n ρ Hc
theorem aL.at {t:g? Tm}:∀{us:g? Tm} {ks:g? m?},aL t us ks->∀{i:m?} {u:Tm},us[i]? = d? u->∃k,ks[i]? = d? k/\t[k]? = d? u
 |[],[],_,i,u,h=>by simp at h
 |x::us,k::ks,h,0,u,e=>by simp at e;subst e;exact⟨k,rfl,h.1⟩
 |x::us,k::ks,h,i+1,u,e=>by obtain⟨K,a,b⟩:=aL.at h.2 (e);exact⟨K,a,b⟩
 |[],_::_,h,_,_,_=>h.elim
 |_::_,[],h,_,_,_=>h.elim
theorem tH {L:m?} (hd:23<=d) (o:bj R) (X:QW L H ts h R b0 b1 b2 b3 [s] []) (ha:Ask s)
  (q:∀T H' P l,cE (EB b1 b2 b3) H ts H' T->cH H' b0 b1 b2 b3 T P l->(s∈l↔Gd R s)->Q ϖ H'):aG d 615 [ϊ h,ϊ b0] H Q:=by
 show nw.go hd rfl λd hd=>?_;simp![];show⟨SB L H ts h R b0 b1 b2 b3 s,200 * 401+200,⟨ts,[s],[],0,e?,rfl,rfl,X,(Nx.refl X.w.kt).e,by simpa using ha,by simp,w_ _,λi y hi=>by omega,o?⟩,?_⟩;rintro n ρ Hc ⟨tc,P,l,A,oo,rfl,rfl,Y,a,C,v,hat,r,K⟩;show Mk Y.B.cells λpk rk E p2 p3 p4 p5=>?_;have hpl:b? P<200:=cy Y.B.lnd Y.B.luni;have hrl:b? l<200:=cy Y.B.rnd Y.B.runi;have hpk:=p4.len;have hrk:=p5.len;simp![aw (Y.B.bS)];show bo (len_list E (by simp;omega)) ?_;simp![N!];by_cases u:A<b? P
 ·obtain⟨y,M⟩:∃y,P[A]? = d? y:=⟨P[A],Z? u⟩
  show bf (p4.at M) λj hj1 hj=>?_;have f:(pk.map pr)[A]? = d? (pr j):=by rw[X!,hj1];rfl
  have O:y∈P:=U! M;simp![*,aw (Y.B.bS)];rw[show decide ((A:C?)<(b? pk:C?))=j? from by simp;omega];simp![aw (Y.B.bS),aw (br E f (by omega)),aw (Y.B.bY),bK];rw[xK (j:=j) p3,ĸ,bL];have J:=p5.mem hj Y.w.kt.inj;have N:∀{D:Hp} {F m:g? Tm},QW L D F h R b0 b1 b2 b3 (P++m) l->cE (EB b1 b2 b3) H ts D F->(∀z∈m,qw z=j?)->Done R (P++m) l y->∃k,k<(200 - b? l) * 401+(200 - A)/\SB L H ts h R b0 b1 b2 b3 s k [d? (ϊ h),d? (ϊ b0),d? (ϋ ((A:C?)+1)),d? (pr j)] D:=by
   intro D F m Y' a' hm hd';show⟨(200 - b? l) * 401+(200 - (A+1)),YB u hpl,F,P++m,l,A+1,_,rfl,rfl,Y',a',λz hz=>?_,λz hz=>⟨(v z hz).1,V? _ (v z hz).2⟩,by simp;omega,λi z hi hz=>?_,V? _ K⟩
   ·rcases N?.mp hz with h|h
    ·simp![*,aw (Y.B.bS),aw (br E f (by omega)),aw (Y.B.bY),bK];exact C z h
    ·exact x? (hm z h)
   ·by_cases hii:i=A
    ·subst hii;rw[H? u,M] at hz;clear M J O hj hi f;cases hz;exact hd'
    ·rw[H? (by omega)] at hz;rcases r i z (by omega) hz with h| ⟨h1,h2⟩
     ·exact x? h
     ·exact u? ⟨h1,λx b e1 e2 e3 e4 e5 e6 e7=>V? _ (h2 x b e1 e2 e3 e4 e5 e6 e7)⟩
  clear M hj1 u r hat;by_cases c:j∈rk
  ·simp![c];have:=N (m:=[]) (by rw[S!];exact Y) a (by simp) (by rw[S!];exact x? (J.mp c));simp![*,aw (Y.B.bS),aw (br E f (by omega)),aw (Y.B.bY),bK,c];exact this
  ·simp![c];show yt (by omega) o Y hj (C y O) λres T H' m r1 W r3 r4 r5=>?_;have Y':=Y.step W r3;cases res using so with
   |false=>
    simp![];exact N Y' (a.trans W) r4 (u? ⟨λp=>(by have:=r1.mpr p;cases this),r5 rfl⟩)
   |true=>
    show Mk r3.cells λpk' t p1' p2' p3' p4' S=>?_;have hny:y∉l:=λhh=>c (J.mpr hh);have hjr:j∉t:=λhh=>hny ((S.mem (W.code hj) W.kt.inj).mp hh);have hap:=r3.apart;have hhi:=r3.high;simp![aw (r3.bY)];show bo (sR (x:=pr j) p3' rfl ⟨_,rfl⟩ (by simp[rS];have:=S.len;omega) (Dy hjr)) ?_;have e3:(H'.set b3 (Ϝ (rS t++[(pr j,ϋ 1)])))[b3]? = d? (Ϝ (rS (t++[j]))):=by rw[ah p3'];simp[rS]
    have a2:=((a.trans W)).turn (n:=b3) (Ϝ (rS t++[(pr j,ϋ 1)])) (u? (u? rfl)) (by omega);have r2':=W.turn (n:=b3) (Ϝ (rS t++[(pr j,ϋ 1)])) (u? (u? rfl)) (by omega);have B2:cH (H'.set b3 (Ϝ (rS t++[(pr j,ϋ 1)]))) b0 b1 b2 b3 T (P++m) (l++[y]):=by
     show⟨ae r3.inst (by omega),⟨pk',t++[j],ae p1' (by omega),ae p2' (by omega),e3,p4',S.app ⟨W.code hj,trivial⟩⟩,hap,hhi,r3.lnd,?_,r3.luni,?_⟩
     ·rw[f_];simp![*,aw (Y.B.bS),aw (br E f (by omega)),aw (Y.B.bY),bK,c,aw (r3.bY)];exact⟨r3.rnd,by simp,λz hz z' hz'=>by rw[B?.mp hz'];rintro rfl;exact hny hz⟩
     ·intro z hz;rcases N?.mp hz with h|h
      ·simp![*,aw (Y.B.bS),aw (br E f (by omega)),aw (Y.B.bY),bK,c,aw (r3.bY)];exact r3.runi z h
      ·rw[B?.mp h];exact Y.w.kt.mem hj
    show⟨(200 - b? (l++[y])) * 401+(200 - 0),by rw[I?];exact YQ hrl,T,P++m,l++[y],0,_,rfl,rfl,Y.step r2' B2,a2,λz hz=>?_,λz hz=>?_,w_ _,λi z hi=>by omega,V? _ K⟩
    ·rcases N?.mp hz with h|h
     ·simp![*,aw (Y.B.bS),aw (br E f (by omega)),aw (Y.B.bY),bK,c,aw (r3.bY)];exact C z h
     ·exact x? (r4 z h)
    ·rcases N?.mp hz with h|h
     ·simp![*,aw (Y.B.bS),aw (br E f (by omega)),aw (Y.B.bY),bK,c,aw (r3.bY)];exact⟨(v z h).1,V? _ (v z h).2⟩
     ·rw[B?.mp h];simp![*,aw (Y.B.bS),aw (br E f (by omega)),aw (Y.B.bY),bK,c,aw (r3.bY)];exact⟨(r1.mp rfl).gd o (λz hz=>(v z hz).1),V? _ O⟩
 ·simp![*,aw (Y.B.bS)];rw[show decide ((A:C?)<(b? pk:C?))=f? from by simp;omega];simp![];have I:∀y∈P,Done R P l y:=λy M=>by
   obtain⟨i,hi⟩:=ń M;simp![*,aw (Y.B.bS)];exact r i y (by have:=(i?.mp hi).1;omega) hi
  simp![*,aw (Y.B.bS)];show q tc Hc P l a Y.B ⟨λhh=>(v s hh).1,λg=>?_⟩;rcases I s K with hh| ⟨hnp,hls⟩
  ·simp![*,aw (Y.B.bS)];exact hh
  ·exfalso;rcases g with⟨x,e,hx,b,hb,hbb⟩|g
   ·simp![*,aw (Y.B.bS)];show hnp (x? ⟨x,e,hx,b,hb,?_⟩);rcases hbb with rfl|rfl|rfl
    ·simp![*,aw (Y.B.bS)];exact⟨rfl,x? rfl⟩
    ·simp![*,aw (Y.B.bS)];show⟨rfl,u? ⟨rfl,u? ?_⟩⟩;have hB:tB∈P:=hls x tB e hx hb rfl rfl (λh=>by cases h) (λh=>by cases h);rcases I tB hB with hh| ⟨hh,_⟩
     ·simp![*,aw (Y.B.bS)];exact hh
     ·exact absurd (u? ⟨by decide,aO.mp rfl⟩) hh
    ·simp![*,aw (Y.B.bS)];exact⟨rfl,u? ⟨rfl,x? rfl⟩⟩
   ·simp![*,aw (Y.B.bS)];exact hnp (u? g)
end
end
theorem ix (a:H[n]? = d? (ϕ c fs)) (h:(cq c).contains x=j?) (e:au x v fs=fs'):ck (ϊ n) x v H=d? (H.set n (ϕ c fs')):=by
 subst e;simp only[ck,a,h,V!,vR,LL,F?]
theorem Sn {P:Hp->Prop} (d:b[n]? = d? (ϕ c fs)) (f:(cq c).contains x=j?) (e:au x v fs=fs') (a:Nx H t b t) (i:b? H<=n)
  (k:∀K:Hp,b? K=b? b->K[n]? = d? (ϕ c fs')->(∀m y,n≠m->b[m]? = d? y->K[m]? = d? y)->Nx H t K t->P K):ok (ck (ϊ n) x v b) P:=
 bo (ix d f e) (k _ d_ (ah d) (λm y h g=>ae g h) (a.set _ i))
theorem TC {P:Hp->Prop} (i:d[n]? = d? (ϕ c fs)) (j:(cq c).contains x=j?) (e:au x v fs=fs') (a:Nx H t d t) (o:b? H<=n)
  (k:∀K:Hp,b? K=b? d+1->K[n]? = d? (ϕ c fs')->K[b? d]? = d? b->(∀m y,n≠m->d[m]? = d? y->K[m]? = d? y)->Nx H t K t->P K):ok (ck (ϊ n) x v (d++[b])) P:=
 Sn (aC i) j e (a.trans (Nx.app a.kt _)) o λK l N f a1=>k K (l.trans I?) N (f _ _ (þ (i?.mp i).1) aD) (λm y h g=>f m y h (aC g)) a1
section
theorem q2 {d:m?} {H:Hp} {T:g? Tm} {k:m?} {t:Tm} {h:m?} {R:Ĉ} (j:7<=d) (o:bj R) (w:WS H T) (v:aM H h T R) (f:T[k]? = d? t) (q:∀(r:D?) H',(r=j?↔iW R t)->Nx H T H' T->Q (ϑ r) H'):aG d 671 [ϊ h,ϋ k] H Q:=by
 show mf.go j rfl λd j=>?_;simp![aw (v.bB)];show bU (by omega) w.kt f ?_;cases g:t.isVar using so with
 |true=>
  simp![];exact hA (by omega) o w.kt v f g q
 |false=>
  have c:t.isVal=j?↔iW R t:=by
   constructor
   ·intro hh;exact⟨t,x? rfl,x? hh⟩
   ·rintro⟨b,rfl|a,e|e⟩
    ·exact e
    ·rw[gj o g] at e;simp at e
    ·exfalso;have:∀b,Ą R t b->a_:=λb a=>by
      induction a with
      |one a=>have:=o.XK a;rw[g] at this;cases this
      |more _ _ I=>exact I
     exact this b a
    ·exfalso;have:∀b,Ą R t b->a_:=λb a=>by
      induction a with
      |one a=>have:=o.XK a;rw[g] at this;cases this
      |more _ _ I=>exact I
     exact this b a
  simp![aw (v.bB)];show dH (by omega) w.kt f ?_;cases i:t.isVal using so with
  |true=>
   simp![aw (v.bB)];show gp (by omega) w.kt f ?_;simp![];exact q j? H ⟨λZ=>c.mp i,λZ=>rfl⟩ (Nx.refl w.kt)
  |false=>
   simp![];exact q f? H ⟨λh=>(by cases h),λhh=>by rw[c.mpr hh] at i;cases i⟩ (Nx.refl w.kt)
def fD (R:Ĉ) (t:Tm):Prop:=bp R t &&& 4≠0\/iW R t\/t=tA
theorem wR (o:bj R) (H:t.isVar=f?):∀b,¬Ą R t b:=λb h=>by
 induction h with
 |one h=>have:=o.XK h;rw[H] at this;cases this
 |more _ _ i=>exact i
theorem yY (o:bj R) (H:t.isVar=f?):iW R t↔t.isVal=j?:=by
 constructor
 ·rintro⟨b,rfl|a,h|h⟩
  ·exact h
  ·rw[gj o H] at h;simp at h
  ·exact absurd a (wR o H b)
  ·exact absurd a (wR o H b)
 ·intro hh;exact⟨t,x? rfl,x? hh⟩
theorem Hb {d:m?} {H:Hp} {p:g? Tm} {k:m?} {t:Tm} {h:m?} {R:Ĉ} (l:8<=d) (o:bj R) (w:WS H p) (v:aM H h p R) (f:p[k]? = d? t) (q:∀(r:D?) H',(r=j?↔fD R t)->Nx H p H' p->Q (ϑ r) H'):aG d 519 [ϊ h,ϋ k] H Q:=by
 show ia.go l rfl λd l=>?_;simp![aw (v.bB)];show bU (by omega) w.kt f ?_;cases n:t.isVar using so with
 |true=>
  simp![];show dposE (c:=6) (d:=d) (by omega) λd l=>?_;show lN rfl<|Lw (v.gC w.kt f) λng J K C L=>?_;have S:=dI o t;have g:t≠tA:=by rintro rfl;cases n
  simp![J,K,C,K?];rw[show(4:C?)=((4:m?):C?) from rfl,jV (by omega) (by omega),bL];clear S L C;by_cases i:bp R t &&& 4=0
  ·simp![i];show hA (by omega) o w.kt v f n λr H' b O=>q r H' ?_ O;rw[b];unfold fD;simp[i,g]
  ·simp![show ¬((bp R t &&& 4:m?):C?)=0 from by omega];exact q j? H ⟨λZ=>x? i,λZ=>rfl⟩ (Nx.refl w.kt)
 |false=>
  simp![aw (v.iB)];show dposE (c:=6) (d:=d) (by omega) λd l=>?_;show lG rfl ?_;have a:fD R t↔t.isVal=j?\/t=tA:=by
   unfold fD;rw[gj o n,yY o n];simp
  have y:fD R t->Q (ϑ j?) H:=λhh=>q j? H ⟨λZ=>hh,λZ=>rfl⟩ (Nx.refl w.kt);have N:¬fD R t->Q (ϑ f?) H:=λhh=>q f? H ⟨λh=>(by cases h),λh=>absurd h hh⟩ (Nx.refl w.kt);simp![aw (w.bB)];show dH (by omega) w.kt f ?_;cases i:t.isVal using so with
  |true=>
   simp![];exact y (a.mpr (x? i))
  |false=>
   rw[i] at a;replace a:=a;simp![aw (w.bB)];show bk (by omega) w.kt f ?_;by_cases u:t.sort=4
   ·simp![u];show N (λhh=>?_);rcases a.mp hh with h|h
    ·cases h
    ·subst h;cases u
   ·simp![show ¬((t.sort:C?)=4) from by omega];show jI (by omega) w f ?_;by_cases e:iR t.tid=j?
    ·have T:=w.Po e;simp![e,aw (ez),T.sort];by_cases b:bD t.tid=1
     ·simp![b,T.flags];show bo (show cY o! (ϋ 0) (ϋ 1) H=d? (ϋ 0,H) from rfl)<|bf T.methods λnm M m=>?_;simp![Ī,A!,M];clear n q u;by_cases s:t.tid=64
      ·have g:t=tA:=by
        have:=bI (P:=λt=>Tm.beq t tA||t.isVal||!decide (t.tid=64)) (by decide+kernel) (w.kt.mem f);rw[i,show decide (t.tid=64)=j? from by simp[s]] at this;simp only[Ő,ŋ] at this;simp![*,aw (v.bB),aw (v.iB),aw (w.bB),e,aw (ez),T.sort,b,T.flags,Ī,A!,M];exact(Tm.beq_iff _ _).mp this
       rw[s] at m;simp![*,aw (v.bB),aw (v.iB),aw (w.bB),e,aw (ez),T.sort,b,T.flags,Ī,A!,M];show bo (aj m (by decide)) ?_;simp![y0,V!,bC,cz];show⟨⟨aj m (by decide),trivial⟩,?_⟩;obtain⟨W,A⟩:=w.me;have x:=w.stat 132 _ (by omega) (by omega) (show HT[132 - 2]? = d? (ϕ 317 (yb 132)) by kernel_rfl);have z:bN (ϊ 11) (ϋ 1) H=d? (ϊ 132):=br (k:=1) A rfl (by decide);have F:aA H "flags" (ϊ 132)=d? (ϋ 32):=ay x (by kernel_rfl);have D:aA H "access" (ϊ 132)=d? (ϋ 6):=ay x (by kernel_rfl);have I:aA H "params" (ϊ 132)=d? (ύ []):=ay x (by kernel_rfl);simp![aw (w.gG),z];show dposE (c:=5) (d:=d) (by omega) λd l=>?_;show vg rfl ?_;simp![F];show bo (show cY o! (ϋ 32) (ϋ 32) H=d? (ϋ 32,H) from rfl) ?_;simp![show ¬((32:C?)=0) from by decide,D,I];show bo (show gE H (ύ [])=d? 0 from rfl) ?_;simp![F];show bo (show cY o! (ϋ 32) (ϋ 1) H=d? (ϋ 0,H) from rfl) ?_;simp![Ī,A!];exact y (a.mpr (u? g))
      ·have B:y0 t.tid=[]:=by simp[y0,s]
       rw[B] at m;simp![*,aw (v.bB),aw (v.iB),aw (w.bB),e,aw (ez),T.sort,b,T.flags,Ī,A!,M];show bo (aj m (by decide)) ?_;simp![bC,cz];show⟨⟨aj m (by decide),trivial⟩,?_⟩;simp![*,aw (v.bB),aw (v.iB),aw (w.bB),e,aw (ez),T.sort,b,T.flags,Ī,A!,M,bC,cz];show N (λhh=>?_);rcases a.mp hh with h|h
       ·cases h
       ·subst h;exact s rfl
     ·simp![show ¬((bD t.tid:C?)=1) from by omega];show N (λhh=>?_);rcases a.mp hh with h|h
      ·cases h
      ·subst h;exact b rfl
    ·have j:iR t.tid=f?:=by simpa using e
     simp![j,aw (iY)];show N (λhh=>?_);rcases a.mp hh with h|h
     ·cases h
     ·subst h;cases j
theorem nW {d:m?} {H:Hp} {t:g? Tm} {j:m?} {s:Tm} {h:m?} {R:Ĉ} (k:26<=d) (o:bj R) (w:WS H t) (v:aM H h t R) (a:136<=b? H) (W:t[j]? = d? s) (ha:Ask s) (hr:s.isRef=j?) (S:s≠tA) (b:s≠.p 14)
  (q:∀(r:D?) T H',(r=j?↔Gd R s)->Nx H t H' T->Q (ϑ r) H'):aG d 594 [ϊ h,ϋ j,ϋ 17] H Q:=by
 show kg.go k rfl λd k=>dposE (c:=24) (d:=d) (by omega) λd k=>?_;show j0 rfl ?_;simp![];show bo (show Ā.init 583=d? 580 from by kernel_rfl) ?_;show⟨by omega,?_⟩;show dposE (c:=23) (d:=d) (by omega) λd k=>?_;rw[show d+1 - 1=d from by omega];show dposE (c:=22) (d:=d) (by omega) λe he=>?_;show qx rfl ?_;simp![];show Sn (fs':=[("strict",ϋ 0)]) aD (by decide+kernel) (by kernel_rfl) (Nx.app w.kt _) (J? _) λF A n1 i a1=>?_;replace A:b? F=b? H+1:=A.trans I?;simp![];show TC (fs':=[("strict",ϋ 0),("pairs",ϊ (b? F))]) n1 (by decide+kernel) (by kernel_rfl) a1 (J? _) λI l Y p2 x a2=>?_;rw[A] at Y p2 l;replace l:b? I=b? H+2:=l;simp![];show TC (fs':=[("strict",ϋ 0),("pairs",ϊ (b? H+1)),("listed",ϊ (b? I))]) Y (by decide+kernel) (by kernel_rfl) a2 (J? _) λJ L n3 q3 y a3=>?_;rw[l] at n3 q3 L;replace L:b? J=b? H+3:=L;show TC (fs':=[("strict",ϋ 0),("pairs",ϊ (b? H+1)),("listed",ϊ (b? H+2)),("proved",ϊ (b? J))]) n3 (by decide+kernel) (by kernel_rfl) a3 (J? _) λK l4 n4 r4 O a4=>?_;rw[L] at n4 r4;have p4:=O _ _ (Aa rfl) (y _ _ (Aa rfl) p2);have q4:=O _ _ (Aa rfl) q3;simp![];show⟨trivial,?_⟩;have B:cH K (b? H) (b? H+1) (b? H+2) (b? H+3) t [] []:=⟨n4,⟨[],[],p4,q4,r4,trivial,trivial⟩,⟨Aa rfl,Aa rfl,Aa rfl,PS rfl,PS rfl,PS rfl⟩,⟨a,Nm a,Nm a,Nm a⟩,V_,V_,by simp,by simp⟩
 have f:jX H h (b? H):=v.w7;have X:QW (b? H) K t h R (b? H) (b? H+1) (b? H+2) (b? H+3) [] []:=⟨w.nx a4,v.nx a4,B,f.keep (E:=λZ=>a_) v a4.e (λZ h=>h.elim),by omega⟩
 show iM (by omega) X.w X.v W X.B λr P H5 c1 C M m u N=>?_;have g:r=f?:=by
  cases r using so with
  |false=>rfl
  |true=>
   clear N u m M;rcases c1.mp rfl with hh| ⟨_,hh|hh⟩
   ·exact absurd hh S
   ·exact absurd hh b
   ·cases hh
 subst g;have z:P=[s]:=by
  have:=u hr S b;rcases m with hh|hh
  ·rw[hh] at this;cases this
  ·simp![]
   simpa using hh
 clear N u m;subst z;have X5:=X.step C M;simp![];show tH (by omega) o X5 ha λD H6 Pl Pr i x y=>?_;show Mk x.cells λpk rk x1 x2 x3 x4 x5=>?_;simp![aw (x.bY),oh];show bo (xK (j:=j) x3)<|q _ D H6 ?_ ((a4.e.trans (C.trans i)).fresh (by rintro n (h|h|h)<;>omega));rw[O!,x5.mem (i.code (C.code (a4.code W))) i.kt.inj,y]
end
def Ps (R:Ĉ) (a:Tm):Prop:=∃b,(b=a\/Ą R a b)/\(b=tA\/b=tB\/b= .p 14)
def A2 (a:Tm):Prop:=a.isVar=j?\/a=tA\/a=tB\/a=tS
theorem Vi {a:Tm} (h:ϗ f? 72 a∈ă):A2 a:=by
 have:(a.isVar||Tm.beq a tA||Tm.beq a tB||Tm.beq a tS)=j?:=bI (P:=λt=>ϐ t (λZ=>j?) (λZ Z=>j?) (λZ Z=>j?) (λs n a=>s||!(À n 72)||(a.isVar||Tm.beq a tA||Tm.beq a tB||Tm.beq a tS)) (λZ=>j?) (λZ Z=>j?) (λZ Z=>j?)) (by decide+kernel) h;simp only[Ğ] at this;rcases this with((h|h)|h)|h
 ·exact x? h
 ·exact u? (x? ((Tm.beq_iff _ _).mp h))
 ·exact u? (u? (x? ((Tm.beq_iff _ _).mp h)))
 ·exact u? (u? (u? ((Tm.beq_iff _ _).mp h)))
theorem D9 {a:Tm} (h:a∈ă) (c:a.isVar=j?\/a=tS):Tm.u .b a∈ă:=by
 have:=bI (P:=λa=>!(a.isVar||Tm.beq a tS)||fh (.u .b a) ă) (by decide+kernel) h;have e:(a.isVar||Tm.beq a tS)=j?:=by
  rcases c with h|h
  ·rw[h];rfl
  ·rw[h];rfl
 rw[e] at this;exact aO.mp (this)
theorem AY {ks:g? m?}:V.cO (aN ks)=j?:=by
 simp only[V.cO,L?,aN,B_];rintro x ⟨k,_,rfl⟩;rfl
theorem O8 {ks:g? m?} {j:m?}:((aN ks).any λy=>V.beq y (ϋ (j:C?)))=decide (j∈ks):=by
 induction ks with
 |nil=>rfl
 |cons k ks i=>
  rw[J8,M!,i,Ed];by_cases h:k=j
  ·subst h;simp
  ·have:¬((k:C?)=(j:C?)):=by omega
   simp[this,N_ h]
theorem Cw {H:Hp} {n j:m?} {ks:g? m?} (b:H[n]? = d? (ό (aN ks))):uR H (ϋ j) (ϊ n)=d? (decide (j∈ks)):=by
 rw[<- O8];simp only[uR,dU,b,AY,eD,nQ,fO,F?];rfl
section
variable {d:m?} {H:Hp} {ts:g? Tm} {k j:m?} {s t a:Tm} {Q:V->Hp->Prop} {h:m?} {R:Ĉ}
theorem Bm (c:27<=d) (o:bj R) (w:WS H ts) (v:aM H h ts R) (i:ts[j]? = d? s) (f:Ask s) (g:s.isRef=j?) (e:s≠tA) (b:s≠.p 14)
  (q:∀(r:D?) T H',(r=j?↔Gd R s)->Nx H ts H' T->Q (ϑ r) H'):aG d 685 [ϊ h,ϋ j,ϋ 17,ϋ 0] H Q:=by
 show lC.go c rfl λd c=>?_;simp![];have:=v.big;have:=v.w7.low;exact nW (by omega) o w v (by omega) i f g e b q
theorem xi (M:28<=d) (o:bj R) (w:WS H ts) (v:aM H h ts R) (f:ts[j]? = d? a) (K:A2 a)
  (q:∀(r:D?) F H',(r=j?↔Ps R a)->Nx H ts H' F->Q (ϑ r) H'):aG d 692 [ϊ h,ϋ j,ϋ 17,ϋ 0] H Q:=by
 show pO.go M rfl λd M=>?_;have E:=w.kt.mem f;simp![aw (v.bB)];by_cases z:a=tA
 ·subst z;have:j=17:=w.kt.inj _ _ _ f w.c17;clear E f;subst this;exact q j? ts H ⟨λZ=>⟨tA,x? rfl,x? rfl⟩,λZ=>rfl⟩ (Nx.refl w.kt)
 ·have N:j≠17:=λe=>by subst e;rw[w.c17] at f;cases f;exact z rfl
  simp![show ¬((j:C?)=17) from by omega];show bU (by omega) w.kt f ?_;cases u:a.isVar using so with
  |true=>
   simp![];show er (by omega) o w.kt v f λJ n bs ks a1 Y Z S nd L=>?_;have W:=w.nx a1;have v1:=v.nx a1;simp![oh,show uR J (ϋ 17) (ϊ n)=d? (decide (17∈ks)) from Cw (j:=17) Y];have p:=S.mem (j:=17) W.c17 a1.kt.inj;by_cases l:17∈ks
   ·simp![l];exact q j? ts J ⟨λZ=>⟨tA,u? ((L tA).mp (p.mp l)).1,x? rfl⟩,λZ=>rfl⟩ a1
   ·have hna:¬Ą R a tA:=λhr=>l (p.mpr ((L tA).mpr ⟨hr,λe=>z e.symm⟩));simp![l];show bU (k:=17) (by omega) W.kt W.c17 ?_;simp![Tm.isVar];show hY (by omega) W.kt (a1.code f) (D9 E (x? u)) λi I P a2 C=>?_;show Bm (by omega) o (W.nx a2) (v1.nx a2) C (u? ⟨a,rfl,u⟩) rfl (λe=>by cases e) (λe=>by cases e) λr T y A B=>q r T y ?_ (a1.trans (a2.trans B));rw[A];constructor
    ·rintro(⟨x,e,O,b,g,c⟩| ⟨ho,_⟩)
     ·cases e;exact⟨b,u? g,c⟩
     ·have:=cX ho a rfl;rw[u] at this;cases this
    ·rintro⟨b,rfl|g,c⟩
     ·rcases c with rfl|rfl|rfl<;>cases u
     ·exact x? ⟨a,rfl,u,b,g,c⟩
  |false=>
   simp![];show bU (k:=17) (by omega) w.kt w.c17 ?_;simp![Tm.isVar];have D:∀b,¬Ą R a b:=wR o u;have m:Ps R a↔a=tB:=by
    constructor
    ·rintro⟨b,rfl|g,c⟩
     ·rcases c with h|h|h
      ·exact absurd h z
      ·simp![*,aw (v.bB),Tm.isVar];exact h
      ·subst h;rcases K with h|h|h|h<;>cases h
     ·exact absurd g (D b)
    ·rintro rfl;exact⟨tB,x? rfl,u? (x? rfl)⟩
   rcases K with h|h|h|h
   ·rw[u] at h;cases h
   ·exact absurd h z
   ·subst h;simp![*,aw (v.bB),Tm.isVar];show dH (by omega) w.kt f ?_;simp![Tm.isVal];show Bm (by omega) o w v f (x? rfl) rfl (λe=>by cases e) (λe=>by cases e) λr T y A B=>q r T y ?_ B;rw[A,m];exact⟨λZ=>rfl,λZ=>u? ⟨rfl,aO.mp rfl⟩⟩
   ·subst h;simp![*,aw (v.bB),Tm.isVar];show dH (by omega) w.kt f ?_;simp![Tm.isVal];show gp (by omega) w.kt f ?_;simp![];show hY (by omega) w.kt f (D9 E (u? rfl)) λi I P a2 C=>?_;show Bm (by omega) o (w.nx a2) (v.nx a2) C (x? rfl) rfl (λe=>by cases e) (λe=>by cases e) λr T y A B=>q r T y ?_ (a2.trans B);rw[A,m];constructor
    ·rintro(⟨x,e,O,_⟩| ⟨_,X⟩)
     ·cases e;cases O
     ·exact absurd (aO.mpr X) (by decide)
    ·intro e;cases e
def cQ (R:Ĉ) (a:Tm) (tid:m?):Prop:=if tid=69 then(if a.isVar=j? then sE R a else a.isRef=j?) else if tid=70 then iW R a else if tid=71 then fD R a else if tid=72 then Ps R a else ŀ
theorem tq (g:29<=d) (o:bj R) (w:WS H ts) (v:aM H h ts R) (B:ts[j]? = d? a)
  (q:∀(b:D?) T H',(b=j?↔cQ R a 67)->Nx H ts H' T->Q (ϑ b) H'):aG d 678 [ϊ h,ϋ j,ϋ (0:m?),ύ (aN []),ϋ 0] H Q:=by
 show df.go g rfl λd g=>?_;have n:∀{H':Hp} {f:C?} {P:Fl->Ă->Hp->Prop},P (ϣ (ϑ j?)) [d? (ϊ h),d? (ϋ j),d? (ϋ f),d? (ύ []),d? (ϋ 0),d? (ϊ 3),e?] H'->bu Ā d aX [d? (ϊ h),d? (ϋ j),d? (ϋ f),d? (ύ []),d? (ϋ 0),d? (ϊ 3),e?] H' P:=by
  intro H' f P p;simp![aX,cS,bC,K?];exact p
 have A:∀{x y r:C?} {H':Hp},0<=x->x<100->0<=y->y<100->((x.toNat &&& y.toNat:m?):C?)=r->cY o! (ϋ x) (ϋ y) H'=d? (ϋ r,H'):=by
  intro x y r H' l m u z e;exact fc ((gJ (by omega)).trans (R? d? e))
 have c:∀{H':Hp} {f:C?} {P:Fl->Ă->Hp->Prop},(f=0\/f=1)->∀{K:g? V},bu Ā d aX [d? (ϊ h),d? (ϋ j),d? (ϋ f),d? (ύ K),d? (ϋ 0),d? (ϊ 3),e?] H' P->bu Ā d bA [d? (ϊ h),d? (ϋ j),d? (ϋ f),d? (ύ K),d? (ϋ 0),d? (ϊ 3),e?] H' P:=by
  intro H' f P i K p;rcases i with rfl|rfl<;>(
   simp![bA,A (x:=0) (y:=2) (r:=0) (H':=H') (by decide) (by decide) (by decide) (by decide) rfl,A (x:=0) (y:=4) (r:=0) (H':=H') (by decide) (by decide) (by decide) (by decide) rfl,A (x:=1) (y:=2) (r:=0) (H':=H') (by decide) (by decide) (by decide) (by decide) rfl,A (x:=1) (y:=4) (r:=0) (H':=H') (by decide) (by decide) (by decide) (by decide) rfl];exact p)
 simp![aw (v.bB)];simp![A (x:=0) (y:=1) (r:=0) (H':=H) (by decide) (by decide) (by decide) (by decide) rfl];show c (x? rfl) (n ?_);exact q j? ts H (by simp[cQ]) (Nx.refl w.kt)
theorem tU (m:29<=d) (o:bj R) (w:WS H ts) (v:aM H h ts R) (i:ts[j]? = d? a)
  (q:∀(b:D?) T H',(b=j?↔cQ R a 69)->Nx H ts H' T->Q (ϑ b) H'):aG d 678 [ϊ h,ϋ j,ϋ (1:m?),ύ (aN []),ϋ 0] H Q:=by
 show df.go m rfl λd m=>?_;have n:∀{H':Hp} {f:C?} {P:Fl->Ă->Hp->Prop},P (ϣ (ϑ j?)) [d? (ϊ h),d? (ϋ j),d? (ϋ f),d? (ύ []),d? (ϋ 0),d? (ϊ 3),e?] H'->bu Ā d aX [d? (ϊ h),d? (ϋ j),d? (ϋ f),d? (ύ []),d? (ϋ 0),d? (ϊ 3),e?] H' P:=by
  intro H' f P p;simp![aX,cS,bC,K?];exact p
 have A:∀{x y r:C?} {H':Hp},0<=x->x<100->0<=y->y<100->((x.toNat &&& y.toNat:m?):C?)=r->cY o! (ϋ x) (ϋ y) H'=d? (ϋ r,H'):=by
  intro x y r H' D E F I e;exact fc ((gJ (by omega)).trans (R? d? e))
 have c:∀{H':Hp} {f:C?} {P:Fl->Ă->Hp->Prop},(f=0\/f=1)->∀{K:g? V},bu Ā d aX [d? (ϊ h),d? (ϋ j),d? (ϋ f),d? (ύ K),d? (ϋ 0),d? (ϊ 3),e?] H' P->bu Ā d bA [d? (ϊ h),d? (ϋ j),d? (ϋ f),d? (ύ K),d? (ϋ 0),d? (ϊ 3),e?] H' P:=by
  intro H' f P B K p;rcases B with rfl|rfl<;>(
   simp![bA,A (x:=0) (y:=2) (r:=0) (H':=H') (by decide) (by decide) (by decide) (by decide) rfl,A (x:=0) (y:=4) (r:=0) (H':=H') (by decide) (by decide) (by decide) (by decide) rfl,A (x:=1) (y:=2) (r:=0) (H':=H') (by decide) (by decide) (by decide) (by decide) rfl,A (x:=1) (y:=4) (r:=0) (H':=H') (by decide) (by decide) (by decide) (by decide) rfl];exact p)
 simp![aw (v.bB)];simp![A (x:=1) (y:=1) (r:=1) (H':=H) (by decide) (by decide) (by decide) (by decide) rfl];show bU (by omega) w.kt i ?_;cases l:a.isVar using so with
 |true=>
  simp![];show rZ (by omega) o w v i l λb H' C z=>?_;have g:b=j?↔cQ R a 69:=by rw[C];simp[cQ,l]
  cases b using so with
  |true=>(simp![]);exact c (u? rfl) (n (q j? ts H' g z))
  |false=>(simp![]);exact q f? ts H' g z
 |false=>
  simp![];show mS (by omega) w.kt i ?_;have g:a.isRef=j?↔cQ R a 69:=by simp[cQ,l]
  cases u:a.isRef using so with
  |true=>(simp![]);exact c (u? rfl) (n (q j? ts H (by rw[<- g,u]) (Nx.refl w.kt)))
  |false=>(simp![]);exact q f? ts H (by rw[<- g,u]) (Nx.refl w.kt)
theorem tv (c:29<=d) (o:bj R) (w:WS H ts) (v:aM H h ts R) (u:ts[j]? = d? a)
  (q:∀(b:D?) T H',(b=j?↔cQ R a 70)->Nx H ts H' T->Q (ϑ b) H'):aG d 678 [ϊ h,ϋ j,ϋ (2:m?),ύ (aN []),ϋ 0] H Q:=by
 show df.go c rfl λd c=>?_;have n:∀{H':Hp} {f:C?} {P:Fl->Ă->Hp->Prop},P (ϣ (ϑ j?)) [d? (ϊ h),d? (ϋ j),d? (ϋ f),d? (ύ []),d? (ϋ 0),d? (ϊ 3),e?] H'->bu Ā d aX [d? (ϊ h),d? (ϋ j),d? (ϋ f),d? (ύ []),d? (ϋ 0),d? (ϊ 3),e?] H' P:=by
  intro H' f P p;simp![aX,cS,bC,K?];exact p
 have A:∀{x y r:C?} {H':Hp},0<=x->x<100->0<=y->y<100->((x.toNat &&& y.toNat:m?):C?)=r->cY o! (ϋ x) (ϋ y) H'=d? (ϋ r,H'):=by
  intro x y r H' B C D E e;exact fc ((gJ (by omega)).trans (R? d? e))
 have l:∀{H':Hp} {f:C?} {P:Fl->Ă->Hp->Prop},(f=0\/f=1)->∀{K:g? V},bu Ā d aX [d? (ϊ h),d? (ϋ j),d? (ϋ f),d? (ύ K),d? (ϋ 0),d? (ϊ 3),e?] H' P->bu Ā d bA [d? (ϊ h),d? (ϋ j),d? (ϋ f),d? (ύ K),d? (ϋ 0),d? (ϊ 3),e?] H' P:=by
  intro H' f P m K p;rcases m with rfl|rfl<;>(
   simp![bA,A (x:=0) (y:=2) (r:=0) (H':=H') (by decide) (by decide) (by decide) (by decide) rfl,A (x:=0) (y:=4) (r:=0) (H':=H') (by decide) (by decide) (by decide) (by decide) rfl,A (x:=1) (y:=2) (r:=0) (H':=H') (by decide) (by decide) (by decide) (by decide) rfl,A (x:=1) (y:=4) (r:=0) (H':=H') (by decide) (by decide) (by decide) (by decide) rfl];exact p)
 simp![aw (v.bB)];simp![bA,A (x:=2) (y:=1) (r:=0) (H':=H) (by decide) (by decide) (by decide) (by decide) rfl,A (x:=2) (y:=2) (r:=2) (H':=H) (by decide) (by decide) (by decide) (by decide) rfl];show q2 (by omega) o w v u λb H' z i=>?_;have g:b=j?↔cQ R a 70:=by rw[z];simp[cQ]
 cases b using so with
 |true=>
  simp![A (x:=2) (y:=4) (r:=0) (H':=H') (by decide) (by decide) (by decide) (by decide) rfl];exact n (q j? ts H' g i)
 |false=>(simp![]);exact q f? ts H' g i
theorem tP (c:29<=d) (o:bj R) (w:WS H ts) (v:aM H h ts R) (u:ts[j]? = d? a)
  (q:∀(b:D?) T H',(b=j?↔cQ R a 71)->Nx H ts H' T->Q (ϑ b) H'):aG d 678 [ϊ h,ϋ j,ϋ (4:m?),ύ (aN []),ϋ 0] H Q:=by
 show df.go c rfl λd c=>?_;have n:∀{H':Hp} {f:C?} {P:Fl->Ă->Hp->Prop},P (ϣ (ϑ j?)) [d? (ϊ h),d? (ϋ j),d? (ϋ f),d? (ύ []),d? (ϋ 0),d? (ϊ 3),e?] H'->bu Ā d aX [d? (ϊ h),d? (ϋ j),d? (ϋ f),d? (ύ []),d? (ϋ 0),d? (ϊ 3),e?] H' P:=by
  intro H' f P p;simp![aX,cS,bC,K?];exact p
 have A:∀{x y r:C?} {H':Hp},0<=x->x<100->0<=y->y<100->((x.toNat &&& y.toNat:m?):C?)=r->cY o! (ϋ x) (ϋ y) H'=d? (ϋ r,H'):=by
  intro x y r H' B C D E e;exact fc ((gJ (by omega)).trans (R? d? e))
 have l:∀{H':Hp} {f:C?} {P:Fl->Ă->Hp->Prop},(f=0\/f=1)->∀{K:g? V},bu Ā d aX [d? (ϊ h),d? (ϋ j),d? (ϋ f),d? (ύ K),d? (ϋ 0),d? (ϊ 3),e?] H' P->bu Ā d bA [d? (ϊ h),d? (ϋ j),d? (ϋ f),d? (ύ K),d? (ϋ 0),d? (ϊ 3),e?] H' P:=by
  intro H' f P m K p;rcases m with rfl|rfl<;>(
   simp![bA,A (x:=0) (y:=2) (r:=0) (H':=H') (by decide) (by decide) (by decide) (by decide) rfl,A (x:=0) (y:=4) (r:=0) (H':=H') (by decide) (by decide) (by decide) (by decide) rfl,A (x:=1) (y:=2) (r:=0) (H':=H') (by decide) (by decide) (by decide) (by decide) rfl,A (x:=1) (y:=4) (r:=0) (H':=H') (by decide) (by decide) (by decide) (by decide) rfl];exact p)
 simp![aw (v.bB)];simp![bA,A (x:=4) (y:=1) (r:=0) (H':=H) (by decide) (by decide) (by decide) (by decide) rfl,A (x:=4) (y:=2) (r:=0) (H':=H) (by decide) (by decide) (by decide) (by decide) rfl,A (x:=4) (y:=4) (r:=4) (H':=H) (by decide) (by decide) (by decide) (by decide) rfl,show ¬((4:C?)=0) from by decide,F!,aN,v.cls,aw (F2),v.WH,K?];show Hb (by omega) o w v u λb H' z i=>?_;have g:b=j?↔cQ R a 71:=by rw[z];simp[cQ]
 cases b using so with
 |true=>(simp![]);exact n (q j? ts H' g i)
 |false=>(simp![]);exact q f? ts H' g i
theorem tJ (g:29<=d) (o:bj R) (w:WS H ts) (v:aM H h ts R) (u:ts[j]? = d? a) (m:A2 a)
  (q:∀(b:D?) T H',(b=j?↔cQ R a 72)->Nx H ts H' T->Q (ϑ b) H'):aG d 678 [ϊ h,ϋ j,ϋ (0:m?),ύ (aN [17]),ϋ 0] H Q:=by
 show df.go g rfl λd g=>?_;have N:∀{H':Hp} {f:C?} {P:Fl->Ă->Hp->Prop},P (ϣ (ϑ j?)) [d? (ϊ h),d? (ϋ j),d? (ϋ f),d? (ύ []),d? (ϋ 0),d? (ϊ 3),e?] H'->bu Ā d aX [d? (ϊ h),d? (ϋ j),d? (ϋ f),d? (ύ []),d? (ϋ 0),d? (ϊ 3),e?] H' P:=by
  intro H' f P p;simp![aX,cS,bC,K?];exact p
 have A:∀{x y r:C?} {H':Hp},0<=x->x<100->0<=y->y<100->((x.toNat &&& y.toNat:m?):C?)=r->cY o! (ϋ x) (ϋ y) H'=d? (ϋ r,H'):=by
  intro x y r H' B C D E e;exact fc ((gJ (by omega)).trans (R? d? e))
 have c:∀{H':Hp} {f:C?} {P:Fl->Ă->Hp->Prop},(f=0\/f=1)->∀{K:g? V},bu Ā d aX [d? (ϊ h),d? (ϋ j),d? (ϋ f),d? (ύ K),d? (ϋ 0),d? (ϊ 3),e?] H' P->bu Ā d bA [d? (ϊ h),d? (ϋ j),d? (ϋ f),d? (ύ K),d? (ϋ 0),d? (ϊ 3),e?] H' P:=by
  intro H' f P n K p;rcases n with rfl|rfl<;>(
   simp![bA,A (x:=0) (y:=2) (r:=0) (H':=H') (by decide) (by decide) (by decide) (by decide) rfl,A (x:=0) (y:=4) (r:=0) (H':=H') (by decide) (by decide) (by decide) (by decide) rfl,A (x:=1) (y:=2) (r:=0) (H':=H') (by decide) (by decide) (by decide) (by decide) rfl,A (x:=1) (y:=4) (r:=0) (H':=H') (by decide) (by decide) (by decide) (by decide) rfl];exact p)
 simp![aw (v.bB)];simp![A (x:=0) (y:=1) (r:=0) (H':=H) (by decide) (by decide) (by decide) (by decide) rfl,aN];show c (x? rfl) ?_;simp![aX,dt,ff,bC,cz,K?];show xi (by omega) o w v u m λb T H' z l=>?_;have i:b=j?↔cQ R a 72:=by rw[z];simp[cQ]
 cases b using so with
 |true=>(simp![]);exact q j? T H' i l
 |false=>(simp![]);exact q f? T H' i l
theorem xW {tid f:m?} {ks:g? m?} (m:29<=d) (o:bj R) (w:WS H ts) (v:aM H h ts R) (n:ts[j]? = d? a) (b:Ga tid=[((f:C?),ks)]) (A:tid=72->A2 a)
  (q:∀(r:D?) T H',(r=j?↔cQ R a tid)->Nx H ts H' T->Q (ϑ r) H'):aG d 678 [ϊ h,ϋ j,ϋ f,ύ (aN ks),ϋ 0] H Q:=by
 have l:tid=67/\f=0/\ks=[]\/tid=69/\f=1/\ks=[]\/tid=70/\f=2/\ks=[]\/tid=71/\f=4/\ks=[]\/tid=72/\f=0/\ks=[17]:=by
  unfold Ga at b;by_cases p:tid=67
  ·rw[P? p] at b;simp at b;exact x? ⟨p,by omega,b.2⟩
  ·rw[E? p] at b;by_cases u:tid=69
   ·rw[P? u] at b;simp at b;exact u? (x? ⟨u,by omega,b.2⟩)
   ·rw[E? u] at b;by_cases x:tid=70
    ·rw[P? x] at b;simp at b;exact u? (u? (x? ⟨x,by omega,b.2⟩))
    ·rw[E? x] at b;replace b:=b;by_cases y:tid=71
     ·rw[P? y] at b;simp at b;exact u? (u? (u? (x? ⟨y,by omega,b.2⟩)))
     ·rw[E? y] at b;replace b:=b;clear q;by_cases z:tid=72
      ·rw[P? z] at b;simp at b;exact u? (u? (u? (u? ⟨z,by omega,b.2.symm⟩)))
      ·rw[E? z] at b;cases b
 rcases l with i|i|i|i|i
 ·show fP i λc e g=>?_;try clear i
  subst c;subst e;clear b;subst g;exact tq m o w v n q
 ·show fP i λc e g=>?_;try clear i
  subst c;subst e;clear b;subst g;exact tU m o w v n q
 ·show fP i λc e g=>?_;try clear i
  subst c;subst e;clear b;subst g;exact tv m o w v n q
 ·show fP i λc e g=>?_;try clear i
  subst c;subst e;clear b;subst g;exact tP m o w v n q
 ·show fP i λc e g=>?_;try clear i
  subst c;subst e;clear b;subst g;exact tJ m o w v n (A rfl) q
end
section
set_option tactic.hygienic true
open Classical in
def dR (R:Ĉ) (T:Tm):m?:=ϐ T (λZ=>0) (λZ Z=>0) (λs tid=>if s≠decide (bD tid=2) then 15 else if 0≠d5 tid then 9 else 0) (λs tid a=>if s≠decide (bD tid=2) then 15 else if 1≠d5 tid then 9 else if cQ R a tid then 0 else 8) (λZ=>0) (λZ Z=>0) (λZ Z=>0)
def Tm.named (T:Tm):D?:=ϐ T (λZ=>f?) (λZ Z=>f?) (λZ Z=>j?) (λZ Z Z=>j?) (λZ=>f?) (λZ Z=>f?) (λZ Z=>f?)
def sq (t:Tm):m?:=if t.named=j?/\iR t.tid=f? then 1 else 0
theorem wy {a b:D?} {H:Hp}:bZ J! (ϑ a) (ϑ b) H=d? (a != b):=rfl
section
variable {d:m?} {H:Hp} {ts:g? Tm} {k j:m?} {s t a:Tm} {Q:V->Hp->Prop} {h:m?} {R:Ĉ}
theorem kX (g:3<=d) (w:WS H ts) (e:ts[k]? = d? t) (q:Q (ϋ (sq t)) H):aG d 713 [ϊ 2,ϋ k] H Q:=by
 show iP.go g rfl λd g=>?_;simp![aw (w.bB)];show bk (by omega) w.kt e ?_;have o:t.named=f?->Q (ϋ 0) H:=λhn=>by
  unfold sq at q;rw[hn] at q;simpa using q
 have N:t.named=j?->0<t.tid->∀(x:C?),bu Ā d cD [d? (ϊ 2),d? (ϋ k),d? (ϋ x),e?] H (dA Q):=by
  intro hn f x;simp![cD,aw (w.bB)];show fy (by omega) w.kt e ?_;have b:=yD (w.kt.mem e);show jU w.uG λn i l m=>?_;simp![aw (w.dq),i,show decide ((t.tid:C?)<=0)=f? from by simp;omega];unfold sq at q;rcases b with b|b
  ·simp![show decide ((n:C?)<=(t.tid:C?))=f? from by simp;omega,aw (w.dq),aw (w.rE b),XD];by_cases hT:iR t.tid=j?
   ·simp![hT,aw (ez)];(simp! only[hn,hT]);simpa [hn,hT] using q
   ·have hT':iR t.tid=f?:=by simpa using hT
    simp![hT',aw (iY)];(simp! only[hn,hT']);simpa [hn,hT'] using q
  ·simp![show decide ((n:C?)<=(t.tid:C?))=j? from by simp;omega];have hT':iR t.tid=f?:=by rw[b];rfl
   simp![*,aw (w.bB),aw (w.dq),i];(simp! only[hn,hT']);simpa [hn,hT'] using q
 have f:t.named=j?->0<t.tid:=λhn=>by
  have:=bI (P:=λt=>!t.named||decide (0<t.tid)) (by decide+kernel) (w.kt.mem e);rw[hn] at this;simp![*,aw (w.bB)]
  simpa using this
 cases t using ϐ with
 |n0 s n=>cases s using so<;>exact pn 9 cD (by kernel_rfl) (N rfl (f rfl) _)
 |n1 s n t=>cases s using so<;>exact pn 9 cD (by kernel_rfl) (N rfl (f rfl) _)
 |q s n=>cases s using so<;>exact bl (n:=20) (by kernel_rfl) (o rfl)
 |u c t=>cases c using ϙ<;>exact bl (n:=20) (by kernel_rfl) (o rfl)
 |_=>exact bl (n:=20) (by kernel_rfl) (o rfl)
theorem I7 {tid:m?} (h:d5 tid=1):∃(f:m?) (ks:g? m?),Ga tid=[((f:C?),ks)]/\(ks=[]\/ks=[17]):=by
 unfold d5 at h;split at h
 ·rename_i b;rcases b with b|b
  ·subst b;exact⟨0,[],rfl,x? rfl⟩
  ·have:tid=69\/tid=70\/tid=71\/tid=72:=Y2 _ (Nat.lt_succ_of_le b.2) b.1;rcases this with e|e|e|e
   ·subst e;exact⟨1,[],rfl,x? rfl⟩
   ·subst e;exact⟨2,[],rfl,x? rfl⟩
   ·subst e;exact⟨4,[],rfl,x? rfl⟩
   ·subst e;exact⟨0,[17],rfl,u? rfl⟩
 ·cases h
theorem rT {tid nb:m?} {x:V} (z:30<=d) (o:bj R) (w:WS H ts) (v:aM H h ts R) (C:ts[j]? = d? a) (m:H[nb]? = d? (ό ((Ga tid).map TU))) (A:d5 tid=1) (B:tid=72->A2 a)
  (q:∀(i:m?) T H',(i=0/\cQ R a tid\/i=8/\¬cQ R a tid)->Nx H ts H' T->Q (ϋ i) H'):aG d 699 [ϊ h,ϊ nb,ύ [ϋ j],x,ύ []] H Q:=by
 show gQ.go z rfl λd z=>pq (I7 A) λf ks n p=>?_;rw[n] at m;have l:gE H (ϊ nb)=d? 1:=len_list m (by simp);have b:bN (ϊ nb) (ϋ 0) H=d? (ύ [ϋ f,ύ (aN ks)]):=br (k:=0) m rfl (by decide);have u:∀{H':Hp},gE H' (ύ [ϋ (j:C?)])=d? 1:=rfl;simp![u];show⟨by decide,by decide,?_⟩;rw[show((l! (1:C?).toNat).map λ(j:m?)=>ϋ (j:C?))=[ϋ 0] from rfl];have body:∀{g:Hp} {js:g? V} {K:KE},Nx H ts g ts->js=aN ks->(∀T H',Nx H ts H' T->cQ R a tid->K (ϑ j?) H')->(∀T H',Nx H ts H' T->¬cQ R a tid->K (ϑ f?) H')->
   aG d 678 [ϊ h,ϋ j,ϋ f,ύ js,ϋ 0] g K:=by
  intro g js K a1 e P E;clear b m;subst e;show xW (by omega) o (w.nx a1) (v.nx a1) (a1.code C) n B λy T H' r c=>?_;cases y using so with
  |true=>exact P T H' (a1.trans c) (r.mp rfl)
  |false=>exact E T H' (a1.trans c) (λD=>by have:=r.mpr D;cases this)
 simp![bC,cz,K?,l,b,ec,J?];simp![aw (v.bB)];clear b n m;rcases p with rfl|rfl
 ·show vJ (by omega) w.kt λg a1=>?_;show body a1 rfl (λT H' r c=>?_) (λT H' r c=>?_)
  ·simp![];exact q 0 T H' (x? ⟨rfl,c⟩) r
  ·simp![];exact q 8 T H' (u? ⟨rfl,c⟩) r
 ·show xy (k:=17) (by omega) w.kt w.c17 rfl λg a1=>?_;show body a1 rfl (λT H' r c=>?_) (λT H' r c=>?_)
  ·simp![];exact q 0 T H' (x? ⟨rfl,c⟩) r
  ·simp![];exact q 8 T H' (u? ⟨rfl,c⟩) r
theorem rR {nb:m?} {x:V} (b:2<=d) (q:Q (ϋ 0) H):aG d 699 [ϊ h,ϊ nb,ύ [],x,ύ []] H Q:=by
 show gQ.go b rfl λd b=>?_;simp![show gE H (ύ [])=d? 0 from rfl];show⟨by decide,by decide,?_⟩;rw[show((l! (0:C?).toNat).map λ(j:m?)=>ϋ (j:C?))=[] from rfl];simp![bC,K?];exact q
theorem TI (t:Tm):b? t.args<=1:=by cases t using ϐ<;>simp[Tm.args]
theorem oy {sv:D?} (hd:31<=d) (o:bj R) (w:WS H ts) (v:aM H h ts R) (O:ts[k]? = d? t) (N:t.named=j?->iR t.tid=j?) (q:∀y H',Nx H ts H' y->Q (ϋ (dR R t)) H')
  (I:t.named=j?) (ks:g? m?) (m:aL ts t.args ks) (D:(t.sort:C?)=(if sv=j? then 3 else 2)) (z:∀i:m?,(sv≠decide (bD t.tid=2)->i=15)->(sv=decide (bD t.tid=2)->b? t.args≠d5 t.tid->i=9)->(sv=decide (bD t.tid=2)->b? t.args=d5 t.tid->t.args=[]->i=0)->(∀a,sv=decide (bD t.tid=2)->b? t.args=d5 t.tid->t.args=[a]->(cQ R a t.tid->i=0)/\(¬cQ R a t.tid->i=8))->dR R t=i)
  (E:∀a,t.args=[a]->t.tid=72->sv=f?->A2 a) :
  bu Ā d eZ [d? (ϊ h),d? (ϊ 2),d? (ϋ k),d? (ϋ t.sort),e?,d? (ύ (aN ks)),e?] H (dA Q):=by
 have n:=q ts H (Nx.refl w.kt);have c:=N I;have T:=w.Po c;have x:t.tid<74:=by rcases uv c with h|h|h|h|h|h|h|h|h|h|h<;>omega
 show fL T.params λnp lp J Y M=>bf T.bounds λnb K L=>?_;have B:=m.len;have A:=TI t;simp![eZ,aw (w.dq),aw (v.bB)];show fy (by omega) w.kt O ?_;simp![aw (w.rE x),XD,c,T.sort,D];have S:¬((bD t.tid:C?)=5):=by unfold bD;split<;>(try split)<;>omega
 have p:sv=decide (bD t.tid=2)->bu Ā d eX [d? (ϊ h),d? (ϊ 2),d? (ϋ k),d? (ϋ t.sort),e?,d? (ύ (aN ks)),d? (ϊ (OV t.tid))] H (dA Q):=by
  intro g;have F:gE H (ύ (aN ks))=d? (b? ks:C?):=by
   simp![gE,aJ,aI,show(b? ks)<10000000 from by omega]
  simp![eX,F,J];rw[len_list Y (by rw[M];unfold d5;split<;>omega),bL,M];clear c I N O;by_cases f:b? t.args=d5 t.tid
  ·simp![show((b? ks:C?)=(d5 t.tid:C?)) from by omega,K];cases b:t.args using aab with
   |nil=>
    rw[b] at m;cases ks using aab with
    |cons _ _=>exact m.elim
    |nil=>
     show rR (by omega) ?_;rw[z 0 (λh=>absurd g h) (λZ h=>absurd f h) (λZ Z Z=>rfl) (λa Z Z h=>by rw[b] at h;cases h)] at n;exact n
   |cons a r=>
    have X:r=[]:=by rw[b] at A;simpa using A
    subst X;rw[b] at m;match ks,m with
    |[j],m=>
     have W:d5 t.tid=1:=by rw[<- f,b];rfl
     show rT (by omega) o w v m.1 L W (λe=>E a b e (by rw[g];simp[bD,e])) λi y H' C r=>?_;have:=z i (λh=>absurd g h) (λZ h=>absurd f h) (λZ Z h=>by rw[b] at h;cases h) (λa' Z Z h=>by
      rw[b] at h;cases h;clear E z D B L K M J x T;rcases C with⟨rfl,C⟩| ⟨rfl,C⟩
      ·exact⟨λZ=>rfl,λh=>absurd C h⟩
      ·exact⟨λh=>absurd h C,λZ=>rfl⟩)
     have P:=q y H' r;rw[this] at P;exact P
  ·simp![show ¬((b? ks:C?)=(d5 t.tid:C?)) from by omega];rw[z 9 (λh=>absurd g h) (λZ Z=>rfl) (λZ h=>absurd h f) (λa Z h=>absurd h f)] at n;exact n
 clear B L K M J x c m I q;by_cases l:bD t.tid=2
 ·have u:((bD t.tid:C?)=2):=by omega
  simp![u,aw (wy)];clear E D;cases sv using so with
  |true=>
   exact p (by simp[l])
  |false=>
   rw[z 15 (λZ=>rfl) (λh=>by simp[l] at h) (λh=>by simp[l] at h) (λa h=>by simp[l] at h)] at n;exact n
 ·have u:¬((bD t.tid:C?)=2):=by omega
  simp![u,S,aw (wy),T.sort];clear E D;cases sv using so with
  |false=>
   exact p (by simp[l])
  |true=>
   rw[z 15 (λZ=>rfl) (λh=>by simp[l] at h) (λh=>by simp[l] at h) (λa h=>by simp[l] at h)] at n;exact n
theorem lY (C:32<=d) (o:bj R) (w:WS H ts) (v:aM H h ts R) (g:ts[k]? = d? t) (D:t.sort≠10) (m:t.named=j?->iR t.tid=j?)
  (q:∀T H',Nx H ts H' T->Q (ϋ (dR R t)) H'):aG d 720 [ϊ h,ϊ 2,ϋ k] H Q:=by
 show jm.go C rfl λd C=>?_;simp![aw (v.bB)];show bk (by omega) w.kt g ?_;simp![j7];have l:=q ts H (Nx.refl w.kt);have W:∀a,t.args=[a]->t.tid=72->∀s tid,t=ϗ s tid a->s=f?->A2 a:=by
  rintro a _ e s tid rfl rfl;have:tid=72:=e;clear e l q;subst this;exact Vi (w.kt.mem g)
 cases t using ϐ with
 |n0 s tid=>
  have:=oy (sv:=s) (d:=d) (by omega) o w v g m q rfl [] trivial (by cases s using so<;>rfl) (λi r x z B=>by
   simp![dR];by_cases b:s=decide (bD tid=2)
   ·rw[E? (by simpa using b)];clear l q m g W;by_cases f:0=d5 tid
    ·rw[E? (by simpa using f)];exact(z b f rfl).symm
    ·rw[P? f];exact(x b f).symm
   ·rw[P? b];exact(r b).symm) (λa h=>by cases h)
  clear W l q m;cases s using so<;>(
   (try simp only[Tm.sort] at this);(simp![Tm.sort,aw (v.bB)])
   show ot (by omega) w.kt g λks y=>?_;cases ks using aab with
   |nil=>exact this
   |cons _ _=>exact y.elim)
 |n1 s tid a=>
  have hh:∀ks,aL ts [a] ks->_:=λks y=>oy (sv:=s) (d:=d) (by omega) o w v g m q rfl ks y (by cases s using so<;>rfl) (λi r x z B=>by
   simp![dR];by_cases b:s=decide (bD tid=2)
   ·rw[E? (by simpa using b)];by_cases f:1=d5 tid
    ·rw[E? (by simpa using f)];have:=B a b f rfl;clear l q m g W;by_cases A:cQ R a tid
     ·rw[P? A];exact(this.1 A).symm
     ·rw[E? A];exact(this.2 A).symm
    ·rw[P? f];exact(x b f).symm
   ·rw[P? b];exact(r b).symm) (λE r x z=>by cases r;exact W a rfl x s tid rfl z)
  clear W l q m;cases s using so<;>(
   (try simp only[Tm.sort] at hh);(simp![Tm.sort,aw (v.bB)])
   show ot (by omega) w.kt g λks y=>?_;exact hh ks y)
 |q s n=>cases s using so<;>((simp![Tm.sort]);exact l)
 |u c t=>cases c using ϙ<;>((simp![Tm.sort,U.sort]);exact l)
 |p n=>(simp![Tm.sort]);exact l
 |f0 o=>exact absurd rfl D
 |f1 o t=>exact absurd rfl D
end
end
def G4 (T:Tm):p? Tm:=ϐ T (λZ=>e?) (λZ Z=>e?) (λZ Z=>e?) (λZ Z a=>d? a) (λZ=>e?) (λZ Z=>e?) (λk t=>ϙ k (d? t) (d? t) (e?) (e?) (e?))
def dv (R:Ĉ):Tm->m?
 |.p n=>if n=14\/n=15 then 15 else 0
 |.q s n=>if Đ R (.q s n)=j? then 0 else 9
 |Ϡ _ _=>0
 |ϗ _ _ t=>dv R t
 |.f0 _=>15
 |.f1 _ _=>15
 |.u .a t=>dv R t
 |.u .r t=>dv R t
 |.u _ _=>15
def cL (R:Ĉ):Tm->m?
 |Ϡ s tid=>if iR tid=f? then 1 else dR R (Ϡ s tid)
 |ϗ s tid a=>if iR tid=f? then 1 else if cL R a≠0 then cL R a else dR R (ϗ s tid a)
 |.u .a t=>cL R t
 |.u .r t=>cL R t
 |_=>0
def Tm.size:Tm->m?
 |ϗ _ _ t=>t.size+1
 |.f0 o=>o.size+1
 |.f1 o t=>o.size+t.size+1
 |.u _ t=>t.size+1
 |_=>1
theorem GR (h:G4 t=d? c):c.size<t.size:=by
 cases t using ϐ with
 |n1 s n a=>cases h;exact Ē _
 |u k a=>cases k using ϙ<;>first|(cases h;exact Ē _)|cases h
 |_=>cases h
theorem size_pos (t:Tm):0<t.size:=by cases t using ϐ<;>exact ň _
theorem Zr (b:D?):(0:m?)=if(if f?=j?/\b=f? then 1 else 0)=1 then 1 else 0:=by cases b using so<;>rfl
theorem ZD (b:D?) (x:m?):(if b=f? then 1 else x)=if(if j?=j?/\b=f? then 1 else 0)=1 then 1 else x:=by cases b using so<;>rfl
theorem ZM (b:D?) (x:m?):x=if(if f?=j?/\b=f? then 1 else 0)=1 then 1 else if x≠0 then x else 0:=by
 cases x using aac with
 |zero=>cases b using so<;>rfl
 |succ n=>cases b using so<;>rfl
theorem named_eq (R:Ĉ) (t:Tm):cL R t=if sq t=1 then 1 else match G4 t with
  |Option.none=>dR R t
  |some c=>if cL R c≠0 then cL R c else dR R t:=by
 cases t using ϐ with
 |n0 s tid=>exact ZD (iR tid) _
 |n1 s tid a=>exact ZD (iR tid) _
 |u k a=>cases k using ϙ<;>first|exact ZM _ _|exact Zr _
 |_=>exact Zr _
theorem IQ (h:dv R t=0):t.dO=(G4 t).toList/\t.sort≠10/\∀c,G4 t=d? c->dv R c=0:=by
 cases t using ϐ with
 |f0 o=>cases h
 |f1 o t=>cases h
 |n1 s n a=>exact⟨rfl,by cases s using so<;>exact X_ rfl,λc e=>by cases e;exact h⟩
 |u k a=>cases k using ϙ<;>first|(cases h;done)|exact⟨rfl,X_ rfl,λc e=>by cases e;exact h⟩
 |p n=>exact⟨rfl,X_ rfl,λc e=>by cases e⟩
 |q s n=>exact⟨rfl,by cases s using so<;>exact X_ rfl,λc e=>by cases e⟩
 |n0 s n=>exact⟨rfl,by cases s using so<;>exact X_ rfl,λc e=>by cases e⟩
def outer (R:Ĉ):g? Tm->m?->m?
 |[],x=>x
 |a::r,x=>outer R r (if x≠0 then x else dR R a)
theorem MA (R:Ĉ) (x:m?):outer R [] x=x:=rfl
theorem jx (R:Ĉ) (x:m?) (a:Tm) (r:g? Tm):outer R (a::r) x=outer R r (if x≠0 then x else dR R a):=rfl
theorem rJ (h:x≠0):∀l:g? Tm,outer R l x=x:=by
 intro L;induction L with
 |nil=>
  exact rfl
 |cons a r i=>
  simp only[MA,jx,P? h];exact i
theorem uC (h:t∈ă):t.size<=50:=by
 have:=bI (P:=λt=>decide (t.size<=50)) (by decide+kernel) h
 simpa using this
theorem Iz (a:H[n]? = d? (ό (xs++[x]))) (h:b? xs<1000000):bN (ϊ n) (ϋ (-1)) H=d? x:=by
 simp only[bN,a,Ď,I?,Z_,vI,vS,vT,fO,F?];rw[E? (by omega),P? (by omega)];simp only[F?];rw[show((-1:C?)+((b? xs+1:m?):C?)).toNat=b? xs from by omega];exact ģ
section
inductive CK (H:Hp) (ts:g? Tm) (R:Ĉ) (h k:m?) (t:Tm) (n:m?) (ρ:Ă) (Hc:Hp):Prop
 |mk (tc st bg cd:g? Tm) (sk kb kc:g? m?) (o6 o7 o8:p? V) (h1_:ρ=[d? (ϊ h),d? (ϊ 2),d? (ϋ k),d? (ϊ (b? H)),d? (ϊ (b? H+1)),d? (ϊ (b? H+2)),o6,o7,o8]) (h2_:Nx H ts Hc tc) (h3_:Hc[b? H]? = d? (ώ (bE kb))) (h4_:Hc[b? H+1]? = d? (ώ (bE kc))) (h5_:Hc[b? H+2]? = d? (ό (aN sk.reverse))) (h6_:aL tc st sk) (h7_:aL tc bg kb) (h8_:aL tc cd kc) (h9_:(∀x∈st,dv R x=0)) (h10_:st.Pairwise (λx y=>x.size<y.size)) (h11_:b? bg<=50) (h12_:b? st<=50) (h13_:b? cd+b? st<=51) (h14_:((∃c anc,st=c::anc/\n=2 * c.size+b? st+1/\b? bg+c.size<=50/\b? st+c.size<=51/\(∀x∈bg,c.size<x.size)/\(∀x∈anc,x∈bg/\sq x=0)/\cd=[]/\cL R t=outer R anc (cL R c))\/(n=b? st/\(∀x∈st,x∈bg/\sq x=0)/\(∀x∈cd,∀y∈st,x.size<y.size)/\cL R t=outer R st 0))):CK H ts R h k t n ρ Hc
theorem Pt (h:sq x=0):x.named=j?->iR x.tid=j?:=λH=>by
 unfold sq at h;rw[H] at h;cases e:iR x.tid using so with
 |true=>rfl
 |false=>rw[e] at h;simp at h
theorem TN (x:Tm):sq x=0\/sq x=1:=by unfold sq;split<;>simp
theorem vE {d:m?} {H:Hp} {M:g? Tm} {k:m?} {t:Tm} {h:m?} {R:Ĉ} (hd:35<=d) (o:bj R) (w:WS H M) (v:aM H h M R) (ht:M[k]? = d? t) (hodd:dv R t=0)
  (q:∀T H',Nx H M H' T->Q (ϋ (cL R t)) H'):aG d 706 [ϊ h,ϊ 2,ϋ k] H Q:=by
 show pC.go hd rfl λd hd=>?_;have hsz:=uC (w.kt.mem ht);have e0:(H++[ώ []]++[ώ []]++[ό [ϋ (k:C?)]])[b? H]? = d? (ώ (bE [])):=aC (aC aD);have D:(H++[ώ []]++[ώ []]++[ό [ϋ (k:C?)]])[b? H+1]? = d? (ώ (bE [])):=by
  have:=aD (H:=H++[ώ []]) (c:=ώ []);rw[show(H++[ώ []]).length=b? H+1 from I?] at this;exact aC this
 have e2:(H++[ώ []]++[ώ []]++[ό [ϋ (k:C?)]])[b? H+2]? = d? (ό (aN [k].reverse)):=by
  have:=aD (H:=H++[ώ []]++[ώ []]) (c:=ό [ϋ (k:C?)]);rw[show(H++[ώ []]++[ώ []]).length=b? H+2 from by simp] at this;exact this
 have a0:Nx H M (H++[ώ []]++[ώ []]++[ό [ϋ (k:C?)]]) M:=((Nx.app w.kt _).trans (Nx.app (Nx.app w.kt _).kt _)).trans (Nx.app ((Nx.app w.kt _).trans (Nx.app (Nx.app w.kt _).kt _)).kt _);simp![];rw[show(H++[ώ []]).length=b? H+1 from I?,show(H++[ώ []]++[ώ []]).length=b? H+2 from by simp];generalize (H++[ώ []]++[ώ []]++[ό [ϋ (k:C?)]])=H0 at *;show⟨CK H M R h k t,2 * t.size+1+1,⟨M,[t],[],[],[k],[],[],_,_,_,rfl,a0,e0,D,e2,⟨ht,trivial⟩,trivial,trivial,by simpa using hodd,by simp,w_ _,ň _,ň _,x? ⟨t,[],rfl,rfl,by simp;omega,by simp;omega,(λ_ h=>nomatch h),(λ_ h=>nomatch h),rfl,rfl⟩⟩,?_⟩;rintro n ρ Hc ⟨tc,st,bg,cd,s,kb,kc,o6,o7,o8,rfl,ac,c0,c1,I,C,B,u,b,l,hbl,X,hcl,ph⟩;have m:=C.len;have hkbl:=B.len;have hkcl:=u.len;simp![aw (fw I (by rw[aI,ġ];omega))];cases st using aab with
 |nil=>
  clear X I;cases s using aab with
  |cons _ _=>exact C.elim
  |nil=>
   rcases ph with q_|q_
   ·show pq q_ λc A e Z=>?_;clear C l b D m hcl;cases e
   ·show U9 q_ λZ Z Z z=>?_;have:=q tc Hc ac;rw[z] at this;exact this
 |cons c A=>
  cases s using aab with
  |nil=>exact C.elim
  |cons j s=>
   have S:=C.1;have hc2:(aN (j::s).reverse)=aN s.reverse++[ϋ (j:C?)]:=by rw[S_,cF];rfl
   rw[hc2] at I;have hne:(!(aN (j::s).reverse).isEmpty)=j?:=by rw[hc2];simp
   have hoc:=b c o?;show fP (IQ hoc) λhsub L Y=>?_;have W:=ē.mp l;simp![hne,aw (Iz I (show(aN s.reverse).length<1000000 by rw[aI,ġ];simp at m X;omega)),bK,jS c0];have K:=B.mem S ac.kt.inj;simp only[Q?] at m X hcl;rcases ph with q_|q_
   ·obtain⟨c',anc',e,rfl,hb1,P,F,g,rfl,z⟩:=q_;clear L hoc;cases e;have hpcs:=size_pos c;simp only[Q?] at P;have hns:j∉kb:=λhh=>by have:=F c (K.mp hh);omega
    simp![hns,aw (gU c0 hns (by omega))];show hset (ώ (bE (kb++[j]))) c0 ac (J? _) λHd d0 J N=>?_;have d1:=J _ _ (by omega) c1;have d2:=J _ _ (by omega) I;have vd:=v.nx N;have wd:=w.nx N;show kX (by omega) wd S ?_;simp![aw (vd.bB),wd.kt.cP];show gV (by omega) wd.kt S λr hr=>?_;show eu (by omega) hr λjs i=>?_;have hjl:=i.len;have hsl2:=qD (t:=c);show bo (wU (by rw[aI];omega)) ?_;show bo (ba (by simp[aI];omega)) ?_;show jR (n:=b? H+2) (by decide) (λys=>⟨ba (by simp[aI];omega),rfl⟩) rfl (J? _) d2 (by simp[aI];omega) λo'=>?_;rcases TN c with h0|h1
    ·rw[h0];have O:aL tc (bg++[c]) (kb++[j]):=B.app ⟨S,trivial⟩;rw[hsub] at i;have f:=named_eq R c;rw[h0] at f;cases D:G4 c using aaa with
     |none=>
      rw[D] at i f;clear m I;cases js using aab with
      |cons _ _=>exact i.elim
      |nil=>
       show⟨b? (c::A),by simp only[Q?];omega,tc,c::A,bg++[c],[],j::s,kb++[j],kc,_,_,_,rfl,N.set _ (by omega),ae d0 (by omega),ae d1 (by omega),?_,C,O,u,b,l,by simp;omega,by omega,by omega,u? ⟨rfl,λx a=>?_,(λ_ h=>nomatch h),?_⟩⟩
       ·have:=ah (c':=ό (aN s.reverse++[ϋ (j:C?)]++(aN []).reverse)) d2
        simpa [aN] using this
       ·rcases G?.mp a with rfl|a
        ·exact⟨i! _ o?,h0⟩
        ·exact⟨V? _ (g x a).1,(g x a).2⟩
       ·rw[z,f];simp[jx]
     |some p=>
      rw[D] at i f;have hlt:=GR D;have hp1:=size_pos p;match js,i with
      |[j1],i=>
       show⟨2 * p.size+b? (p::c::A)+1,by simp only[Q?];omega,tc,p::c::A,bg++[c],[],j1::j::s,kb++[j],kc,_,_,_,rfl,N.set _ (by omega),ae d0 (by omega),ae d1 (by omega),?_,⟨i.1,C⟩,O,u,?_,?_,by simp;omega,by simp;omega,by simp;omega,x? ⟨p,c::A,rfl,rfl,by simp;omega,by simp;omega,λx a=>?_,λx a=>?_,rfl,?_⟩⟩
       ·have:=ah (c':=ό (aN s.reverse++[ϋ (j:C?)]++(aN [j1]).reverse)) d2
        simpa [aN] using this
       ·intro x a;clear C l f z F P hb1 hjl O h0;clear hsl2 hr hpcs;rcases G?.mp a with rfl|a
        ·exact Y _ D
        ·exact b x a
       ·show ē.mpr ⟨λx a=>?_,l⟩;clear C l b D f z F P hb1 hjl;clear O h0 hsl2 hr;rcases G?.mp a with rfl|a
        ·exact hlt
        ·have:=W.1 x a;omega
       ·rcases N?.mp a with a|a
        ·have:=F x a;omega
        ·rw[B?.mp a];exact hlt
       ·rcases G?.mp a with rfl|a
        ·exact⟨i! _ o?,h0⟩
        ·exact⟨V? _ (g x a).1,(g x a).2⟩
       ·rw[z,f];simp[jx]
    ·rw[h1];simp![];have f:=named_eq R c;rw[h1,P? rfl] at f;have:=q tc _ (N.set (n:=b? H+2) (ό (aN s.reverse++[ϋ (j:C?)]++(aN js).reverse)) (by omega));rw[z,f,rJ (by decide)] at this;exact this
   ·show U9 q_ λq_0 g hb5 z=>?_;clear Y hsub;subst q_0;have hin:j∈kb:=K.mpr (g c o?).1;simp![hin,aw (mY (x:=ϋ (j:C?)) I (show(aN s.reverse).length<1000000 by rw[aI,ġ];omega))];show hset (ό (aN s.reverse)) I ac (by omega) λHd d2 J N=>?_;have d0:=J _ _ (by omega) c0;have d1:=J _ _ (by omega) c1;have hnc:j∉kc:=λhh=>by
     have:=hb5 c ((u.mem S ac.kt.inj).mp hh) c o?;omega
    simp![bK,jS d1,hnc,aw (gU d1 hnc (by omega))];show hset (ώ (bE (kc++[j]))) d1 N (by omega) λHf f1 J af=>?_;have f0:=J _ _ (by omega) d0;have f2:=J _ _ (by omega) d2;have h9:=af.base;show lY (by omega) o (w.nx af) (v.nx af) S L (Pt (g c o?).2) λT H' r=>?_;clear l D;clear K;by_cases hz:dR R c=0
    ·simp![hz];show⟨b? A,J? _,T,A,bg,cd++[c],s,kb,kc++[j],_,_,_,rfl,af.trans r,r.keep _ _ (by omega) f0,r.keep _ _ (by omega) f1,r.keep _ _ (by omega) f2,r.codes C.2,r.codes B,r.codes (u.app ⟨S,trivial⟩),λx a=>b x (q? _ a),W.2,hbl,by omega,by simp;omega,u? ⟨rfl,λx a=>g x (q? _ a),λx a y hy=>?_,?_⟩⟩
     ·rcases N?.mp a with a|a
      ·exact hb5 x a y (q? _ hy)
      ·rw[B?.mp a];exact W.1 y hy
     ·rw[z];simp[jx,hz]
    ·simp![Ī,show ¬((dR R c:C?)=0) from by omega];have:=q T H' (af.trans r);rw[z] at this;simp only[jx,Ī,A!,aa9] at this;rw[rJ hz] at this;exact this
end
def dw (R:Ĉ) (t:Tm):m?:=if dv R t≠0 then dv R t else cL R t
section
inductive NF (H:Hp) (ts:g? Tm) (R:Ĉ) (h k:m?) (t:Tm) (n:m?) (ρ:Ă) (Hc:Hp):Prop
 |mk (mt:g? Tm) (km:g? m?) (o5 o6 o7:p? V) (h1_:ρ=[d? (ϊ h),d? (ϊ 2),d? (ϋ k),d? (ϊ (b? H)),d? (ϊ (b? H+1)),o5,o6,o7]) (h2_:Nx H ts Hc ts) (h3_:Hc[b? H+1]? = d? (ώ (bE km))) (h4_:aL ts mt km) (h5_:b? mt<=50) (h6_:((n=0/\Hc[b? H]? = d? (ό [])/\dv R t=0)\/∃(c:Tm) (j:m?),n=c.size/\Hc[b? H]? = d? (ό [ϋ j])/\ts[j]? = d? c/\dv R t=dv R c/\(∀x∈mt,c.size<x.size)/\b? mt+c.size<=50)):NF H ts R h k t n ρ Hc
def Wd (H:Hp) (T:g? Tm) (R:Ĉ) (h k:m?) (t:Tm) (j:m?) (r:V) (o7:p? V) (a:Hp) (c:Tm):Prop:=dv R c=0->G4 c=e?->∃K,K<c.size/\NF H T R h k t K [d? (ϊ h),d? (ϊ 2),d? (ϋ k),d? (ϊ (b? H)),d? (ϊ (b? H+1)),d? (ϋ j),d? r,o7] a
def WX (d:m?) (H:Hp) (T:g? Tm) (R:Ĉ) (h k:m?) (t:Tm) (j:m?) (r:V) (o7:p? V) (b:Hp) (c:Tm):Prop:=∀{P:Fl->Ă->Hp->Prop},c.isVar=f?->(∀x,c.dO=[x]->dv R c=dv R x/\x.size<c.size)->(c.dO=[]->dv R c=0)->b? c.dO<=1->(∀ρ a K,K<c.size->NF H T R h k t K ρ a->P ϒ ρ a)->bu Ā d eT [d? (ϊ h),d? (ϊ 2),d? (ϋ k),d? (ϊ (b? H)),d? (ϊ (b? H+1)),d? (ϋ j),d? r,o7] b P
theorem tK {d:m?} {H:Hp} {T:g? Tm} {k:m?} {t:Tm} {h:m?} {R:Ĉ} (hd:37<=d) (o:bj R) (w:WS H T) (v:aM H h T R) (ht:T[k]? = d? t)
  (q:∀J H',Nx H T H' J->Q (ϋ (dw R t)) H'):aG d 769 [ϊ h,ϊ 2,ϋ k] H Q:=by
 show nA.go hd rfl λd hd=>?_;have hsz:=uC (w.kt.mem ht);have e0:(H++[ό [ϋ (k:C?)]]++[ώ []])[b? H]? = d? (ό [ϋ (k:C?)]):=aC aD;have e1:(H++[ό [ϋ (k:C?)]]++[ώ []])[b? H+1]? = d? (ώ (bE [])):=by
  have:=aD (H:=H++[ό [ϋ (k:C?)]]) (c:=ώ []);rw[show(H++[ό [ϋ (k:C?)]]).length=b? H+1 from I?] at this;exact this
 have a0:Nx H T (H++[ό [ϋ (k:C?)]]++[ώ []]) T:=(Nx.app w.kt _).trans (Nx.app (Nx.app w.kt _).kt _);simp![];rw[show(H++[ό [ϋ (k:C?)]]).length=b? H+1 from I?];generalize (H++[ό [ϋ (k:C?)]]++[ώ []])=H0 at *;show⟨NF H T R h k t,t.size,⟨[],[],_,_,_,rfl,a0,e1,trivial,w_ _,u? ⟨t,k,rfl,e0,ht,rfl,(λ_ h=>nomatch h),by simpa using hsz⟩⟩,?_⟩;rintro n ρ Hc ⟨mt,L,o5,o6,o7,rfl,ac,c1,cm,hml,ph⟩;have vc:=v.nx ac;have wc:=w.nx ac;have hkl:=cm.len;rcases ph with q_|q_
 ·show fP q_ λq_0 N C=>?_;simp![aw (fw N (by decide))];show vE (by omega) o wc vc ht C λJ H' r=>?_;have:=q J H' (ac.trans r);unfold dw at this;rw[C] at this;simp![]
  simpa using this
 ·obtain⟨c,j,rfl,N,I,C,hsm,hlen⟩:=q_;have Y:j∉L:=λhh=>by have:=hsm c ((cm.mem I w.kt.inj).mp hh);omega
  simp![aw (fw N (by simp)),List.isEmpty_cons];show bo (mY (xs:=[]) (x:=ϋ (j:C?)) N (by decide)) ?_;show hset (ό []) N ac (J? _) λHd d0 e_ ad=>?_;have d1:=e_ _ _ (by omega) c1;simp![oh,jS d1,Y,aw (gU d1 Y (by omega))];show hset (ώ (bE (L++[j]))) d1 ad (by omega) λM f1 e_ D=>?_;have f0:=e_ _ _ (by omega) d0;have vf:=v.nx D;have W:=w.nx D;have hpc:=size_pos c;have F:aL T (mt++[c]) (L++[j]):=cm.app ⟨I,trivial⟩;simp![aw (W.bB),W.kt.cP];show gV (by omega) W.kt I λr hr=>?_;have f:dv R c=15->Q (ϋ 15) M:=λe=>by
   have:=q T M D;unfold dw at this;rw[C,e] at this;exact this
  have hp:=W.kt.prim I;have stop:Wd H T R h k t j r o7 M c:=λe Z=>
   ⟨0,hpc,mt++[c],L++[j],_,_,_,rfl,D,f1,F,by simp;omega,x? ⟨rfl,f0,by rw[C,e]⟩⟩
  have P:WX d H T R h k t j r o7 M c:=by
   intro PP hv hs1 hs0 X O;simp![eT,aw (W.bB)];show bU (by omega) W.kt I ?_;simp![hv];show eu (by omega) hr λjs g=>?_;have hjl:=g.len;show bo (ba (by rw[aI];omega)) ?_;show jR (n:=b? H) (by decide) (λys=>⟨ba (by rw[aI];omega),rfl⟩) rfl (J? _) f0 (by simp[aI];omega) λo'=>?_;cases z:c.dO using aab with
   |nil=>
    rw[z] at g;cases js using aab with
    |cons _ _=>exact g.elim
    |nil=>exact O _ _ 0 hpc ⟨mt++[c],L++[j],_,_,_,rfl,D.set _ (J? _),ae f1 (by omega),F,by simp;omega,x? ⟨rfl,ah f0,by rw[C,hs0 z]⟩⟩
   |cons x rr=>
    have:rr=[]:=by rw[z] at X;simpa using X
    clear stop f hr hpc I;subst this;rw[z] at g;match js,g with
    |[i],g=>
     obtain⟨m,l⟩:=hs1 x z;exact O _ _ x.size l ⟨mt++[c],L++[j],_,_,_,rfl,D.set _ (J? _),ae f1 (by omega),F,by simp;omega,u? ⟨x,i,rfl,ah f0,g.1,by rw[C,m],λy B=>by
      rcases N?.mp B with B| B
      ·have:=hsm y B;omega
      ·rw[B?.mp B];exact l,by simp;omega⟩⟩
  clear Y N;rcases hp with⟨hk,rfl⟩| ⟨hk,hnp⟩
  ·by_cases h14:j=14
   ·subst h14;simp![];exact f rfl
   ·by_cases h15:j=15
    ·subst h15;simp![];exact f rfl
    ·simp![show ¬((j:C?)=14) from by omega,show ¬((j:C?)=15) from by omega,aw (bP hr)];exact P rfl (λx hx=>by cases hx) (λZ=>E? (by omega)) (by simp[Tm.dO]) (λZ Z K m l=>⟨K,m,l⟩)
  ·simp![show ¬((j:C?)=14) from by omega,show ¬((j:C?)=15) from by omega,aw (bP hr)];cases c using ϐ with
   |p n=>cases hnp
   |q s n=>
    have A:decide ((8:C?)<=((Tm.q s n).sort:C?))=f?:=by cases s using so<;>rfl
    simp![A,eT,aw (W.bB)];show bU (by omega) W.kt I ?_;show Lw (vf.gC W.kt I) λng g1 g2 g3 g4=>?_;simp![Tm.isVar,g1,bK,g4];clear hnp P f hr F hpc hlen hsm I;cases S:Đ R (.q s n) using so with
    |true=>
     exact stop (P? S) rfl
    |false=>
     have:=q T M D;unfold dw at this;rw[C] at this;have e:dv R (.q s n)=9:=E? (by rw[S];exact O?);rw[e,P? (by decide)] at this;exact this
   |n0 s n=>
    have A:decide ((8:C?)<=((Ϡ s n).sort:C?))=f?:=by cases s using so<;>rfl
    simp![A];exact P rfl (λx hx=>by cases hx) (λZ=>rfl) (by simp[Tm.dO]) (λZ Z K m l=>⟨K,m,l⟩)
   |n1 s n x=>
    have A:decide ((8:C?)<=((ϗ s n x).sort:C?))=f?:=by cases s using so<;>rfl
    simp![A];exact P rfl (λy B=>by cases B;exact⟨rfl,Ē _⟩) (λhh=>by cases hh) (by simp[Tm.dO]) (λZ Z K m l=>⟨K,m,l⟩)
   |f0 x=>(simp![Tm.sort]);exact f rfl
   |f1 x y=>(simp![Tm.sort]);exact f rfl
   |u c x=>
    clear hnp stop hr F hpc hlen hsm C I;cases c using ϙ
    case b=>(simp![Tm.sort]);exact f rfl
    case o=>(simp![Tm.sort]);exact f rfl
    case w=>(simp![Tm.sort]);exact f rfl
    case a=>
     exact P rfl (λy B=>by cases B;exact⟨rfl,Ē _⟩) (λhh=>by cases hh) (by simp[Tm.dO]) (λZ Z K m l=>⟨K,m,l⟩)
    case r=>
     exact P rfl (λy B=>by cases B;exact⟨rfl,Ē _⟩) (λhh=>by cases hh) (by simp[Tm.dO]) (λZ Z K m l=>⟨K,m,l⟩)
end
theorem HB.idx {T:g? Tm} {R:Ĉ} {b g:g? (C?×V)} (m:HB T R b g) (n:∀(i j:m?) (t:Tm),T[i]? = d? t->T[j]? = d? t->i=j) {k:m?} {t:Tm} (l:T[k]? = d? t) (c:Đ R t=j?) :
  ∃ks,aL T (aQ R t) ks/\bx (k:C?) b=d? (ύ (aN ks)):=by
 induction m with
 |nil=>cases c
 |@cons u f bs R j ks b g o p _ I=>
  simp only[en,eG];by_cases e:u=t
  ·subst e;have:=n _ _ _ o l;clear I l c;subst this;rw[P? ((Tm.beq_iff _ _).mpr rfl),P? rfl];exact⟨ks,p,rfl⟩
  ·rw[E? (λh=>e ((Tm.beq_iff _ _).mp h)),E? (λh=>by
    have:j=k:=by omega
    clear I c h;subst this;rw[o] at l;cases l<;>exact e rfl)]
   have m:Tm.beq u t=f?:=by
    cases h:Tm.beq u t using so with
    |false=>rfl
    |true=>exact absurd ((Tm.beq_iff _ _).mp h) e
   simp only[Đ,M!,m] at c;exact I c
section
variable {d:m?} {H:Hp} {ts:g? Tm} {k j:m?} {s t a:Tm} {Q:V->Hp->Prop} {h:m?} {R:Ĉ}
theorem aM.Bf (v:aM H h ts R) (w:KT H ts) (p:ts[k]? = d? t) (o:Đ R t=j?):∃n ks,aA H "bounds" (ϊ h)=d? (ϊ n)/\bN (ϊ n) (ϋ k) H=d? (ύ (aN ks))/\aL ts (aQ R t) ks:=by
 obtain⟨E,q,r,u,x,y,m,A,b,g,f,i,z,l,_⟩:=v.inst;exact bf (l.idx w.inj p o) λks c e=>⟨m,ks,ay f (by kernel_rfl),by simp only[bN,i,e,vI,vS,vT,fO,F?],c⟩
inductive BQ (H:Hp) (ts:g? Tm) (R:Ĉ) (h k:m?) (t:Tm) (n:m?) (ρ:Ă) (Hc:Hp):Prop
 |mk (bs td:g? Tm) (ks tk:g? m?) (o4 o5:p? V) (h1_:n=b? td+bX R (t::bs)) (h2_:ρ=[d? (ϊ h),d? (ϋ k),d? (ϊ (b? H)),d? (ϊ (b? H+1)),o4,o5]) (h3_:Nx H ts Hc ts) (h4_:Hc[b? H]? = d? (ώ (bE ks))) (h5_:Hc[b? H+1]? = d? (ό (aN tk))) (h6_:aL ts bs ks) (h7_:aL ts td tk) (h8_:bs.Nodup) (h9_:t∉bs) (h10_:(∀b∈bs,Ą R t b)) (h11_:(∀b∈td,Ą R t b)) (h12_:(∀c∈t::bs,∀b∈aQ R c,b∈bs\/b∈td)) (h13_:n<=20):BQ H ts R h k t n ρ Hc
theorem sN (hd:2<=d) (o:bj R) (w:KT H ts) (v:aM H h ts R) (W:ts[k]? = d? t) (hr:Đ R t=j?)
  (q:∀(res:D?) H',Nx H ts H' ts->(res=j?↔Ą R t t)->Q (ϑ res) H'):aG d 762 [ϊ h,ϋ k] H Q:=by
 show mq.go hd rfl λd hd=>?_;have a1:=Nx.app w [ώ []];show fL ((v.nx a1).Bf a1.kt W hr) λnb K hb1 L p=>?_;have hkl:b? K<=2:=by rw[p.len];exact o.eK t
 have e0:(H++[ώ []]++[ό (aN K)])[b? H]? = d? (ώ (bE [])):=aC aD;have e1:(H++[ώ []]++[ό (aN K)])[b? H+1]? = d? (ό (aN K)):=by
  have:=aD (H:=H++[ώ []]) (c:=ό (aN K));rw[show(H++[ώ []]).length=b? H+1 from I?] at this;exact this
 have a2:Nx H ts (H++[ώ []]++[ό (aN K)]) ts:=a1.trans (Nx.app a1.kt _);simp![hb1,L,aw (qf (show(aN K).length<10000000 by rw[aI];omega))];rw[show(H++[ώ []]).length=b? H+1 from I?];generalize (H++[ώ []]++[ό (aN K)])=H2 at *;have O:=o.eK t;have hus:∀S,bX R S<=10:=λS=>by have:=fe (S:=S) o.few;have:=o.short;omega
 show⟨BQ H ts R h k t,b? (aQ R t)+bX R [t],⟨[],aQ R t,[],K,_,_,rfl,rfl,a2,e0,e1,trivial,p,V_,(λe=>nomatch e),(λ_ h=>nomatch h),λb F=>.one F,λc g b F=>?_,?_⟩,?_⟩
 ·rw[B?.mp g] at F;exact u? F
 ·have:=hus [t];omega
 rintro n ρ Hc ⟨bs,td,ks,tk,o4,o5,hn,rfl,ac,c0,D,cb,E,nd,N,rb,J,cl,hn20⟩;have hbl:b? bs<200:=cy nd λb F=>aZ ((rb b F).lO o);have hkl':=cb.len;have r:=E.len;simp![aw (fw D (by rw[aI];omega))];by_cases B:td=[]
 ·subst B;clear r D;cases tk using aab with
  |cons _ _=>exact E.elim
  |nil=>
   show q f? Hc ac ⟨λh=>(by cases h),λhrr=>?_⟩;have key:∀b,Ą R t b->b∈bs:=by
    intro b hr;induction hr with
    |one h=>
     rcases cl t o? _ h with h|h
     ·exact h
     ·cases h
    |more _ h ih=>
     rcases cl _ (q? _ ih) _ h with h|h
     ·exact h
     ·cases h
   exact absurd (key t hrr) N
 ·show XN (E.snoc B) λT b u j q_4 q_5 C I=>?_;subst q_4;subst q_5;rw[cF] at D;have htl':=C.len;simp only[I?,Z_] at hn;have M:(!(aN (u++[j])).isEmpty)=j?:=by simp[aN]
  simp![M];show bo (mY (x:=ϋ (j:C?)) D (by rw[aI];omega)) ?_;show hset (ό (aN u)) D ac (by omega) λHd d1 e_ ad=>?_;have d0:=e_ _ _ (by omega) c0;have l:Ą R t b:=J b (i! _ o?);by_cases i:b=t
  ·subst i;have:j=k:=w.inj _ _ _ I W;clear cl J hn W r E;subst this;simp![];exact q j? Hd ad ⟨λZ=>l,λZ=>rfl⟩
  ·have hjk:¬((j:C?)=(k:C?)):=λe=>by
    have:j=k:=by omega
    clear cl J l hn r E rb N O p;subst this;rw[W] at I;cases I<;>exact i rfl
   simp![hjk,bK,jS d0];have A:=cb.mem I w.inj;clear O p q hr B D L;by_cases P:j∈ks
   ·have m:=A.mp P;simp![P];show⟨b? T+bX R (t::bs),by omega,bs,T,ks,u,_,_,rfl,rfl,ad,d0,d1,cb,C,nd,N,rb,λx f=>J x (by simp[f]),λc g x f=>?_,by omega⟩;rcases cl c g x f with h|h
    ·exact x? h
    ·rcases N?.mp h with h|h
     ·exact u? h
     ·rw[B?.mp h];exact x? m
   ·have m:b∉bs:=λh=>P (A.mpr h);simp![P,aw (gU d0 P (by omega))];show hset (ώ (bE (ks++[j]))) d0 ad (J? _) λHf f0 e_ af=>?_;have f1:=e_ _ _ (by omega) d1;have vf:=v.nx af;show DI (vf.lH af.kt I) λnj kj j1 j2 j3 j4=>?_;have hjl:b? kj<=2:=by rw[j4.len];exact o.eK b
    simp![j1,j2,j3,K?];show bo (ba (by rw[aI];omega)) ?_;have X:fh b (t::bs)=f?:=by
     cases e:fh b (t::bs) using so with
     |false=>rfl
     |true=>
      rcases G?.mp (aO.mp e) with h|h
      ·exact absurd h i
      ·exact absurd h m
    have z:=lD X (R:=R);simp only[m_] at z;show jR (n:=b? H+1) (by decide) (λys=>⟨ba (by rw[aI];omega),rfl⟩) rfl (J? _) f1 (by simp only[aI];omega) λo'=>?_;show⟨b? (T++aQ R b)+bX R (t::(bs++[b])),by simp only[I?];omega,bs++[b],T++aQ R b,ks++[j],u++kj,d? (ϋ (j:C?)),o',rfl,rfl,af.set _ (by omega),ae f0 (by omega),by rw[cF];exact ah f1,cb.app ⟨I,trivial⟩,C.app j4,?_,?_,λx f=>?_,λx f=>?_,λc g x f=>?_,by simp only[I?];omega⟩
    ·rw[f_];exact⟨nd,by simp,λx f y hy=>by rw[B?.mp hy];rintro rfl;exact m f⟩
    ·simp![N?,B?,abr];exact⟨N,λe=>i e.symm⟩
    ·rcases N?.mp f with h|h
     ·exact rb x h
     ·rw[B?.mp h];exact l
    ·rcases N?.mp f with h|h
     ·exact J x (V? _ h)
     ·exact .more l h
    ·have Y:∀c∈t::bs,x∈aQ R c->x∈bs++[b]\/x∈T++aQ R b:=λc g f=>by
      rcases cl c g x f with h|h
      ·exact x? (V? _ h)
      ·rcases N?.mp h with h|h
       ·exact u? (V? _ h)
       ·exact x? (i! _ h)
     clear cl J l r E i hn W z X;rcases G?.mp g with rfl|g
     ·exact Y _ o? f
     ·rcases N?.mp g with g|g
      ·exact Y c (q? _ g) f
      ·rw[B?.mp g] at f;exact u? (i! _ f)
def tell (L:g? m?) (f:m?):g? m?:=if f≠0/\f∉L then L++[f] else L
theorem oR {n f:m?} {L:g? m?} (i:1<=d) (b:H[n]? = d? (ό (aN L))) (l:b? L<1000) (q:Q ϖ (H.set n (ό (aN (tell L f))))):aG d 734 [ϊ n,ϋ f] H Q:=by
 show se.go i rfl λd i=>?_;unfold tell at q;by_cases g:f=0
 ·subst g;simp![];rw[E? (λe=>nomatch e),cV b] at q;exact q
 ·simp![Ī,show ¬((f:C?)=0) from by omega,F!,bK,Cw b];by_cases c:f∈L
  ·simp![c];rw[E? (by simp[c]),cV b] at q;exact q
  ·simp![c,bq b,aw (aV b (v:=ϋ (f:C?)) (by rw[aI];omega)),K?];rw[P? ⟨g,c⟩,cF] at q;exact q
end
section
set_option tactic.hygienic true
theorem Na {g:Type}:∀{l m:g? g},l.Nodup->(∀t∈l,t∈m)->b? l<=b? m:=by
 classical
 intro l;induction l with
 |nil=>intro m Z Z;exact w_ _
 |cons a l i=>
  intro m f c;have h:=c_.mp f;have b:a∈m:=c a o?;have H:b? l<=b? (m.erase a):=i h.2 λt d=>by
   show(aaj ?_).mpr (c t (q? _ d));rintro rfl;exact h.1 d
  have e:0<b? m:=ν b;rw[å b] at H;exact aak e H
structure nv (L:g? m?):Prop where
 nd:L.Nodup
 lt:∀f∈L,f<16
theorem nv.len (o:nv L):b? L<=16:=by
 have:=Na (m:=l! 16) o.nd λf h=>ť.mpr (o.lt f h)
 simpa using this
theorem nv.tell (o:nv L) (a:f<16):nv (tell L f):=by
 unfold Mine.Internal.tell;split
 ·rename_i h;show⟨?_,λx H=>?_⟩
  ·rw[f_];exact⟨o.nd,by simp,λx H y b=>by rw[B?.mp b];rintro rfl;exact h.2 H⟩
  ·rcases N?.mp H with H| H
   ·exact o.lt x H
   ·rw[B?.mp H];exact a
 ·exact o
theorem fH {c:Prop} [ů c] {a b n:m?} (h:a<n) (k:b<n):(if c then a else b)<n:=by
 by_cases H:c
 ·rw[P? H];exact h
 ·rw[E? H];exact k
theorem xt:∀t:Tm,dv R t<16
 |.p n=>fH (by decide) (by decide)
 |.q s n=>fH (by decide) (by decide)
 |Ϡ _ _=>w? rfl
 |ϗ _ _ t=>xt t
 |.f0 _=>w? rfl
 |.f1 _ _=>w? rfl
 |.u .a t=>xt t
 |.u .r t=>xt t
 |.u .b _=>w? rfl
 |.u .o _=>w? rfl
 |.u .w _=>w? rfl
open Classical in
theorem Ny {R:Ĉ} (t:Tm):dR R t<16:=by
 cases t using ϐ with
 |n0 s n=>exact fH (by decide) (fH (by decide) (by decide))
 |n1 s n a=>exact fH (by decide) (fH (by decide) (fH (by decide) (by decide)))
 |_=>exact w? rfl
open Classical in
theorem mG {R:Ĉ}:∀t:Tm,cL R t<16
 |.p n=>w? rfl
 |.q s n=>w? rfl
 |Ϡ _ _=>fH (by decide) (Ny _)
 |ϗ _ _ t=>fH (by decide) (fH (mG t) (Ny _))
 |.f0 _=>w? rfl
 |.f1 _ _=>w? rfl
 |.u .a t=>mG t
 |.u .r t=>mG t
 |.u .b _=>w? rfl
 |.u .o _=>w? rfl
 |.u .w _=>w? rfl
theorem mr (t:Tm):dw R t<16:=by
 exact fH (xt t) (mG t)
def Tm.cf (t:Tm):D?:=ϐ t (λZ=>f?) (λZ Z=>f?) (λZ Z=>f?) (λZ Z Z=>f?) (λZ=>f?) (λZ Z=>f?) (λk Z=>ϙ k (f?) (j?) (f?) (f?) (f?))
def ď (t:Tm):D?:=Tm.beq t (.p 0)
def bM (R:Ĉ) (vo by_:D?) (L:g? m?) (t:Tm):g? m?:=tell (if(vo&&ď t||by_&&t.cf)=j? then tell L 15 else L) (dw R t)
open Classical in
def oN (R:Ĉ) (L:g? m?) (ps:g? (m?×g? Tm)):g? m?:=
 let L':=ps.foldl (λL p=>p.2.foldl (bM R j? j?) L) L
 if ∃t,Đ R t=j?/\Ą R t t then tell L' 2 else L'
theorem nv.bM (o:nv L):nv (bM R a b L t):=by
 show nv.tell ?_ (mr t);split
 ·exact o.tell (by decide)
 ·exact o
structure w9 (H:Hp) (h n:m?):Prop where
 up:n<h
 ups:∀hb hg:m?,aA H "bounds" (ϊ h)=d? (ϊ hb)->aA H "gflags" (ϊ h)=d? (ϊ hg)->n<hb/\n<hg
structure RS (H:Hp) (ts:g? Tm) (h:m?) (R:Ĉ) (n:m?) (L:g? m?):Prop where
 w:WS H ts
 v:aM H h ts R
 o:bj R
 up:w9 H h n
 told:H[n]? = d? (ό (aN L))
 okl:nv L
 big:136<=n
section
theorem w9.keep (l:w9 H h n) (v:aM H h t R) (a:cE E H t H' T) (k:¬E h):w9 H' h n:=by
 obtain⟨o,p,q,r,s,u,e,i,b,g,d,w,y,_⟩:=v.inst;have a3:aA H "bounds" (ϊ h)=d? (ϊ e):=ay d (by kernel_rfl);have a4:aA H "gflags" (ϊ h)=d? (ϊ i):=ay d (by kernel_rfl);have f:=v.big;have c:=a.keep _ _ k (by omega) d;show⟨l.up,λj m x X=>?_⟩;have a5:aA H' "bounds" (ϊ h)=d? (ϊ e):=ay c (by kernel_rfl);have A:aA H' "gflags" (ϊ h)=d? (ϊ i):=ay c (by kernel_rfl);rw[a5] at x;rw[A] at X;cases x;cases X;exact l.ups _ _ a3 a4
theorem RS.nx (x:RS H T h R n L) (a:Nx H T H' t):RS H' t h R n L:=⟨x.w.nx a,x.v.nx a,x.o,x.up.keep (E:=λZ=>a_) x.v a.e (λh=>h),a.keep _ _ (by have:=x.big;omega) x.told,x.okl,x.big⟩
theorem RS.set (x:RS H t h R n L) (o:nv L'):RS (H.set n (ό (aN L'))) t h R n L'/\cE (λZ=>Z=n) H t (H.set n (ό (aN L'))) t:=by
 have b:=x.big;have g:=x.up.up;have a:cE (λZ=>Z=n) H t (H.set n (ό (aN L'))) t:=(Nx.refl x.w.kt).e.turn _ rfl (by omega);show⟨⟨x.w.KW a (by rintro m rfl;exact b),x.v.KW a (λm i b f c d=>?_),x.o,x.up.keep x.v a (by omega),ah x.told,o,b⟩,a⟩;have:=x.up.ups b f c d;omega
theorem Ux {d:m?} {H:Hp} {b:g? Tm} {k:m?} {t:Tm} {h:m?} {n:m?} {R:Ĉ} {L:g? m?} (g:38<=d) (x:RS H b h R n L) (c:b[k]? = d? t)
  (q:∀T H',cE (λZ=>Z=n) H b H' T->RS H' T h R n (tell L (dw R t))->Q ϖ H') :
  aG d 769 [ϊ h,ϊ 2,ϋ k] H λv H=>aG d 734 [ϊ n,v] H λZ H=>Q ϖ H:=by
 show tK (by omega) x.o x.w x.v c λT H' a=>?_;have X:=x.nx a;have i:=X.okl.len;show oR (by omega) X.told (by omega) ?_;obtain⟨f,a2⟩:=X.set (X.okl.tell (mr t));exact q T _ (a.e.trans a2) f
end
end
def eM (p:m?×g? m?):V:=ύ [ϋ (p.1:m?),ύ (aN p.2)]
def bH (T:g? Tm):g? (m?×g? Tm)->g? (m?×g? m?)->Prop
 |[],[]=>ŀ
 |(f,bs)::ps,(g,ks)::rs=>f=g/\aL T bs ks/\bH T ps rs
 |_,_=>a_
theorem bH.up {b T:g? Tm} (e:∀(k:m?) (u:Tm),b[k]? = d? u->T[k]? = d? u):∀{ps:g? (m?×g? Tm)} {rs:g? (m?×g? m?)},bH b ps rs->bH T ps rs
 |[],[]=>λh=>h
 |(f,bs)::ps,(g,ks)::rs=>λh=>⟨h.1,aL.up e h.2.1,bH.up e h.2.2⟩
 |[],_::_=>λh=>h.elim
 |_::_,[]=>λh=>h.elim
theorem bH.len {T:g? Tm}:∀{ps:g? (m?×g? Tm)} {rs:g? (m?×g? m?)},bH T ps rs->b? rs=b? ps
 |[],[]=>λZ=>rfl
 |(f,bs)::ps,(g,ks)::rs=>λh=>R? (λZ=>Z+1) (bH.len h.2.2)
 |[],_::_=>λh=>h.elim
 |_::_,[]=>λh=>h.elim
theorem Qq {x y:C?}:∀{l:g? C?},x∈fG y l↔x=y\/x∈l:=by
 intro b;induction b with
 |nil=>
  simp[uz,nJ]
 |cons z r i=>
  simp only[uz,nJ];split
  ·simp
  ·simp only[G?,i];constructor
   ·rintro(h|h|h)
    ·exact u? (x? h)
    ·exact x? h
    ·exact u? (u? h)
   ·rintro(h|h|h)
    ·exact u? (x? h)
    ·exact x? h
    ·exact u? (u? h)
theorem xZ {x:C?}:∀{l:g? C?},x∈bz l↔x∈l:=by
 intro b;induction b with
 |nil=>
  simp[bz]
 |cons z r i=>
  simp only[bz,Qq,G?,i]
theorem QV {y:C?}:∀{l:g? C?},b? (fG y l)=b? l+1:=by
 intro b;induction b with
 |nil=>
  exact rfl
 |cons z r i=>
  simp only[nJ];split<;>simp[i]
theorem J9:∀{l:g? C?},b? (bz l)=b? l:=by
 intro b;induction b with
 |nil=>
  exact rfl
 |cons z r i=>
  simp only[bz,QV,Q?,i]
theorem HB.len {T:g? Tm} {R:Ĉ} {b g:g? (C?×V)} (c:HB T R b g):b? b=b? R:=by
 induction c with
 |nil=>rfl
 |cons _ _ _ i=>simp[i]
theorem HB.key {T:g? Tm} {R:Ĉ} {b g:g? (C?×V)} (o:HB T R b g):(∀x∈b.map (λZ=>Z.1),∃(k:m?) (t:Tm),x=(k:C?)/\T[k]? = d? t/\Đ R t=j?)/\(∀t,Đ R t=j?->∃k:m?,T[k]? = d? t/\(k:C?)∈b.map (λZ=>Z.1)):=by
 induction o with
 |nil=>exact⟨(λ_ h=>nomatch h),λt h=>by cases h⟩
 |@cons u f bs R k ks b g m q _ I=>
  show⟨λx e=>?_,λt c=>?_⟩
  ·simp only[C!,G?] at e;rcases e with rfl|e
   ·exact⟨k,u,rfl,m,by simp[Đ,(Tm.beq_iff u u).mpr rfl]⟩
   ·show fL (I.1 x e) λK p E i l=>⟨K,p,E,i,?_⟩;simp only[Đ,M!] at l ⊢;rw[l,Bool.or_true]
  ·simp only[Đ,M!,Ğ] at c;rcases c with c|c
   ·rw[<- (Tm.beq_iff _ _).mp c];exact⟨k,m,o?⟩
   ·exact bf (I.2 t c) λK E i=>⟨K,E,by simp only[C!,G?];exact u? i⟩
section
variable {d:m?} {H:Hp} {ts:g? Tm} {k j:m?} {s t a:Tm} {Q:V->Hp->Prop} {h n:m?} {R:Ĉ} {L:g? m?}
theorem hX {P:Hp->Prop} (b:38<=d) (x:RS H ts h R n L) (c:ts[k]? = d? t)
  (q:∀T H',cE (λZ=>Z=n) H ts H' T->RS H' T h R n (tell L (dw R t))->P H') :
  aG d 769 [ϊ h,ϊ 2,ϋ k] H λv H=>aG d 734 [ϊ n,v] H λZ H=>P H:=Ux (Q:=λZ H=>P H) b x c q
theorem ij {P:Hp->Prop} {f:m?} (b:1<=d) (x:RS H ts h R n L) (c:f<16)
  (q:∀H',cE (λZ=>Z=n) H ts H' ts->RS H' ts h R n (tell L f)->P H'):aG d 734 [ϊ n,ϋ f] H λZ H=>P H:=by
 have e:=x.okl.len;show oR b x.told (by omega) ?_;obtain⟨X,a2⟩:=x.set (x.okl.tell c);exact q _ a2 X
theorem Mu (w:KT H ts) (f:ts[k]? = d? t):(ď t=j?↔k=0):=by
 unfold ď;rw[Tm.beq_iff];rcases w.prim f with⟨b,rfl⟩| ⟨b,c⟩
 ·constructor
  ·intro e;cases e;rfl
  ·rintro rfl;rfl
 ·constructor
  ·rintro rfl;cases c
  ·intro e;omega
theorem uQ:((t.sort:C?)=5)↔t.cf=j?:=by
 cases t using ϐ with
 |q s n=>cases s using so<;>simp[Tm.sort,Tm.cf]
 |n0 s n=>cases s using so<;>simp[Tm.sort,Tm.cf]
 |n1 s n t=>cases s using so<;>simp[Tm.sort,Tm.cf]
 |u c t=>cases c using ϙ<;>simp[Tm.sort,U.sort,Tm.cf]
 |_=>simp[Tm.sort,Tm.cf]
theorem lB {S:MS} {i:m?} {ρ:Ă} {chk:Hp->Prop} {H0:Hp} {gB:g? Tm} {f:g? m?->Tm->g? m?} (e:∀T H',cE (λZ=>Z=n) H0 gB H' T->chk H')
  (body:∀(H:Hp) (b:g? Tm) (L:g? m?) (t:Tm) (k:m?) (p:Fl->Ă->Hp->Prop),RS H b h R n L->b[k]? = d? t->(∀T H',cE (λZ=>Z=n) H b H' T->RS H' T h R n (f L t)->p ϒ (ρ.set i (d? (ϋ k))) H')->bu Ā d S (ρ.set i (d? (ϋ k))) H p) :
  ∀{us:g? Tm} {ks:g? m?} {H:Hp} {b:g? Tm} {L:g? m?} {o:p? V} {P:Fl->Ă->Hp->Prop},cE (λZ=>Z=n) H0 gB H b->RS H b h R n L->aL b us ks->(∀T H' O,cE (λZ=>Z=n) H0 gB H' T->RS H' T h R n (us.foldl f L)->P ϒ (ρ.set i O) H')->
   bG (bu Ā d S) (d6 Ā d (ϝ i)) chk (aN ks) (ρ.set i o) H P:=by
 intro l;induction l with
 |nil=>
  intro y;cases y using aab with
  |nil=>
   exact λa x c q=>by rename_i H b L o P;exact⟨e _ _ a,q b H o a x⟩
  |cons B r=>
   exact λz g c m=>by rename_i _ _ _ _ _;exact c.elim
 |cons u us I=>
  intro y;cases y using aab with
  |cons k ks=>
   exact λa x c q=>by
    rename_i H b L o P;show⟨e _ _ a,?_⟩;change bu Ā d S (put (ϋ (k:C?)) (ρ.set i o) i) H _;rw[dn,o_];exact body H b L u k _ x c.1 λT H' A X=>I (ks:=ks) (a.trans A) X (aL.up (λZ Z=>A.code) c.2) q
  |nil=>
   exact λz g c m=>by rename_i _ _ _ _ _;exact c.elim
theorem kS {N:m?} {ps:g? (m?×g? Tm)} {rs:g? (m?×g? m?)} (hd:40<=d) (x:RS H u h R n L) (I:H[N]? = d? (ό (rs.map eM))) (hne:N≠n) (hbig:136<=N) (J:bH u ps rs) (hshort:b? ps<100) (hfew:∀p∈ps,p.2.length<100)
  (q:∀c H',cE (λZ=>Z=n) H u H' c->RS H' c h R n (oN R L ps)->Q ϖ H'):aG d 755 [ϊ h,ϊ 2,ϊ N,ϊ n] H Q:=by
 show nO.go hd rfl λd hd=>?_;have hrl:=J.len;have S:aH H (ϊ N)=d? (rs.map eM):=aj I (by simp;omega);have one:∀{O o5:p? V} (H:Hp) (u:g? Tm) (L:g? m?) (t:Tm) (k:m?) (PP:Fl->Ă->Hp->Prop),RS H u h R n L->u[k]? = d? t->(∀c H',cE (λZ=>Z=n) H u H' c->RS H' c h R n (bM R j? j? L t)->PP ϒ (([d? (ϊ h),d? (ϊ 2),d? (ϊ N),d? (ϊ n),O,o5,e?]:Ă).set 6 (d? (ϋ k))) H')->bu Ā d pT (([d? (ϊ h),d? (ϊ 2),d? (ϊ N),d? (ϊ n),O,o5,e?]:Ă).set 6 (d? (ϋ k))) H PP:=by
  intro O o5 H u L t k PP x B hPP;have K:∀{H':Hp} {L1:g? m?},cE (λZ=>Z=n) H u H' u->RS H' u h R n L1->L1=(if(j?&&ď t||true&&t.cf)=j? then tell L 15 else L)->bu Ā d pG [d? (ϊ h),d? (ϊ 2),d? (ϊ N),d? (ϊ n),O,o5,d? (ϋ k)] H' PP:=by
   intro H' L1 a' X e;subst e;show hX (by omega) X B λC M a2 x2=>?_;exact hPP C M (a'.trans a2) x2
  have h0:=Mu x.w.kt B;by_cases hv:ď t=j?
  ·have hk:=h0.mp hv;clear h0 hPP B;subst hk;simp![];show ij (by omega) x (by decide) λH' a' X=>?_;exact K a' X (by rw[hv];rfl)
  ·have hk:¬((k:C?)=0):=λe=>hv (h0.mpr (by omega));have hv':ď t=f?:=by simpa using hv
   simp![hk,aw (x.w.bB)];show bk (by omega) x.w.kt B ?_;clear h0 hPP B;by_cases hb:t.cf=j?
   ·simp![uQ.mpr hb];show ij (by omega) x (by decide) λH' a' X=>?_;exact K a' X (by rw[hv',hb];rfl)
   ·have hb':t.cf=f?:=by simpa using hb
    simp![show ¬((t.sort:C?)=5) from λe=>hb (uQ.mp e)];exact K (Nx.refl x.w.kt).e x (by rw[hv',hb'];rfl)
 have rows:∀{ps':g? (m?×g? Tm)} {l:g? (m?×g? m?)} {H':Hp} {c:g? Tm} {L':g? m?} {O o5 o6:p? V} {P:Fl->Ă->Hp->Prop},(∀p∈ps',p.2.length<100)->cE (λZ=>Z=n) H u H' c->RS H' c h R n L'->bH c ps' l->(∀C M O o5 o6,cE (λZ=>Z=n) H u M C->RS M C h R n (ps'.foldl (λL p=>p.2.foldl (bM R j? j?) L) L')->P ϒ [d? (ϊ h),d? (ϊ 2),d? (ϊ N),d? (ϊ n),O,o5,o6] M)->
   bG (bu Ā d iI) (d6 Ā d (Ϩ [4,5])) (λH'=>aH H' (ϊ N)=d? (rs.map eM)/\ao H' (ϊ N)=ao H (ϊ N)) (l.map eM) [d? (ϊ h),d? (ϊ 2),d? (ϊ N),d? (ϊ n),O,o5,o6] H' P:=by
  intro ps';induction ps' with
  |nil=>
   intro l H' c L' O o5 o6 P hf a X hr D;cases l using aab with
   |cons _ _=>exact hr.elim
   |nil=>
    have F:=a.keep _ _ hne (by omega) I;exact⟨⟨aj F (by simp;omega),by rw[av F,av I]⟩,D c H' O o5 o6 a X⟩
  |cons p ps' ih=>
   intro l H' c L' O o5 o6 P hf a X hr D;cases l using aab with
   |nil=>exact hr.elim
   |cons r l=>
    obtain⟨f,bs⟩:=p;obtain⟨g,ks⟩:=r;have F:=a.keep _ _ hne (by omega) I;show⟨⟨aj F (by simp;omega),by rw[av F,av I]⟩,?_⟩;have hkl:b? ks<100:=by rw[hr.2.1.len];exact hf _ o?
    simp![J?,K?];show bo (ba (by rw[aI];omega)) ?_;show lB (ρ:=[d? (ϊ h),d? (ϊ 2),d? (ϊ N),d? (ϊ n),d? (ϋ (g:m?)),d? (ύ (aN ks)),e?]) (i:=6) (f:=bM R j? j?) (H0:=H') (gB:=c) (λC M a2=>⟨ba (by rw[aI];omega),rfl⟩) one (o:=o6) (Nx.refl X.w.kt).e X hr.2.1 λC M o' a2 x2=>?_;exact ih (λp hp=>hf p (q? _ hp)) (a.trans a2) x2 (bH.up (λZ Z=>a2.code) hr.2.2) D
 simp![S];show rows hfew (Nx.refl x.w.kt).e x J λT H1 O o5 o6 a1 x1=>?_;obtain⟨e1,e2,e3,e4,e5,e6,hb,hg,b,g,g1,g2,g3,g4,g5,g6⟩:=x1.v.inst;have hR:=x1.o.short;have hbl:=g4.len;obtain⟨key1,key2⟩:=g4.key;simp![show aA H1 "bounds" (ϊ h)=d? (ϊ hb) from ay g1 (by kernel_rfl),g2];show⟨by omega,?_⟩;have hsl:b? ((bz (b.map (λZ=>Z.1))).map ϋ)=b? R:=by rw[N!,J9,N!,hbl]
 show bo (aj aD (by rw[hsl];omega)) ?_;have a2:cE (λZ=>Z=n) H u (H1++[ό ((bz (b.map (λZ=>Z.1))).map ϋ)]) T:=a1.trans (Nx.app x1.w.kt _).e;have x2:=x1.nx (Nx.app x1.w.kt [ό ((bz (b.map (λZ=>Z.1))).map ϋ)]);have A:(H1++[ό ((bz (b.map (λZ=>Z.1))).map ϋ)])[b? H1]? = d? (ό ((bz (b.map (λZ=>Z.1))).map ϋ)):=aD;have hn1:n<b? H1:=(i?.mp x1.told).1;have hall:∀y∈bz (b.map (λZ=>Z.1)),∃(k:m?) (t:Tm),y=(k:C?)/\T[k]? = d? t/\Đ R t=j?:=λy W=>key1 y (xZ.mp W);have hex:∀t,Đ R t=j?->∃k:m?,T[k]? = d? t/\(k:C?)∈bz (b.map (λZ=>Z.1)):=λt B=>by obtain⟨k,h1,h2⟩:=key2 t B;exact⟨k,h1,xZ.mpr h2⟩
 have h136:=x.big;generalize bz (b.map (λZ=>Z.1))=ys at *;generalize (H1++[ό (ys.map ϋ)])=M at *;generalize (b? H1)=m at *;have circ:∀{Y:g? C?} {H':Hp} {L':g? m?} {o6:p? V} {P:Fl->Ă->Hp->Prop},(∀y∈Y,y∈ys)->cE (λZ=>Z=n) H u H' T->cE (λZ=>Z=n) M T H' T->RS H' T h R n L'->(∀H3 o6 L3,cE (λZ=>Z=n) H u H3 T->RS H3 T h R n L3->((∃y∈Y,∃(k:m?) (t:Tm),y=(k:C?)/\T[k]? = d? t/\Ą R t t)->L3=tell L' 2)->((¬∃y∈Y,∃(k:m?) (t:Tm),y=(k:C?)/\T[k]? = d? t/\Ą R t t)->L3=L')->P ϒ [d? (ϊ h),d? (ϊ 2),d? (ϊ N),d? (ϊ n),O,o5,o6] H3)->
   bG (bu Ā d pV) (d6 Ā d (ϝ 6)) (λH'=>aH H' (ϊ m)=d? (ys.map ϋ)/\ao H' (ϊ m)=ao M (ϊ m)) (Y.map ϋ) [d? (ϊ h),d? (ϊ 2),d? (ϊ N),d? (ϊ n),O,o5,o6] H' P:=by
  intro Y;induction Y with
  |nil=>
   intro H' L' o6 P hs a b' X D;have E:=b'.keep m _ (by omega) (by omega) A;exact⟨⟨aj E (by rw[hsl];omega),by rw[av E,av A]⟩,D H' o6 L' a X (λ⟨y,W,_⟩=>by cases W) (λZ=>rfl)⟩
  |cons y Y ih=>
   intro H' L' o6 P hs a b' X D;have E:=b'.keep m _ (by omega) (by omega) A;show⟨⟨aj E (by rw[hsl];omega),by rw[av E,av A]⟩,?_⟩;show fL (hall y (hs y o?)) λk t q_2 B hin=>?_;subst q_2;show sN (by omega) X.o X.w.kt X.v B hin λres H3 r1 r2=>?_;have x3:=X.nx r1;have uniq:∀(k':m?) (t':Tm),(k:C?)=(k':C?)->T[k']? = d? t'->t'=t:=λk' t' e h'=>by
    have:k=k':=by omega
    clear D hs;subst this;rw[B] at h';cases h';rfl
   cases res using so with
   |true=>
    simp![];show ij (by omega) x3 (by decide) λH4 a4 x4=>?_;show ih (λy W=>hs y (q? _ W)) ((a.trans r1.e).trans a4) ((b'.trans r1.e).trans a4) x4 λH5 o6 L5 c1 c2 c3 c4=>D H5 o6 L5 c1 c2 (λZ=>?_) (λhno=>absurd ⟨(k:C?),o?,k,t,rfl,B,r2.mp rfl⟩ hno);have idem:tell (tell L' 2) 2=tell L' 2:=by
     unfold tell;clear D B hs;by_cases h2:(2:m?)∈L'
     ·simp[h2]
     ·simp[h2]
    clear D B hs;by_cases hh:∃y∈Y,∃(k:m?) (t:Tm),y=(k:C?)/\T[k]? = d? t/\Ą R t t
    ·rw[c3 hh,idem]
    ·exact c4 hh
   |false=>
    simp![];show ih (λy W=>hs y (q? _ W)) (a.trans r1.e) (b'.trans r1.e) x3 λH5 o6 L5 c1 c2 c3 c4=>D H5 o6 L5 c1 c2 (λ⟨z,hz,k',t',e1,e2,e3⟩=>?_) (λhno=>c4 λ⟨z,hz,r⟩=>hno ⟨z,q? _ hz,r⟩);clear D B hs;rcases G?.mp hz with rfl|hz
    ·rw[uniq k' t' e1 e2] at e3;have:=r2.mpr e3;cases this
    ·exact c3 ⟨z,hz,k',t',e1,e2,e3⟩
 show circ (λZ h=>h) a2 (Nx.refl x2.w.kt).e x2 λH3 o6 L3 c1 c2 c3 c4=>q T H3 c1 ?_;have:L3=oN R L ps:=by
  unfold oN;by_cases hh:∃t,Đ R t=j?/\Ą R t t
  ·rw[P? hh];exact bf hh λt h1 h2=>bf (hex t h1) λk h3 h4=>c3 ⟨(k:C?),h4,k,t,rfl,h3,h2⟩
  ·rw[E? hh];show c4 λ⟨y,W,k,t,e1,e2,e3⟩=>hh ⟨t,?_,e3⟩;show fL (hall y W) λk' t' f1 f2 f3=>?_;have:k=k':=by omega
   subst this;rw[e2] at f2;cases f2;exact f3
 exact this▸c2
end
def ar (s:D?):m?->g? (m?×g? Tm)->Ĉ
 |_,[]=>[]
 |i,(f,bs)::r=>(.q s i,f,bs)::ar s (i+1) r
theorem cT (s:D?) (x:m?):ar s x []=[]:=rfl
theorem el (s:D?) (x f:m?) (bs:g? Tm) (r:g? (m?×g? Tm)):ar s x ((f,bs)::r)=(Tm.q s x,f,bs)::ar s (x+1) r:=rfl
theorem qt {k:C?} {v:V}:∀{l:g? (C?×V)},(∀x∈l.map (λZ=>Z.1),x≠k)->au k v l=l++[(k,v)]:=by
 intro c;induction c with
 |nil=>
  exact λZ=>rfl
 |cons p r i=>
  obtain⟨K,e⟩:=p;exact λh=>by
   simp only[gW,fq];rw[E? (h K o?),i λx b=>h x (by simp only[C!,G?];exact u? b)];rfl
theorem HB.Th {T:g? Tm} {R:Ĉ} {b g:g? (C?×V)} (c:HB T R b g):b.map (λZ=>Z.1)=g.map (λZ=>Z.1):=by
 induction c with
 |nil=>rfl
 |cons _ _ _ i=>simp[i]
theorem HB.snoc {T:g? Tm} {R:Ĉ} {b g:g? (C?×V)} (i:HB T R b g) {k:m?} {ks:g? m?} {t:Tm} {f:m?} {bs:g? Tm} (c:T[k]? = d? t) (e:aL T bs ks):HB T (R++[(t,f,bs)]) (b++[((k:C?),ύ (aN ks))]) (g++[((k:C?),ϋ f)]):=by
 induction i with
 |nil=>exact .cons c e .nil
 |cons a1 a2 _ I=>exact .cons a1 a2 I
theorem HB.fresh {T:g? Tm} {R:Ĉ} {b g:g? (C?×V)} (i:HB T R b g) {k:m?} {t:Tm} (f:T[k]? = d? t) (l:Đ R t=f?):∀x∈b.map (λZ=>Z.1),x≠(k:C?):=λx m e=>by
 show fL (i.key.1 x m) λK p o E c=>?_;have:K=k:=by omega
 subst this;rw[f] at E;cases E;rw[l] at c;cases c
def EU (f:e!):MS:=Ϣ (Ϫ (.sub (.attr (Ϙ 0) "bounds") (Ϯ f (ϓ (.attr (Ϙ 0) "kt") (ϓ (Ϙ 4) Ϥ)))) (Ϻ (Ϙ 6)))
 (Ϣ (Ϫ (.sub (.attr (Ϙ 0) "gflags") (Ϯ f (ϓ (.attr (Ϙ 0) "kt") (ϓ (Ϙ 4) Ϥ)))) (Ϙ 5)) (ϻ 4 (ϰ 1)))
def dy (e E b c f g:V) (i l:m?):g? (k!×V):=[("kt",ϊ 3),("bases",e),("ifaces",E),("sorts",b),("variances",c),("unders",f),("bounds",ϊ i),("gflags",ϊ l),("news",g),("store",ϊ 2)]
section
variable {d:m?} {H:Hp} {ts:g? Tm} {k j:m?} {s t a:Tm} {Q:V->Hp->Prop} {h n:m?} {R:Ĉ} {L:g? m?}
theorem zZ {n:m?} {k:C?} {v:V} {kvs:g? (C?×V)} (c:H[n]? = d? (ώ kvs)) (b:b? kvs<10000000):cG (ϊ n) (ϋ k) v H=d? (H.set n (ώ (au k v kvs))):=by
 simp only[cG,c,aJ,b,V!,vI,vS,vT,vR,fO,F?]
theorem yl {f:e!} {sb:D?} {E y B D F I:V} {c l nb:m?} {rs:g? (m?×g? m?)} {x2 x3:V} {H0:Hp} {gB:g? Tm}
  (C:∀(H:Hp) (w:g? Tm) (i:m?) (P:V->Hp->Prop),KT H w->Tm.q sb i∈ă->(∀(j:m?) T H',Nx H w H' T->T[j]? = d? (.q sb i)->P (ϋ j) H')->aG d f [ϊ 3,ϋ i] H P)
  (hh:136<=h) (hb9:136<=c) (hg9:136<=l) (z:c≠l/\c≠h/\l≠h) (hnb:nb≠c/\nb≠l/\136<=nb) (hrl:b? rs<1000) (Y:ao H0 (ϊ nb)=f?) :
  ∀{ps':g? (m?×g? Tm)} {o:g? (m?×g? m?)} {i:m?} {R:Ĉ} {H:Hp} {w:g? Tm} {b g:g? (C?×V)} {o5 o6:p? V} {PQ:Fl->Ă->Hp->Prop},
   cE (λm=>m=c\/m=l) H0 gB H w->H[h]? = d? (ϕ 522 (dy E y B D F I c l))->H[c]? = d? (ώ b)->H[l]? = d? (ώ g)->H[nb]? = d? (ό (rs.map eM))->HB w R b g->bH w ps' o->(∀j,i<=j->j<i+b? ps'->Tm.q sb j∈ă/\Đ R (.q sb j)=f?)->b? R+b? ps'<100->(∀p∈ps',p.2.length<100)->
   (∀T H' b' g' (p:C?) o5 o6,cE (λm=>m=c\/m=l) H0 gB H' T->H'[h]? = d? (ϕ 522 (dy E y B D F I c l))->H'[c]? = d? (ώ b')->H'[l]? = d? (ώ g')->HB T (R++ar sb i ps') b' g'->PQ ϒ [d? (ϊ h),d? (ϊ 2),d? x2,d? x3,d? (ϋ p),o5,o6] H')->
   bG (bu Ā d (EU f)) (d6 Ā d (Ϩ [5,6])) (λH'=>aH H' (ϊ nb)=d? (rs.map eM)/\ao H' (ϊ nb)=ao H0 (ϊ nb)) (o.map eM) [d? (ϊ h),d? (ϊ 2),d? x2,d? x3,d? (ϋ i),o5,o6] H PQ:=by
 intro ps';induction ps' with
 |nil=>
  intro o i R H w b g o5 o6 PQ a0 O c2 c3 M hB N hk hs hf hq;cases o using aab with
  |cons _ _=>exact N.elim
  |nil=>
   exact⟨⟨aj M (by simp;omega),by rw[av M,Y]⟩,hq w H b g i o5 o6 a0 O c2 c3 (by simpa [cT] using hB)⟩
 |cons p ps' ih=>
  intro o i R H w b g o5 o6 PQ a0 O c2 c3 M hB N hk hs hf hq;cases o using aab with
  |nil=>exact N.elim
  |cons r o=>
   obtain⟨fl,bs⟩:=p;obtain⟨gl,ks⟩:=r;obtain⟨rfl,hc,N⟩:=N;show⟨⟨aj M (by simp;omega),by rw[av M,Y]⟩,?_⟩;obtain⟨hu,hnR⟩:=hk i (J? _) (by simp);have hkt:=a0.kt;have hkl:b? ks<100:=by rw[hc.len];exact hf _ o?
   simp only[Q?] at hs hk;have A:∀{X:Hp} {x:k!} {u:V},X[h]? = d? (ϕ 522 (dy E y B D F I c l))->(dy E y B D F I c l).lookup x=d? u->aA X x (ϊ h)=d? u:=λE y=>ay E y;have lk1:(dy E y B D F I c l).lookup (A? "kt")=d? (ϊ 3):=by kernel_rfl
   have lk2:(dy E y B D F I c l).lookup (A? "bounds")=d? (ϊ c):=by kernel_rfl
   have lk3:(dy E y B D F I c l).lookup (A? "gflags")=d? (ϊ l):=by kernel_rfl
   simp![eM,ec,J?,K?,EU];simp![aw (qf (show(aN ks).length<10000000 by rw[aI];omega)),A O lk2,A O lk1];show C H w i _ hkt hu λk ts1 H1 a1 J=>?_;have c11:=a1.keep _ _ (by omega) O;have S:=a1.keep _ _ (by omega) c2;have c31:=a1.keep _ _ (by omega) c3;have c41:=a1.keep _ _ (by omega) M;have v:=hB.mono (λk u=>a1.code);have hfr:=v.fresh J hnR;have hbl:=v.len;have hgl:b? g=b? R:=by have:=R? b? v.Th;simp at this;omega
   simp![];rw[zZ S (by omega),bL,qt hfr];have d1:=ae (c':=ώ (b++[((k:C?),ύ (aN ks))])) c11 z.2.1;have d2:(H1.set c (ώ (b++[((k:C?),ύ (aN ks))])))[c]? = d? (ώ (b++[((k:C?),ύ (aN ks))])):=ah S;have d3:=ae (c':=ώ (b++[((k:C?),ύ (aN ks))])) c31 z.1;have d4:=ae (c':=ώ (b++[((k:C?),ύ (aN ks))])) c41 (N_ hnb.1);have a2:=(a0.trans a1.e).turn (n:=c) (ώ (b++[((k:C?),ύ (aN ks))])) (x? rfl) (by omega);generalize (H1.set c (ώ (b++[((k:C?),ύ (aN ks))])))=H2 at *;simp![A d1 lk3,A d1 lk1];show C H2 ts1 i _ a2.kt hu λK ts3 H3 a3 hk3=>?_;have:K=k:=a3.kt.inj _ _ _ hk3 (a3.code J);clear J;subst this;have c13:=a3.keep _ _ (by omega) d1;have c23:=a3.keep _ _ (by omega) d2;have W:=a3.keep _ _ (by omega) d3;have c43:=a3.keep _ _ (by omega) d4;simp![];rw[zZ W (by omega),bL,qt (by rw[<- v.Th];exact hfr)];have f1:=ae (c':=ώ (g++[((K:C?),ϋ (fl:m?))])) c13 z.2.2;have f2:=ae (c':=ώ (g++[((K:C?),ϋ (fl:m?))])) c23 (N_ z.1);have f3:(H3.set l (ώ (g++[((K:C?),ϋ (fl:m?))])))[l]? = d? (ώ (g++[((K:C?),ϋ (fl:m?))])):=ah W;have f4:=ae (c':=ώ (g++[((K:C?),ϋ (fl:m?))])) c43 (N_ hnb.2.1);have a4:=(a2.trans a3.e).turn (n:=l) (ώ (g++[((K:C?),ϋ (fl:m?))])) (u? rfl) (by omega);generalize (H3.set l (ώ (g++[((K:C?),ϋ (fl:m?))])))=H4 at *;have hB4:=(v.mono (λk u=>a3.code)).snoc (f:=fl) hk3 (aL.up (λk u e=>a3.code (a1.code e)) hc);show ih (i:=i+1) (R:=R++[(.q sb i,fl,bs)]) a4 f1 f2 f3 f4 hB4 (bH.up (λk u e=>a3.code (a1.code e)) N) (λj h1 h2=>?_) (by simp;omega) (λp hp=>hf p (q? _ hp)) λT H' b' g' p o5 o6 r1 r2 r3 r4 r5=>hq T H' b' g' p o5 o6 r1 r2 r3 r4 (by simpa [el] using r5);obtain⟨u1,u2⟩:=hk j (by omega) (by omega);show⟨u1,?_⟩;simp only[Đ,abW,M!,abm,Ő] at u2 ⊢;rw[u2,G!];have hji:i≠j:=by omega
   change(sb== sb&&i== j)=f?;simp[hji]
theorem ky {tid mid x nb y ng:m?} {E l o v A B vb M:V} {ps ms:g? (m?×g? Tm)} {rs ss:g? (m?×g? m?)} (hd:10<=d) (w:WS H C) (hh:136<=h)
  (hI:H[h]? = d? (ϕ 522 [("kt",ϊ 3),("bases",E),("ifaces",l),("sorts",o),("variances",v),("unders",A),("bounds",vb),("gflags",M),("news",B),("store",ϊ 2)])) (ht0:tid≠0)
  (hx:∀{H':Hp},(∀m c,8<m->m≠h->H[m]? = d? c->H'[m]? = d? c)->bN (ϊ 15) (ϋ tid) H'=d? (ϊ x)/\aA H' "bounds" (ϊ x)=d? (ϊ nb))
  (hnb:H[nb]? = d? (ό (rs.map eM))) (I:nb≠h/\136<=nb) (D:bH C ps rs)
  (hy:mid≠0->∀{H':Hp},(∀m c,8<m->m≠h->H[m]? = d? c->H'[m]? = d? c)->bN (ϊ 11) (ϋ mid) H'=d? (ϊ y)/\aA H' "gbounds" (ϊ y)=d? (ϊ ng))
  (hng':mid≠0->H[ng]? = d? (ό (ss.map eM))/\(ng≠h/\136<=ng)/\bH C ms ss) (hm0:mid=0->ms=[])
  (hps:b? ps<=2) (hml:b? ms<=3) (hpf:∀p∈ps,p.2.length<100) (hmf:∀p∈ms,p.2.length<100)
  (q:∀T H',cE (λZ=>Z=h) H C H' T->aM H' h T (ar f? 0 ps++ar j? 0 ms)->(∀hb hg:m?,aA H' "bounds" (ϊ h)=d? (ϊ hb)->aA H' "gflags" (ϊ h)=d? (ϊ hg)->b? H<=hb/\b? H<=hg)->Q ϖ H') :
  aG d 554 [ϊ h,ϊ 2,ϋ tid,ϋ mid] H Q:=by
 show nZ.go hd rfl λd hd=>?_;have hlt:=(i?.mp hI).1;have hnbl:=(i?.mp hnb).1;have hrl:=D.len;simp![];show bo (ix (fs':=[("kt",ϊ 3),("bases",E),("ifaces",l),("sorts",o),("variances",v),("unders",A),("bounds",ϊ (b? H)),("gflags",M),("news",B),("store",ϊ 2)]) (aC hI) (by decide+kernel) (by kernel_rfl)) ?_;have i1:((H++[ώ []]).set h (ϕ 522 [("kt",ϊ 3),("bases",E),("ifaces",l),("sorts",o),("variances",v),("unders",A),("bounds",ϊ (b? H)),("gflags",M),("news",B),("store",ϊ 2)]))[h]? = d? (ϕ 522 [("kt",ϊ 3),("bases",E),("ifaces",l),("sorts",o),("variances",v),("unders",A),("bounds",ϊ (b? H)),("gflags",M),("news",B),("store",ϊ 2)]):=ah (aC hI);have b1:((H++[ώ []]).set h (ϕ 522 [("kt",ϊ 3),("bases",E),("ifaces",l),("sorts",o),("variances",v),("unders",A),("bounds",ϊ (b? H)),("gflags",M),("news",B),("store",ϊ 2)]))[b? H]? = d? (ώ []):=ae aD (by omega);have a1:cE (λZ=>Z=h) H C ((H++[ώ []]).set h (ϕ 522 [("kt",ϊ 3),("bases",E),("ifaces",l),("sorts",o),("variances",v),("unders",A),("bounds",ϊ (b? H)),("gflags",M),("news",B),("store",ϊ 2)])) C:=(Nx.app w.kt _).e.turn _ rfl (by omega);have l1:b? ((H++[ώ []]).set h (ϕ 522 [("kt",ϊ 3),("bases",E),("ifaces",l),("sorts",o),("variances",v),("unders",A),("bounds",ϊ (b? H)),("gflags",M),("news",B),("store",ϊ 2)]))=b? H+1:=by simp
 generalize ((H++[ώ []]).set h (ϕ 522 [("kt",ϊ 3),("bases",E),("ifaces",l),("sorts",o),("variances",v),("unders",A),("bounds",ϊ (b? H)),("gflags",M),("news",B),("store",ϊ 2)]))=X at *;simp![];show bo (ix (fs':=dy E l o v A B (b? H) (b? X)) (aC i1) (by decide+kernel) (by kernel_rfl)) ?_;rw[l1];have i2:((X++[ώ []]).set h (ϕ 522 (dy E l o v A B (b? H) (b? H+1))))[h]? = d? (ϕ 522 (dy E l o v A B (b? H) (b? H+1))):=ah (aC i1);have b2:((X++[ώ []]).set h (ϕ 522 (dy E l o v A B (b? H) (b? H+1))))[b? H]? = d? (ώ []):=ae (aC b1) (by omega);have g2:((X++[ώ []]).set h (ϕ 522 (dy E l o v A B (b? H) (b? H+1))))[b? H+1]? = d? (ώ []):=ae (by rw[<- l1];exact aD) (by omega);have a2:cE (λZ=>Z=h) H C ((X++[ώ []]).set h (ϕ 522 (dy E l o v A B (b? H) (b? H+1)))) C:=(a1.trans (Nx.app a1.kt _).e).turn _ rfl (by omega);generalize ((X++[ώ []]).set h (ϕ 522 (dy E l o v A B (b? H) (b? H+1))))=H2 at *;have S:=a2.keep _ _ (λe=>I.1 e) (by omega) hnb;have O:∀m c,8<m->m≠h->H[m]? = d? c->H2[m]? = d? c:=λm c h8 N e=>a2.keep m c N (by omega) e;obtain⟨x1,x2⟩:=hx O;have keys:∀{s:D?} {i:m?} {ps:g? (m?×g? Tm)} {t:Tm},Đ (ar s i ps) t=j?->∃j,t= .q s j:=by
  intro s i ps;induction ps generalizing i with
  |nil=>intro t h;cases h
  |cons p ps ih=>
   intro t h;obtain⟨f,bs⟩:=p;simp only[cT,el,Đ,M!,Ğ] at h;rcases h with h|h
   ·simp![];exact⟨i,((Tm.beq_iff _ _).mp h).symm⟩
   ·simp![];exact ih h
 have qu:∀{s:D?} {j:m?},j<(if s=j? then 4 else 3)->Tm.q s j∈ă:=by
  intro s j hj;cases s using so with
  |true=>
   have:j=0\/j=1\/j=2\/j=3:=by simp at hj;omega
   rcases this with e|e|e|e<;>subst e<;>exact aO.mp (by decide+kernel)
  |false=>
   have:j=0\/j=1\/j=2:=by simp at hj;omega
   rcases this with e|e|e<;>subst e<;>exact aO.mp (by decide+kernel)
 have clen:∀{s:D?} {i:m?} {ps:g? (m?×g? Tm)},b? (ar s i ps)=b? ps:=by
  intro s i ps;induction ps generalizing i with
  |nil=>rfl
  |cons p ps ih=>obtain⟨f,bs⟩:=p;simp[cT,el,ih]
 have fin:∀{H':Hp} {T:g? Tm} {b g:g? (C?×V)},cE (λm=>m=b? H\/m=b? H+1) H2 C H' T->H'[h]? = d? (ϕ 522 (dy E l o v A B (b? H) (b? H+1)))->H'[b? H]? = d? (ώ b)->H'[b? H+1]? = d? (ώ g)->HB T (ar f? 0 ps++ar j? 0 ms) b g->Q ϖ H':=by
  intro H' T b g F Y r3 r4 r5;have r:cE (λZ=>Z=h) H C H' T:=⟨λm c he h8 e=>F.keep m c (by have:=(i?.mp e).1;omega) h8 (a2.keep m c he h8 e),S? a2.len F.len,F.kt,by obtain⟨u,hu⟩:=a2.ext;obtain⟨u',hu'⟩:=F.ext;exact⟨u',hu'⟩,a2.base⟩
  show q T H' r ⟨hh,E,l,o,v,A,B,b? H,b? H+1,b,g,Y,r3,r4,r5,by omega,by omega⟩ λhb hg h1 h2=>?_;have a3:aA H' "bounds" (ϊ h)=d? (ϊ (b? H)):=ay Y (by kernel_rfl);have a4:aA H' "gflags" (ϊ h)=d? (ϊ (b? H+1)):=ay Y (by kernel_rfl);rw[a3] at h1;rw[a4] at h2;cases h1;cases h2;omega
 have own:∀{H':Hp} {T:g? Tm} {b g:g? (C?×V)} {o4 o5 o6:p? V},cE (λm=>m=b? H\/m=b? H+1) H2 C H' T->H'[h]? = d? (ϕ 522 (dy E l o v A B (b? H) (b? H+1)))->H'[b? H]? = d? (ώ b)->H'[b? H+1]? = d? (ώ g)->HB T (ar f? 0 ps) b g->
   bu Ā d iJ [d? (ϊ h),d? (ϊ 2),d? (ϋ tid),d? (ϋ mid),o4,o5,o6] H' (dA Q):=by
  intro H' T b g o4 o5 o6 F Y r3 r4 r5;simp![iJ];by_cases N:mid=0
  ·subst N;simp![Ī,A!];show fin F Y r3 r4 ?_;rw[hm0 rfl,show ar j? 0 []=[] from rfl,S!];simp![*,Ī,A!];exact r5
  ·show fP (hng' N) λhng J hms=>?_;have hngl:=(i?.mp hng).1;have hsl:=hms.len;have K:∀m c,8<m->m≠h->H[m]? = d? c->H'[m]? = d? c:=λm c h8 N e=>F.keep m c (by have:=(i?.mp e).1;omega) (by omega) (O m c h8 N e);obtain⟨y1,y2⟩:=hy N K;have W:=K ng _ (by omega) J.1 hng;simp![Ī,show ¬((mid:C?)=0) from by omega,F!];have st3:=F.keep 2 _ (by omega) (by omega) (a2.keep 2 _ (by omega) (by omega) w.st);have am:aA H' "methods" (ϊ 2)=d? (ϊ 11):=ay st3 (by kernel_rfl);simp![am,y1,y2,bL];show bo (aj W (by simp;omega)) ?_;have rl3:=bH.up (λk u e=>F.code (a2.code e)) hms;show yl (f:=160) (sb:=j?) (i:=0) (R:=ar f? 0 ps) (H0:=H') (gB:=T) (b:=b) (g:=g) (λH C i P w hu p=>yq (by omega) w hu p) hh (by omega) (by omega) (by omega) ⟨by omega,by omega,J.2⟩ (by omega) (av W) (Nx.refl F.kt).e Y r3 r4 W r5 rl3 (λj h1 h2=>⟨qu (by simp;omega),?_⟩) (by rw[clen];omega) hmf λts4 H4 b4 g4 p o5 o6 f1 f2 f3 f4 f5=>?_
   ·cases hin:Đ (ar f? 0 ps) (.q j? j) using so with
    |false=>rfl
    |true=>obtain⟨z,hz⟩:=keys hin;cases hz
   ·simp![];exact fin (F.trans f1) f2 f3 f4 f5
 have st2:=a2.keep 2 _ (by omega) (by omega) w.st;have at2:aA H2 "types" (ϊ 2)=d? (ϊ 15):=ay st2 (by kernel_rfl);simp![Ī,show ¬((tid:C?)=0) from by omega,F!,at2,x1,x2];show bo (aj S (by simp;omega)) ?_;have rl2:=bH.up (λk u e=>a2.code e) D;show yl (f:=153) (sb:=f?) (i:=0) (R:=[]) (H0:=H2) (gB:=C) (b:=[]) (g:=[]) (λH C i P w hu p=>A4 (by omega) w hu p) hh (by omega) (by omega) (by omega) ⟨by omega,by omega,I.2⟩ (by omega) (av S) (Nx.refl a2.kt).e i2 b2 g2 S .nil rl2 (λj h1 h2=>⟨qu (by simp;omega),rfl⟩) (by simp;omega) hpf λts4 H4 b4 g4 p o5 o6 f1 f2 f3 f4 f5=>?_;exact own f1 f2 f3 f4 (by simpa using f5)
end
abbrev cN:=g? (m?×g? Tm)×Tm×g? Tm
structure dT where
 params:g? (m?×g? Tm)
 base:g? Tm
 faces:g? Tm
 fields:g? Tm
 methods:g? cN
def iG (R0:Ĉ) (L:g? m?) (M:cN):g? m?:=
 let R:=R0++ar j? 0 M.1
 let l:=M.2.2.foldl (bM R j? f?) (bM R f? j? L M.2.1)
 if M.1=[] then l else oN R l M.1
def q1 (L:g? m?) (C:dT):g? m?:=
 let R:=ar f? 0 C.params
 let l:=(C.base++C.faces).foldl (bM R f? f?) L
 let a:=oN R l C.params
 let b:=C.fields.foldl (bM R j? j?) a
 C.methods.foldl (iG R) b
structure qX (ps:g? (m?×g? Tm)) (M:cN):Prop where
 own:M.1.length<=3
 ctx:bj (ar f? 0 ps++ar j? 0 M.1)
 few:∀p∈M.1,p.2.length<100
 args:M.2.2.length<100
structure gu (C:dT):Prop where
 params:b? C.params<=2
 few:∀p∈C.params,p.2.length<100
 ctx:bj (ar f? 0 C.params)
 base:b? C.base<=1
 faces:b? C.faces<100
 fields:b? C.fields<100
 methods:b? C.methods<100
 meth:∀M∈C.methods,qX C.params M
structure Lo (H:Hp) (n m:m?) (c:ā):Prop where
 at_:H[m]? = d? c
 low:9<=m
 up:m<n
inductive Č (H:Hp) (ts:g? Tm) (n mid:m?) (M:cN):Prop
 |mk (ex:g? V) (y ng kr:m?) (ss:g? (m?×g? m?)) (ks:g? m?) (fs:g? (k!×V)) (h1_:Lo H n 11 (ό ex)) (h2_:ex[mid]? = d? (ϊ y)) (h3_:mid<1000) (h4_:Lo H n y (ϕ 317 fs)) (h5_:fs.lookup ("ngen":k!)=d? (ϋ (M.1.length:m?))) (h6_:fs.lookup ("ret":k!)=d? (ϋ kr)) (h7_:ts[kr]? = d? M.2.1) (h8_:fs.lookup ("params":k!)=d? (ύ (aN ks))) (h9_:aL ts M.2.2 ks) (h10_:fs.lookup ("gbounds":k!)=d? (ϊ ng)) (h11_:Lo H n ng (ό (ss.map eM))) (h12_:136<=ng) (h13_:bH ts M.1 ss) (h14_:mid≠0):Č H ts n mid M
inductive gf (H:Hp) (ts:g? Tm) (n fid:m?) (t:Tm):Prop
 |mk (ex:g? V) (c k:m?) (fs:g? (k!×V)) (h1_:Lo H n 10 (ό ex)) (h2_:ex[fid]? = d? (ϊ c)) (h3_:fid<1000) (h4_:Lo H n c (ϕ 296 fs)) (h5_:fs.lookup ("kind":k!)=d? (ϋ k)) (h6_:ts[k]? = d? t):gf H ts n fid t
inductive ej (H:Hp) (ts:g? Tm) (n tid:m?) (C:dT):Prop
 |mk (big:tid≠0/\tid<1000) (tys:g? V) (x ni nb nf nm:m?) (ib:C?) (ki fl ml:g? m?) (rs:g? (m?×g? m?)) (fs:g? (k!×V)) (h1_:Lo H n 15 (ό tys)) (h2_:tys[tid]? = d? (ϊ x)) (h3_:Lo H n x (ϕ 275 fs)) (h4_:fs.lookup ("base":k!)=d? (ϋ ib)) (h5_:(C.base=[]->ib= -1)) (h6_:(∀t,C.base=[t]->∃k:m?,ib=k/\ts[k]? = d? t)) (h7_:fs.lookup ("ifaces":k!)=d? (ϊ ni)) (h8_:Lo H n ni (ό (aN ki))) (h9_:aL ts C.faces ki) (h10_:fs.lookup ("bounds":k!)=d? (ϊ nb)) (h11_:Lo H n nb (ό (rs.map eM))) (h12_:136<=nb) (h13_:bH ts C.params rs) (h14_:fs.lookup ("fields":k!)=d? (ϊ nf)) (h15_:Lo H n nf (ό (aN fl))) (h16_:b? fl=b? C.fields) (h17_:(∀(i fid:m?) (t:Tm),fl[i]? = d? fid->C.fields[i]? = d? t->gf H ts n fid t)) (h18_:fs.lookup ("methods":k!)=d? (ϊ nm)) (h19_:Lo H n nm (ό (aN ml))) (h20_:b? ml=b? C.methods) (h21_:(∀(i mid:m?) (M:cN),ml[i]? = d? mid->C.methods[i]? = d? M->Č H ts n mid M)):ej H ts n tid C
theorem ej.big (c:ej H t n tid C):tid≠0/\tid<1000:=by obtain⟨b⟩:=c;exact b
structure HK (n:m?) (H:Hp) (ts:g? Tm) (H':Hp) (ts':g? Tm):Prop where
 cell:∀m c,9<=m->m<n->H[m]? = d? c->H'[m]? = d? c
 code:∀(k:m?) (u:Tm),ts[k]? = d? u->ts'[k]? = d? u
theorem cE.low (a:cE E H T H' t) (b:∀m,E m->n<=m):HK n H T H' t:=
 ⟨λm c d f e=>a.keep m c (λh=>by have:=b m h;omega) (by omega) e,λk u=>a.code⟩
theorem Lo.keep (l:Lo H n m c) (a:HK n H T H' t):Lo H' n m c:=⟨a.cell m c l.low l.up l.at_,l.low,l.up⟩
theorem Č.keep (x:Č H T n mid M) (a:HK n H T H' t):Č H' t n mid M:=by
 obtain⟨f,y,ng,K,ss,ks,fs,g,i,j,k,l,m,o,p,q,h,b,c,d,e⟩:=id x;exact⟨f,y,ng,K,ss,ks,fs,g.keep a,i,j,k.keep a,l,m,a.code _ _ o,p,aL.up a.code q,h,b.keep a,c,bH.up a.code d,e⟩
theorem gf.keep (x:gf H l n f t) (a:HK n H l H' T):gf H' T n f t:=by
 obtain⟨e,c,k,fs,h,b,d,g,i,j⟩:=id x;exact⟨e,c,k,fs,h.keep a,b,d,g.keep a,i,a.code _ _ j⟩
theorem ej.keep (x:ej H ts n tid C) (a:HK n H ts H' ts'):ej H' ts' n tid C:=by
 obtain⟨_,tys,x',ni,nb,nf,nm,ib,ki,fl,ml,rs,fs,h1,h2,h3,h4,h5,h6,h7,h8,h9,h,d,g,j,l,m,o,p,q,r,s,h21⟩:=id x;exact⟨x.big,tys,x',ni,nb,nf,nm,ib,ki,fl,ml,rs,fs,h1.keep a,h2,h3.keep a,h4,h5,λt e=>let⟨k,b,c⟩:=h6 t e;⟨k,b,a.code _ _ c⟩,h7,h8.keep a,aL.up a.code h9,h,d.keep a,g,bH.up a.code j,l,m.keep a,o,λi f t b c=>(p i f t b c).keep a,q,r.keep a,s,λi mid M b c=>(h21 i mid M b c).keep a⟩
theorem cE.weak {E':m?->Prop} (a:cE E H T H' t) (h:∀m,E m->E' m):cE E' H T H' t:=⟨λm c d b e=>a.keep m c (λx=>d (h m x)) b e,a.len,a.kt,a.ext,a.base⟩
def NH (n h m:m?):Prop:=m=n\/m=h
section
theorem RS.Vc (x:RS H T h R n L) (a:cE (λZ=>Z=n) H T H' t):HK n H T H' t:=a.low (by rintro m rfl;exact J? _)
theorem Kl (hd:10<=d) (x:RS H T h R n L) (c:ej H T n tid C) (O:gu C) (hm:mid≠0->Č H T n mid M) (hM:mid=0->M.1=[]) (P:qX C.params M)
  (q:∀t H',cE (NH n h) H T H' t->RS H' t h (ar f? 0 C.params++ar j? 0 M.1) n L->Q ϖ H') :
  aG d 554 [ϊ h,ϊ 2,ϋ tid,ϋ mid] H Q:=by
 obtain⟨_,tys,X,ni,nb,nf,nm,ib,ki,fl,ml,rs,fs,z,B,D,h4,h5,h6,h7,h8,h9,A,a,j,l,_⟩:=id c;obtain⟨e1,e2,e3,e4,e5,e6,o,s,b,g,W,g2,g3,g4,g5,g6⟩:=x.v.inst;have F:=x.up.up;have r:=x.big;have p:∀t H',cE (λZ=>Z=h) H T H' t->aM H' h t (ar f? 0 C.params++ar j? 0 M.1)->(∀o s:m?,aA H' "bounds" (ϊ h)=d? (ϊ o)->aA H' "gflags" (ϊ h)=d? (ϊ s)->b? H<=o/\b? H<=s)->Q ϖ H':=by
  intro t H' S r2 r3;have hnl:=(i?.mp x.told).1;show q t H' (S.weak λm e=>u? e) ⟨x.w.KW S (by rintro m rfl;exact x.v.big),r2,P.ctx,⟨F,λo s z B=>by have:=r3 o s z B;omega⟩,S.keep _ _ (by omega) (by omega) x.told,x.okl,r⟩
 have Y:∀{H':Hp},(∀m c,8<m->m≠h->H[m]? = d? c->H'[m]? = d? c)->bN (ϊ 15) (ϋ tid) H'=d? (ϊ X)/\aA H' "bounds" (ϊ X)=d? (ϊ nb):=by
  intro H' k;have l3:=D.low;have l3':=D.up;exact⟨br (k 15 _ (by omega) (by omega) z.at_) B (by have:=c.big;omega),ay (k X _ (by omega) (by omega) D.at_) A⟩
 have l11:=a.up;by_cases i:mid=0
 ·subst i;have f:=hM rfl;exact ky (ps:=C.params) (ms:=M.1) (rs:=rs) (ss:=rs) (y:=0) (ng:=nb) (by omega) x.w x.v.big W c.big.1 Y a.at_ ⟨by omega,j⟩ l (λh=>absurd rfl h) (λh=>absurd rfl h) (λZ=>f) O.params (by rw[f];simp) O.few (by rw[f];simp) p
 ·obtain⟨ex,y,ng,kr,ss,ks,fs',m1,m2,m3,N,m5,m6,m7,m8,m9,I,u,J,K,m14⟩:=id (hm i);have lm4:=N.low;have lm4':=N.up;have lm11:=u.up;exact ky (ps:=C.params) (ms:=M.1) (rs:=rs) (ss:=ss) (y:=y) (ng:=ng) (by omega) x.w x.v.big W c.big.1 Y a.at_ ⟨by omega,j⟩ l (λZ=>λk=>⟨br (k 11 _ (by omega) (by omega) m1.at_) m2 (by omega),ay (k y _ (by omega) (by omega) N.at_) I⟩) (λZ=>⟨u.at_,⟨by omega,J⟩,K⟩) (λe=>absurd e i) O.params P.own O.few P.few p
end
section
theorem cE.Ki (a:cE E H T H' t) (h:∀m,E m->n<=m):HK n H T H' t:=a.low h
theorem RS.Ki (x:RS H T h R n L) (a:cE (NH n h) H T H' t):HK n H T H' t:=a.low (by have:=x.up.up;rintro m (rfl|rfl)<;>omega)
theorem Cf :
 ∀(H:Hp) (f:g? Tm) (L:g? m?) (t:Tm) (k:m?) (P:Fl->Ă->Hp->Prop),39<=d->RS H f h R n L->f[k]? = d? t->(∀b H',cE (λZ=>Z=n) H f H' b->RS H' b h R n (bM R j? f? L t)->P ϒ (([d? (ϊ 2),d? (ϊ h),O,p,d? (ϊ n),d? (ϊ y),o]:Ă).set 6 (d? (ϋ k))) H')->bu Ā d fv (([d? (ϊ 2),d? (ϊ h),O,p,d? (ϊ n),d? (ϊ y),o]:Ă).set 6 (d? (ϋ k))) H P:=by
 intro H f L t k P r x j a;have m:=Mu x.w.kt j;simp![];by_cases c:ď t=j?
 ·have i:=m.mp c;clear m;subst i;show ij (by omega) x (by decide) λH' A q=>?_;show hX (by omega) q j λT g a2 X=>?_;exact a T g (A.trans a2) (by unfold bM;rw[c];exact X)
 ·have i:¬((k:C?)=0):=λe=>c (m.mpr (by omega));have l:ď t=f?:=by simpa using c
  simp![i];show hX (by omega) x j λT g a2 X=>?_;exact a T g a2 (by unfold bM;rw[l];exact X)
theorem nL (hd:42<=d) (x:RS H v h (ar f? 0 C.params) n L) (c:ej H v n tid C) (ok:gu C) (m:Č H v n mid M) (O:qX C.params M)
  (q:∀T H',cE (NH n h) H v H' T->RS H' T h (ar f? 0 C.params) n (iG (ar f? 0 C.params) L M)->Q ϖ H') :
  aG d 748 [ϊ 2,ϊ h,ϋ tid,ϋ mid,ϊ n] H Q:=by
 show j9.go hd rfl λd hd=>?_;obtain⟨ex,y,ng,kr,ss,ks,fs,h1,h2,h3,h4,h5,h6,h7,h8,h9,h10,J,h12,h13,h14⟩:=id m;have hkl:b? ks<100:=by rw[h9.len];exact O.args
 have am:aA H "methods" (ϊ 2)=d? (ϊ 11):=ay x.w.st (by kernel_rfl);have ai:bN (ϊ 11) (ϋ mid) H=d? (ϊ y):=br h1.at_ h2 (by omega);have ang:aA H "ngen" (ϊ y)=d? (ϋ (M.1.length:m?)):=ay h4.at_ h5;simp![am,ai];have g:∀{H':Hp} {T:g? Tm} {o6:p? V},cE (NH n h) H v H' T->RS H' T h (ar f? 0 C.params++ar j? 0 M.1) n L->bu Ā d fF [d? (ϊ 2),d? (ϊ h),d? (ϋ tid),d? (ϋ mid),d? (ϊ n),d? (ϊ y),o6] H' (dA Q):=by
  intro R b o6 a1 X;have r:=x.Ki a1;have y1:=h4.keep r;have k1:=r.code _ _ h7;have I:aA R "ret" (ϊ y)=d? (ϋ kr):=ay y1.at_ h6;have j:∀{u:Hp} {W:g? m?},cE (λZ=>Z=n) R b u b->RS u b h (ar f? 0 C.params++ar j? 0 M.1) n W->tell W (dw (ar f? 0 C.params++ar j? 0 M.1) M.2.1)=bM (ar f? 0 C.params++ar j? 0 M.1) f? j? L M.2.1->
    bu Ā d fM [d? (ϊ 2),d? (ϊ h),d? (ϋ tid),d? (ϋ mid),d? (ϊ n),d? (ϊ y),o6] u (dA Q):=by
   intro u W a2 x2 hL;have l:aA u "ret" (ϊ y)=d? (ϋ kr):=ay (y1.keep (X.Vc a2)).at_ h6;simp![fM,l];show hX (by omega) x2 k1 λts3 H3 a3 N=>?_;rw[hL] at N;replace N:=N;have B:=a2.trans a3;have K:=X.Vc B;have F:aA H3 "params" (ϊ y)=d? (ύ (aN ks)):=ay (y1.keep K).at_ h8;simp![F];show bo (ba (by rw[aI];omega)) ?_;show lB (ρ:=[d? (ϊ 2),d? (ϊ h),d? (ϋ tid),d? (ϋ mid),d? (ϊ n),d? (ϊ y),o6]) (i:=6) (f:=bM (ar f? 0 C.params++ar j? 0 M.1) j? f?) (H0:=H3) (gB:=ts3) (λts2 u a2=>⟨ba (by rw[aI];omega),rfl⟩) (λH v L t k PP=>Cf H v L t k PP (by omega)) (o:=o6) (Nx.refl N.w.kt).e N (aL.up K.code (aL.up r.code h9)) λts4 S o' a4 x4=>?_;have Y:=B.trans a4;have A:=a1.trans (Y.weak λm e=>x? e);have s:=x.Ki A;have y4:=h4.keep s;have D:aA S "ngen" (ϊ y)=d? (ϋ (M.1.length:m?)):=ay y4.at_ h5;simp![D];by_cases a:M.1=[]
   ·simp![a];show q ts4 S A ?_;have e:ar j? 0 M.1=[]:=by rw[a];rfl
    unfold iG;rw[P? a];rw[e,S!] at x4 ⊢;exact x4
   ·have p:¬((M.1.length:m?):C?)=0:=by
     intro e;exact a (Ś.mp (by omega))
    have agb:aA S "gbounds" (ϊ y)=d? (ϊ ng):=ay y4.at_ h10;have l11:=J.up;simp![Ī,p,F!,agb];show kS (by omega) x4 (J.keep s).at_ (by omega) h12 (bH.up s.code h13) (by have:=O.own;omega) O.few λts5 H5 a5 x5=>?_;have z:=A.trans (a5.weak λm e=>x? e);show Kl (tid:=tid) (mid:=0) (C:=C) (M:=([],M.2)) (by omega) x5 (c.keep (x.Ki z)) ok (λh=>absurd rfl h) (λZ=>rfl) ⟨w_ _,by simpa [cT] using ok.ctx,by simp,O.args⟩ λts6 H6 a6 x6=>?_;show q ts6 H6 (z.trans a6) ?_;unfold iG;rw[E? a]
    simpa [cT] using x6
  simp![fF,aw (X.w.bB),I];show bk (by omega) X.w.kt k1 ?_;by_cases P:M.2.1.cf=j?
  ·simp![uQ.mpr P];show ij (by omega) X (by decide) λH' a' x'=>?_;exact j a' x' (by unfold bM;rw[P];rfl)
  ·have hb':M.2.1.cf=f?:=by simpa using P
   simp![show ¬((M.2.1.sort:C?)=5) from λe=>P (uQ.mp e)];exact j (Nx.refl X.w.kt).e X (by unfold bM;rw[hb'];rfl)
 simp![ang];by_cases a:M.1=[]
 ·simp![a];exact g (Nx.refl x.w.kt).e (by rw[a];simpa [cT] using x)
 ·have p:¬((M.1.length:m?):C?)=0:=by
   intro e;exact a (Ś.mp (by omega))
  simp![Ī,p,F!];show Kl (tid:=tid) (mid:=mid) (C:=C) (M:=M) (by omega) x c ok (λZ=>m) (λe=>absurd e h14) O λb R a1 X=>?_;exact g a1 X
end
section
theorem lA:(H++c::r)[b? H]? = d? c:=by
 rw[c! (J? _),ξ];rfl
theorem wN:(H++c::r)[b? H+i]? = (c::r)[i]? :=by
 rw[c! (z_ _ _),ĳ]
theorem fk:(H++c::r).set (b? H) c'=H++c'::r:=by
 rw[Ο _ _ (J? _),ξ];rfl
theorem aK (h:(cq c).contains x=j?) (e:au x v fs=fs'):ck (ϊ (b? H)) x v (H++ϕ c fs::r)=d? (H++ϕ c fs'::r):=by
 rw[ix lA h e,fk]
theorem ca:b? (H++c::r)=b? H+(b? r+1):=I?
theorem bV:(H++c::r)++[x]=H++c::(r++[x]):=by simp
def lQ (l:m?):ā:=ϕ 522 [("kt",ϊ 3),("bases",ϊ (l+1)),("ifaces",ϊ (l+2)),("sorts",ϊ (l+3)),("variances",ϊ (l+4)),("unders",ϊ (l+5)),("bounds",ϊ (l+6)),("gflags",ϊ (l+7)),("news",ϊ (l+8)),("store",ϊ 2)]
theorem TZ (h:1<=d) (a:aA (H++[ϕ 522 []]) "kt" (ϊ 2)=d? (ϊ 3))
  (q:Q ϖ (H++lQ (b? H)::X? 8 (ώ []))):aG d 477 [ϊ (b? H),ϊ 2] (H++[ϕ 522 []]) Q:=by
 show ke.go h rfl λd h=>?_;simp![a];show bo (aK (fs':=[("kt",ϊ 3)]) (by decide+kernel) (by kernel_rfl)) ?_;simp![ca,bV];show bo (aK (fs':=[("kt",ϊ 3),("bases",ϊ (b? H+1))]) (by decide+kernel) (by kernel_rfl)) ?_;simp![ca,bV];show bo (aK (fs':=[("kt",ϊ 3),("bases",ϊ (b? H+1)),("ifaces",ϊ (b? H+2))]) (by decide+kernel) (by kernel_rfl)) ?_;simp![ca,bV];show bo (aK (fs':=[("kt",ϊ 3),("bases",ϊ (b? H+1)),("ifaces",ϊ (b? H+2)),("sorts",ϊ (b? H+3))]) (by decide+kernel) (by kernel_rfl)) ?_;simp![ca,bV];show bo (aK (fs':=[("kt",ϊ 3),("bases",ϊ (b? H+1)),("ifaces",ϊ (b? H+2)),("sorts",ϊ (b? H+3)),("variances",ϊ (b? H+4))]) (by decide+kernel) (by kernel_rfl)) ?_;simp![ca,bV];show bo (aK (fs':=[("kt",ϊ 3),("bases",ϊ (b? H+1)),("ifaces",ϊ (b? H+2)),("sorts",ϊ (b? H+3)),("variances",ϊ (b? H+4)),("unders",ϊ (b? H+5))]) (by decide+kernel) (by kernel_rfl)) ?_;simp![ca,bV];show bo (aK (fs':=[("kt",ϊ 3),("bases",ϊ (b? H+1)),("ifaces",ϊ (b? H+2)),("sorts",ϊ (b? H+3)),("variances",ϊ (b? H+4)),("unders",ϊ (b? H+5)),("bounds",ϊ (b? H+6))]) (by decide+kernel) (by kernel_rfl)) ?_;simp![ca,bV];show bo (aK (fs':=[("kt",ϊ 3),("bases",ϊ (b? H+1)),("ifaces",ϊ (b? H+2)),("sorts",ϊ (b? H+3)),("variances",ϊ (b? H+4)),("unders",ϊ (b? H+5)),("bounds",ϊ (b? H+6)),("gflags",ϊ (b? H+7))]) (by decide+kernel) (by kernel_rfl)) ?_;simp![ca,bV];show bo (aK (fs':=[("kt",ϊ 3),("bases",ϊ (b? H+1)),("ifaces",ϊ (b? H+2)),("sorts",ϊ (b? H+3)),("variances",ϊ (b? H+4)),("unders",ϊ (b? H+5)),("bounds",ϊ (b? H+6)),("gflags",ϊ (b? H+7)),("news",ϊ (b? H+8))]) (by decide+kernel) (by kernel_rfl)) ?_;simp![];show bo (aK (fs':=[("kt",ϊ 3),("bases",ϊ (b? H+1)),("ifaces",ϊ (b? H+2)),("sorts",ϊ (b? H+3)),("variances",ϊ (b? H+4)),("unders",ϊ (b? H+5)),("bounds",ϊ (b? H+6)),("gflags",ϊ (b? H+7)),("news",ϊ (b? H+8)),("store",ϊ 2)]) (by decide+kernel) (by kernel_rfl)) ?_;exact q
theorem bj.nil:bj []:=⟨(λ_ h=>nomatch h),V_,(λ_ h=>nomatch h),(λ_ h=>nomatch h),w_ _,(λ_ h=>nomatch h)⟩
theorem QT (w:WS H t) (f:H[n]? = d? (ό (aN L))) (o:nv L) (i:136<=n) :
  RS (H++lQ (b? H)::X? 8 (ώ [])) t (b? H) [] n L:=by
 have c:=(i?.mp f).1;have a:=Nx.app w.kt (lQ (b? H)::X? 8 (ώ []));have h:(H++lQ (b? H)::X? 8 (ώ []))[b? H]? = d? (lQ (b? H)):=lA;show⟨w.nx a,⟨by omega,_,_,_,_,_,_,b? H+6,b? H+7,[],[],h,by rw[wN];rfl,by rw[wN];rfl,.nil,by omega,by omega⟩,bj.nil,⟨c,λb g e d=>?_⟩,a.keep _ _ (by omega) f,o,i⟩;have a3:aA (H++lQ (b? H)::X? 8 (ώ [])) "bounds" (ϊ (b? H))=d? (ϊ (b? H+6)):=ay h (by kernel_rfl);have a4:aA (H++lQ (b? H)::X? 8 (ώ [])) "gflags" (ϊ (b? H))=d? (ϊ (b? H+7)):=ay h (by kernel_rfl);rw[a3] at e;rw[a4] at d;cases e;cases d;omega
end
section
variable {d:m?} {H:Hp} {ts:g? Tm} {k j:m?} {s t a:Tm} {Q:V->Hp->Prop} {h n:m?} {R:Ĉ} {L:g? m?}
theorem Ge {C:dT} {ρ:Ă} {chk:Hp->Prop} {H0:Hp} {gB:g? Tm} {tid:m?} {S:MS} {i:m?} (r:∀T H',cE (NH n h) H0 gB H' T->chk H') (W:136<=n) (hh:n<h)
  (body:∀(H:Hp) (b:g? Tm) (L:g? m?) (M:cN) (mid:m?) (p:Fl->Ă->Hp->Prop),RS H b h (ar f? 0 C.params) n L->ej H b n tid C->M∈C.methods->Č H b n mid M->(∀T H',cE (NH n h) H b H' T->RS H' T h (ar f? 0 C.params) n (iG (ar f? 0 C.params) L M)->p ϒ (ρ.set i (d? (ϋ mid))) H')->bu Ā d S (ρ.set i (d? (ϋ mid))) H p) :
  ∀{Ms:g? cN} {ms:g? m?} {H:Hp} {b:g? Tm} {L:g? m?} {o:p? V} {P:Fl->Ă->Hp->Prop},(∀M∈Ms,M∈C.methods)->cE (NH n h) H0 gB H b->RS H b h (ar f? 0 C.params) n L->ej H b n tid C->b? ms=b? Ms->(∀(j mid:m?) (M:cN),ms[j]? = d? mid->Ms[j]? = d? M->Č H b n mid M)->(∀T H' O,cE (NH n h) H0 gB H' T->RS H' T h (ar f? 0 C.params) n (Ms.foldl (iG (ar f? 0 C.params)) L)->P ϒ (ρ.set i O) H')->
   bG (bu Ā d S) (d6 Ā d (ϝ i)) chk (aN ms) (ρ.set i o) H P:=by
 intro B;induction B with
 |nil=>
  intro y;cases y using aab with
  |nil=>
   exact λg a x c e f q=>by rename_i H b L o P;exact⟨r _ _ a,q b H o a x⟩
  |cons N Y=>
   exact λD F J K e z l=>by rename_i _ _ _ _ _;cases e
 |cons M Ms I=>
  intro y;cases y using aab with
  |cons m ms=>
   exact λg a x c e f q=>by
    rename_i H b L o P;simp![];show⟨r _ _ a,?_⟩;change bu Ā d S (put (ϋ (m:C?)) (ρ.set i o) i) H _;rw[dn,o_];simp![];show body H b L M m _ x c (g M o?) (f 0 m M rfl rfl) λT H' A X=>?_;have u:=x.Ki A;exact I (ms:=ms) (λM h=>g M (q? _ h)) (a.trans A) X (c.keep u) (by simpa using e) (λj mid v E w=>(f (j+1) mid v E w).keep u) q
  |nil=>
   exact λD F J K e z l=>by rename_i _ _ _ _ _;cases e
theorem Cy {ρ:Ă} {chk:Hp->Prop} {H0:Hp} {gB:g? Tm} {S:MS} {i:m?} (l:∀g,g=ρ->∀T H',cE (λZ=>Z=n) H0 gB H' T->chk H')
  (body:∀(H:Hp) (b:g? Tm) (L:g? m?) (t:Tm) (F:m?) (o7:p? V) (p:Fl->Ă->Hp->Prop),RS H b h R n L->gf H b n F t->(∀T H' o7,cE (λZ=>Z=n) H b H' T->RS H' T h R n (bM R j? j? L t)->p ϒ ((ρ.set i (d? (ϋ F))).set (i+1) o7) H')->bu Ā d S ((ρ.set i (d? (ϋ F))).set (i+1) o7) H p) :
  ∀{us:g? Tm} {fs:g? m?} {H:Hp} {b:g? Tm} {L:g? m?} {o o7:p? V} {P:Fl->Ă->Hp->Prop},cE (λZ=>Z=n) H0 gB H b->RS H b h R n L->b? fs=b? us->(∀(j F:m?) (t:Tm),fs[j]? = d? F->us[j]? = d? t->gf H b n F t)->(∀T H' O o7,cE (λZ=>Z=n) H0 gB H' T->RS H' T h R n (us.foldl (bM R j? j?) L)->P ϒ ((ρ.set i O).set (i+1) o7) H')->
   bG (bu Ā d S) (d6 Ā d (ϝ i)) chk (aN fs) ((ρ.set i o).set (i+1) o7) H P:=by
 intro r;induction r with
 |nil=>
  intro y;cases y using aab with
  |nil=>
   exact λa x c e q=>by rename_i H b L o o7 P;exact⟨l _ rfl _ _ a,q b H o o7 a x⟩
  |cons D J=>
   exact λw B c C z=>by rename_i _ _ _ _ _ _;cases c
 |cons u us I=>
  intro y;cases y using aab with
  |cons f fs=>
   exact λa x c e q=>by
    rename_i H b L o o7 P;simp![];show⟨l _ rfl _ _ a,?_⟩;change bu Ā d S (put (ϋ (f:C?)) ((ρ.set i o).set (i+1) o7) i) H _;rw[dn,aaJ _ _ (by omega),o_];simp![];show body H b L u f o7 _ x (e 0 f u rfl rfl) λT H' o7 A X=>?_;have v:=x.Vc A;exact I (fs:=fs) (a.trans A) X (by simpa using c) (λj F t E m=>(e (j+1) F t E m).keep v) q
  |nil=>
   exact λw B c C z=>by rename_i _ _ _ _ _ _;cases c
theorem yz {O o5 o8:p? V} {tid:m?} (W:39<=d) (H:Hp) (b:g? Tm) (L:g? m?) (t:Tm) (F:m?) (o7:p? V) (P:Fl->Ă->Hp->Prop) (x:RS H b h R n L) (f:gf H b n F t)
  (q:∀i H' o7,cE (λZ=>Z=n) H b H' i->RS H' i h R n (bM R j? j? L t)->P ϒ ((([d? (ϊ 2),d? (ϋ tid),d? (ϊ n),O,d? (ϊ h),o5,e?,e?,o8]:Ă).set 6 (d? (ϋ F))).set (6+1) o7) H') :
  bu Ā d jD ((([d? (ϊ 2),d? (ϋ tid),d? (ϊ n),O,d? (ϊ h),o5,e?,e?,o8]:Ă).set 6 (d? (ϋ F))).set (6+1) o7) H P:=by
 obtain⟨N,c,k,fs,I,J,S,K,M,p⟩:=id f;have C:aA H "fields_" (ϊ 2)=d? (ϊ 10):=x.w.jo;have D:bN (ϊ 10) (ϋ F) H=d? (ϊ c):=br I.at_ J (by omega);have E:aA H "kind" (ϊ c)=d? (ϋ k):=ay K.at_ M;have y:=Mu x.w.kt p;simp![C,D,E];have T:∀{H':Hp} {o:g? m?},cE (λZ=>Z=n) H b H' b->RS H' b h R n o->tell o (dw R t)=bM R j? j? L t->bu Ā d qZ [d? (ϊ 2),d? (ϋ tid),d? (ϊ n),O,d? (ϊ h),o5,d? (ϋ F),d? (ϋ k),o8] H' P:=by
  intro H' o A X e;show hX (by omega) X p λv B a2 z=>?_;rw[e] at z;exact q v B (d? (ϋ k)) (A.trans a2) z
 by_cases m:ď t=j?
 ·have u:=y.mp m;clear y E p M;subst u;simp![];rw[show(15:C?)=((15:m?):C?) from rfl];simp![];show ij (by omega) x (by decide) λH' A X=>?_;exact T A X (by unfold bM;rw[m];rfl)
 ·have u:¬((k:C?)=0):=λe=>m (y.mpr (by omega));have g:ď t=f?:=by simpa using m
  simp![u,aw (x.w.bB)];show bk (by omega) x.w.kt p ?_;clear y E p M;by_cases l:t.cf=j?
  ·simp![uQ.mpr l];rw[show(15:C?)=((15:m?):C?) from rfl];simp![];show ij (by omega) x (by decide) λH' A X=>?_;exact T A X (by unfold bM;rw[g,l];rfl)
  ·have r:t.cf=f?:=by simpa using l
   simp![show ¬((t.sort:C?)=5) from λe=>l (uQ.mp e)];exact T (Nx.refl x.w.kt).e x (by unfold bM;rw[g,r];rfl)
theorem xR {t:Tm}:bM R f? f? L t=tell L (dw R t):=by unfold bM;rfl
theorem Bd {o o6 o7 o8:p? V} {tid:m?} (i:39<=d) (H:Hp) (c:g? Tm) (L:g? m?) (t:Tm) (k:m?) (P:Fl->Ă->Hp->Prop) (x:RS H c h R n L) (g:c[k]? = d? t)
  (b:∀T H',cE (λZ=>Z=n) H c H' T->RS H' T h R n (bM R f? f? L t)->P ϒ (([d? (ϊ 2),d? (ϋ tid),d? (ϊ n),o,d? (ϊ h),e?,o6,o7,o8]:Ă).set 5 (d? (ϋ k))) H') :
  bu Ā d jl (([d? (ϊ 2),d? (ϋ tid),d? (ϊ n),o,d? (ϊ h),e?,o6,o7,o8]:Ă).set 5 (d? (ϋ k))) H P:=by
 show hX (by omega) x g λe f a2 X=>?_;exact b e f a2 (by rw[xR];exact X)
theorem BU {C:dT} {tid:m?} {o o5 o6 o7:p? V} (g:43<=d) (O:gu C) (H:Hp) (b:g? Tm) (L:g? m?) (M:cN) (mid:m?) (P:Fl->Ă->Hp->Prop) (x:RS H b h (ar f? 0 C.params) n L) (c:ej H b n tid C) (f:M∈C.methods) (m:Č H b n mid M)
  (e:∀T H',cE (NH n h) H b H' T->RS H' T h (ar f? 0 C.params) n (iG (ar f? 0 C.params) L M)->P ϒ (([d? (ϊ 2),d? (ϋ tid),d? (ϊ n),o,d? (ϊ h),o5,o6,o7,e?]:Ă).set 8 (d? (ϋ mid))) H') :
  bu Ā d rC (([d? (ϊ 2),d? (ϋ tid),d? (ϊ n),o,d? (ϊ h),o5,o6,o7,e?]:Ă).set 8 (d? (ϋ mid))) H P:=by
 exact nL (Q:=λZ H=>P ϒ _ H) (by omega) x c O m (O.meth M f) λT H' A X=>e T H' A X
end
section
theorem cN.WQ (o:bj (ar f? 0 ps)):qX ps ([],.p 0,[]):=⟨w_ _,by simpa [cT] using o,by simp,ň _⟩
theorem wB (hd:45<=d) (w:WS H g) (hn:H[n]? = d? (ό (aN L))) (o:nv L) (hb:136<=n) (c:ej H g n tid C) (O:gu C)
  (q:∀T H',cE (λZ=>Z=n) H g H' T->H'[n]? = d? (ό (aN (q1 L C)))->nv (q1 L C)->WS H' T->Q ϖ H') :
  aG d 741 [ϊ 2,ϋ tid,ϊ n] H Q:=by
 show pQ.go hd rfl λd hd=>?_;have S:=c.big;obtain⟨_,tys,X,ni,nb,nf,nm,ib,ki,fl,ml,rs,fs,h1,h2,h3,h4,h5,h6,h7,h8,h9,h10,Y,h12,h13,h14,h15,h16,h17,h18,h19,h20,h21⟩:=id c;have hlt:=(i?.mp hn).1;have at_:aA H "types" (ϊ 2)=d? (ϊ 15):=w.dq;have ai:bN (ϊ 15) (ϋ tid) H=d? (ϊ X):=br h1.at_ h2 (by have:=S;omega);simp![at_,ai];show⟨by omega,?_⟩;show TZ (by omega) (ay (aC w.st) (by kernel_rfl)) ?_;have r0:=QT w hn o hb;have a0:cE (NH n (b? H)) H g (H++lQ (b? H)::X? 8 (ώ [])) g:=(Nx.app w.kt _).e;generalize hH0:(H++lQ (b? H)::X? 8 (ώ []))=H0 at *;show⟨rfl,?_⟩;have lo0:HK n H g H0 g:=a0.low (by rintro m (rfl|rfl)<;>omega);have b:∀{m:m?},NH n (b? H) m->n<=m:=by rintro m (rfl|rfl)<;>omega
 simp![];show Kl (tid:=tid) (mid:=0) (C:=C) (M:=([],.p 0,[])) (by omega) r0 (c.keep lo0) O (λh=>absurd rfl h) (λZ=>rfl) (cN.WQ O.ctx) λr y a1 B=>?_;rw[show ar j? 0 (([],.p 0,[]):cN).1=[] from rfl,S!] at B;replace B:=B;have a1:=a0.trans a1;have fin:∀{H':Hp} {T:g? Tm},cE (NH n (b? H)) H g H' T->RS H' T (b? H) (ar f? 0 C.params) n (q1 L C)->Q ϖ H':=by
  intro H' T a x;exact q T H' ⟨λm c he h8 e=>a.keep m c (by have:=(i?.mp e).1;rintro(h|h)<;>first|exact he h|omega) h8 e,a.len,a.kt,a.ext,a.base⟩ x.told x.okl x.w
 have A:∀{y:Hp} {r:g? Tm} {L1:g? m?} {o5 o6 o7 o8:p? V},cE (NH n (b? H)) H g y r->RS y r (b? H) (ar f? 0 C.params) n L1->L1=C.base.foldl (bM (ar f? 0 C.params) f? f?) L->
   bu Ā d jn [d? (ϊ 2),d? (ϋ tid),d? (ϊ n),d? (ϊ X),d? (ϊ (b? H)),o5,e?,e?,e?] y (dA Q):=by
  intro y r L1 o5 o6 o7 o8 a1 B hL;have l:=a1.low (n:=n) (λm=>b);have aif:aA y "ifaces" (ϊ X)=d? (ϊ ni):=ay (h3.keep l).at_ h7;have hkl:b? ki<100:=by rw[h9.len];exact O.faces
  have D:∀{H' T},HK n H g H' T->aH H' (ϊ ni)=d? (aN ki)/\ao H' (ϊ ni)=f?:=λz=>⟨aj (h8.keep z).at_ (by rw[aI];omega),av (h8.keep z).at_⟩
  simp![jn,aif];rw[(D l).1,bL,eO,(D l).2];show lB (ρ:=[d? (ϊ 2),d? (ϋ tid),d? (ϊ n),d? (ϊ X),d? (ϊ (b? H)),e?,e?,e?,e?]) (i:=5) (f:=bM (ar f? 0 C.params) f? f?) (H0:=y) (gB:=r) (λv K a2=>D ((a1.trans (a2.weak λm e=>x? e)).low λm=>b)) (λH g L t k P=>Bd (by omega) H g L t k P) (o:=o5) (Nx.refl B.w.kt).e B (aL.up l.code h9) λv K o' a2 x2=>?_;have a2:=a1.trans (a2.weak λm e=>x? e);have J:=a2.low (n:=n) (λm=>b);rw[hL,<- List.foldl_append] at x2;have ab:aA K "bounds" (ϊ X)=d? (ϊ nb):=ay (h3.keep J).at_ h10;have l11:=Y.up;simp![ab];show kS (by omega) x2 (Y.keep J).at_ (by omega) h12 (bH.up J.code h13) (by have:=O.params;omega) O.few λts3 H3 a3 x3=>?_;have a3:=a2.trans (a3.weak λm e=>x? e);have u:=a3.low (n:=n) (λm=>b);have af:aA H3 "fields" (ϊ X)=d? (ϊ nf):=ay (h3.keep u).at_ h14;have hfl:b? fl<100:=by rw[h16];exact O.fields
  have I:∀{H' T},HK n H g H' T->aH H' (ϊ nf)=d? (aN fl)/\ao H' (ϊ nf)=f?:=λz=>⟨aj (h15.keep z).at_ (by rw[aI];omega),av (h15.keep z).at_⟩
  simp![af];rw[(I u).1,bL,eO,(I u).2];show Cy (ρ:=[d? (ϊ 2),d? (ϋ tid),d? (ϊ n),d? (ϊ X),d? (ϊ (b? H)),o',e?,e?,e?]) (i:=6) (R:=ar f? 0 C.params) (H0:=H3) (gB:=ts3) (λZ Z v K a2=>I ((a3.trans (a2.weak λm e=>x? e)).low λm=>b)) (λH g L t k o7 P=>yz (by omega) H g L t k o7 P) (o:=e?) (o7:=e?) (Nx.refl x3.w.kt).e x3 h16 (λi fid t e1 W=>(h17 i fid t e1 W).keep u) λts4 H4 o6 o7 a4 x4=>?_;have a4:=a3.trans (a4.weak λm e=>x? e);have j:=a4.low (n:=n) (λm=>b);have am:aA H4 "methods" (ϊ X)=d? (ϊ nm):=ay (h3.keep j).at_ h18;have hml:b? ml<100:=by rw[h20];exact O.methods
  have F:∀{H' T},HK n H g H' T->aH H' (ϊ nm)=d? (aN ml)/\ao H' (ϊ nm)=f?:=λz=>⟨aj (h19.keep z).at_ (by rw[aI];omega),av (h19.keep z).at_⟩
  simp![am];rw[(F j).1,bL,eO,(F j).2];show Ge (C:=C) (ρ:=[d? (ϊ 2),d? (ϋ tid),d? (ϊ n),d? (ϊ X),d? (ϊ (b? H)),o',o6,o7,e?]) (i:=8) (H0:=H4) (gB:=ts4) (λv K a2=>F ((a4.trans a2).low λm=>b)) hb hlt (λH g L M mid P=>BU (by omega) O H g L M mid P) (o:=e?) (λZ h=>h) (Nx.refl x4.w.kt).e x4 (c.keep j) h20 (λi mid M e1 W=>(h21 i mid M e1 W).keep j) λts5 H5 o8 a5 x5=>?_;exact fin (a4.trans a5) x5
 have l:=a1.low (n:=n) (λm=>b);have N:aA y "base" (ϊ X)=d? (ϋ ib):=ay (h3.keep l).at_ h4;simp![N];match s:C.base,O.base with
 |[],_=>
  rw[h5 s];exact A (o6:=e?) (o7:=e?) (o8:=e?) a1 B (by rw[s];rfl)
 |[t],_=>
  show bf (h6 t s) λk q_1 W=>?_;subst q_1;simp![show ¬((k:C?)= -1) from by omega,N];show hX (by omega) B (l.code _ _ W) λv K a2 x2=>?_;exact A (o6:=e?) (o7:=e?) (o8:=e?) (a1.trans (a2.weak λm e=>x? e)) x2 (by rw[s];(simp![xR]))
 |_::_::_,h=>simp only[Q?] at h;omega
end
def aU (us:g? Tm):g? V:=us.map Tm.toV
theorem ax:b? (aU us)=b? us:=by simp[aU]
theorem Ew:aU us++aU vs=aU (us++vs):=by simp[aU]
theorem fb (t:Tm):∃x l,t.toV=ύ (x::l):=by cases t using ϐ<;>exact⟨_,_,rfl⟩
def Yz (s:k!):U:=if s== ("a":k!) then .a else if s== ("r":k!) then .r else if s== ("b":k!) then .b else if s== ("o":k!) then .o else .w
theorem Qm (k:U):Yz k.tag=k:=by cases k using ϙ<;>kernel_rfl
def strAt (l:g? V):k!:=match l.getD 0 ϖ with
 |Ϗ s=>s
 |_=>""
def L9:m?->V->Tm
 |0,_=>.p 0
 |n+1,v=>
  let l:=ve v
  let s:=strAt l
  let x:=l.getD 1 ϖ
  let r:=l.getD 2 (ϋ 0)
  if s== ("p":k!) then .p (natOf x) else if s== ("m":k!)||s== ("x":k!) then .q (s== ("m":k!)) (natOf x)
  else if s== ("v":k!)||s== ("c":k!) then i_ (ve r) (Ϡ (s== ("v":k!)) (natOf x)) λy Z=>ϗ (s== ("v":k!)) (natOf x) (L9 n y)
  else if s== ("f":k!) then i_ (ve r) (.f0 (L9 n x)) λy Z=>.f1 (L9 n x) (L9 n y)
  else .u (Yz s) (L9 n x)
theorem DN (t:Tm):∀n,t.size<=n->L9 n t.toV=t:=by
 have k:∀{n a:m?},a+1<=n->∃m,n=m+1/\a<=m:=λ{n a} h=>by
  cases n using aac with
  |zero=>exact absurd h (Ĭ _)
  |succ m=>exact⟨m,rfl,ķ h⟩
 induction t with
 |p i=>intro n h;obtain⟨m,rfl,H⟩:=k h;kernel_rfl
 |q s i=>intro n h;obtain⟨m,rfl,H⟩:=k h;cases s using so<;>kernel_rfl
 |n0 s i=>intro n h;obtain⟨m,rfl,H⟩:=k h;cases s using so<;>kernel_rfl
 |n1 s i t I=>intro n h;obtain⟨m,rfl,H⟩:=k h;cases s using so<;>exact Ŷ (b:=ϗ _ i (L9 m t.toV)) (by kernel_rfl) (R? _ (I m H))
 |f0 o I=>intro n h;obtain⟨m,rfl,H⟩:=k h;exact Ŷ (b:=.f0 (L9 m o.toV)) (by kernel_rfl) (R? _ (I m H))
 |f1 o t d e=>
  intro n h;obtain⟨m,rfl,H⟩:=k h;show Ŷ (b:=.f1 (L9 m o.toV) (L9 m t.toV)) (by kernel_rfl) ?_;rw[d m (S? (z_ _ _) H),e m (S? (ψ _ _) H)]
 |u c t I=>
  intro n h;obtain⟨m,rfl,H⟩:=k h;show Ŷ (b:=.u (Yz c.tag) (L9 m t.toV)) (by cases c using ϙ<;>kernel_rfl) ?_;rw[I m H,Qm]
theorem PY {a b:Tm} (h:a.toV=b.toV):a=b:=by
 rw[<- DN a (a.size+b.size) (z_ _ _),h,DN b _ (ψ _ _)]
theorem lZ (a b:Tm):V.beq a.toV b.toV=Tm.beq a b:=
 Bool.eq_iff_iff.mpr ((V.beq_iff _ _).trans (Iff.trans ⟨PY,R? _⟩ (Tm.beq_iff a b).symm))
theorem qe (h:t∈ă):V.pl 8 t.toV=j?:=bI (P:=λt=>V.pl 8 t.toV) (by decide+kernel) h
theorem gO (h:t∈ă):V.plain t.toV=j?:=bI (P:=λt=>V.plain t.toV) (by decide+kernel) h
theorem rA (h:∀u∈us,u∈ă):V.cO (aU us)=j?:=by
 unfold V.cO aU;rw[ac7,L?];exact λu H=>gO (h u H)
theorem Ls:((aU us).any λy=>V.beq y t.toV)=fh t us:=by
 unfold aU fh;rw[List.any_map]
 congr 1
 funext u
 exact lZ u t
def Up (H H':Hp):Prop:=∀(m:m?) (c:ā),H[m]? = d? c->H'[m]? = d? c
theorem Up.refl (H:Hp):Up H H:=λZ Z e=>e
theorem Up.trans (a:Up A B) (b:Up B C):Up A C:=λm c e=>b m c (a m c e)
theorem Up.app:Up H (H++X):=λZ Z e=>aC e
theorem Up.len (u:Up H H'):b? H<=b? H':=by
 by_cases h:b? H=0
 ·omega
 ·have a:b? H - 1<b? H:=Nat.pred_lt h;have:=u (b? H - 1) H[b? H - 1] (Z? a);have:=(i?.mp this).1;exact Nat.le_of_pred_lt this
theorem Up.set (u:Up H H') (a:b? H<=n):Up H (H'.set n c):=λm c' e=>by
 have h:=(i?.mp e).1;exact ae (u m c' e) (by omega)
inductive LB (H:Hp):Ĉ->g? (V×V)->Prop
 |nil:LB H [] []
 |cons {t:Tm} {f:m?} {bs:g? Tm} {R:Ĉ} {l:m?} {D:g? (V×V)}:H[l]? = d? (ό (aU bs))->LB H R D->LB H ((t,f,bs)::R) ((t.toV,ύ [ϋ f,ϊ l])::D)
theorem LB.up (u:Up H H') (h:LB H R D):LB H' R D:=by
 induction h with
 |nil=>exact .nil
 |cons h _ i=>exact .cons (u _ _ h) i
inductive Rw (H:Hp) (r:m?) (R:Ĉ):Prop
 |mk (D) (h1_:H[r]? = d? (Ϝ D)) (h2_:LB H R D):Rw H r R
theorem Rw.up (u:Up H H') (w:Rw H r R):Rw H' r R:=let⟨D,h,l⟩:=w;⟨D,u _ _ h,l.up u⟩
theorem Rw.LP (w:Rw H r R):ao H (ϊ r)=j?:=by obtain⟨D,h,l⟩:=id w;simp only[ao,h,fO,F?,Ĕ]
theorem LB.get (h:LB H R D) (t:Tm):(∃l,ea t.toV D=d? (ύ [ϋ (bp R t),ϊ l])/\H[l]? = d? (ό (aU (aQ R t)))/\Đ R t=j?)\/(ea t.toV D=e?/\aQ R t=[]/\bp R t=0/\Đ R t=f?):=by
 induction h with
 |nil=>exact u? ⟨rfl,rfl,rfl,rfl⟩
 |@cons u f bs R l D a _ i=>
  simp only[md,lZ,en,ek,Đ,M!];cases e:Tm.beq u t using so with
  |true=>exact x? ⟨l,by simp only[V!],a,rfl⟩
  |false=>
   exact i
theorem Rw.get (w:Rw H r R) (f:t∈ă) (hz:H[z]? = d? (ό [])):∃l,jb (ϊ r) t.toV (ύ [ϋ 0,ϊ z]) H=d? (ύ [ϋ (bp R t),ϊ l])/\H[l]? = d? (ό (aU (aQ R t))):=by
 obtain⟨D,h,L⟩:=id w;have c:=qe f;have k:jb (ϊ r) t.toV (ύ [ϋ 0,ϊ z]) H=d? ((ea t.toV D).getD (ύ [ϋ 0,ϊ z])):=by
  show zp (fb t) λx l e=>?_;rw[e] at c ⊢;simp only[jb,h,c,V!,vI,vT,fO,F?]
 rw[k];rcases L.get t with q|q
 ·exact jU q λl a b Z=>⟨l,by rw[a];rfl,b⟩
 ·exact U9 q λa b d Z=>⟨z,by rw[a,d];rfl,by rw[b];exact hz⟩
theorem Rw.has (w:Rw H r R) (c:t∈ă):uR H t.toV (ϊ r)=d? (Đ R t):=by
 obtain⟨D,h,L⟩:=id w;have b:=qe c;have a:(D.any λk=>V.beq k.1 t.toV)=Đ R t:=by
  clear h w;induction L with
  |nil=>rfl
  |cons _ _ i=>simp only[M!,Đ,lZ] at i ⊢;rw[i]
 show zp (fb t) λx l e=>?_;rw[e] at b a ⊢;simp only[uR,dU,h,b,V!,a,eD,Gk,vR,nQ,fO,F?]
section
theorem JZ {H:Hp} {chk:Hp->Prop} {p:Hp->Prop} {c:Ă->Hp->(D?->Hp->Prop)->Prop} {e:Ă->Hp->(V->Hp->Prop)->Prop} (a:∀zs,chk (H.set m (ό zs)))
  (d:∀ρ H P,P j? H->c ρ H P) (f:∀ρ H P v,look ρ 1=d? v->P v H->e ρ H P) :
  ∀{xs ys:g? V} {ρ:Ă},1<b? ρ->m<b? H->b? ys+b? xs<1000000->p (H.set m (ό (ys++xs)))->cC [1] c e chk m xs ρ (H.set m (ό ys)) p:=by
 intro l;induction l with
 |nil=>
  exact λz k n q=>by rename_i ys ρ;exact⟨a ys,by simpa using q⟩
 |cons x xs i=>
  exact λh b j q=>by
   rename_i ys ρ;simp only[Q?] at j;simp![];show⟨a ys,?_⟩;change c (put x ρ 1) _ _;show d _ _ _ (f _ _ _ x (rM h) ?_);have g:(H.set m (ό ys))[m]? = d? (ό ys):=B! b;rw[aV g (by omega),bL,o_];exact i (ys:=ys++[x]) (by rw[dn];simpa using h) b (by simp;omega) (by simpa using q)
end
def Tm.Gj (T:Tm):D?:=ϐ T (λZ=>f?) (λZ Z=>f?) (λs Z=>!s) (λs Z Z=>!s) (λZ=>f?) (λZ Z=>f?) (λZ Z=>f?)
def Tm.jq (T:Tm):D?:=ϐ T (λZ=>f?) (λZ Z=>f?) (λs Z=>s) (λs Z Z=>s) (λZ=>f?) (λZ Z=>f?) (λZ Z=>f?)
def Tm.JE (T:Tm):D?:=ϐ T (λZ=>f?) (λs Z=>!s) (λZ Z=>f?) (λZ Z Z=>f?) (λZ=>f?) (λZ Z=>f?) (λZ Z=>f?)
def Tm.QQ (T:Tm):D?:=ϐ T (λZ=>f?) (λs Z=>s) (λZ Z=>f?) (λZ Z Z=>f?) (λZ=>f?) (λZ Z=>f?) (λZ Z=>f?)
def Tm.WR (T:Tm):D?:=ϐ T (λZ=>f?) (λZ Z=>f?) (λZ Z=>f?) (λZ Z Z=>f?) (λZ=>j?) (λZ Z=>j?) (λZ Z=>f?)
def Tm.wa (T:Tm):D?:=ϐ T (λZ=>j?) (λZ Z=>f?) (λZ Z=>f?) (λZ Z Z=>f?) (λZ=>f?) (λZ Z=>f?) (λZ Z=>f?)
def Tm.NR (c:U) (T:Tm):D?:=ϐ T (λZ=>f?) (λZ Z=>f?) (λZ Z=>f?) (λZ Z Z=>f?) (λZ=>f?) (λZ Z=>f?) (λk Z=>U.beq k c)
theorem Us (t:Tm):Â t.tag=j?:=by
 cases t using ϐ with
 |p n=>kernel_rfl
 |q s n=>cases s using so<;>kernel_rfl
 |n0 s n=>cases s using so<;>kernel_rfl
 |n1 s n t=>cases s using so<;>kernel_rfl
 |f0 o=>kernel_rfl
 |f1 o t=>kernel_rfl
 |u k t=>cases k using ϙ<;>kernel_rfl
section
variable {H:Hp} {t:Tm}
theorem aY:bN t.toV (ϋ 0) H=d? (Ϗ t.tag):=by
 cases t using ϐ<;>rfl
theorem fi {x:k!} (a:Â x=j?):bZ I_ (Ϗ t.tag) (Ϗ x) H=d? (t.tag== x):=by
 have h:=Us t;simp only[bZ,V.plain,V.pl,h,a,acI,V!,V.Mg,V.AF,V.rx,V.Mf,V.CC,V.Me,V.KJ,Bx]
theorem i8:bZ I_ (Ϗ t.tag) (Ϗ "c") H=d? t.Gj:=by
 rw[fi (by decide+kernel)];cases t using ϐ with
 |q s n=>cases s using so<;>rfl
 |n0 s n=>cases s using so<;>rfl
 |n1 s n t=>cases s using so<;>rfl
 |u k t=>cases k using ϙ<;>rfl
 |_=>rfl
theorem kO:bZ I_ (Ϗ t.tag) (Ϗ "v") H=d? t.jq:=by
 rw[fi (by decide+kernel)];cases t using ϐ with
 |q s n=>cases s using so<;>rfl
 |n0 s n=>cases s using so<;>rfl
 |n1 s n t=>cases s using so<;>rfl
 |u k t=>cases k using ϙ<;>rfl
 |_=>rfl
theorem kJ:bZ I_ (Ϗ t.tag) (Ϗ "x") H=d? t.JE:=by
 rw[fi (by decide+kernel)];cases t using ϐ with
 |q s n=>cases s using so<;>rfl
 |n0 s n=>cases s using so<;>rfl
 |n1 s n t=>cases s using so<;>rfl
 |u k t=>cases k using ϙ<;>rfl
 |_=>rfl
theorem mv:bZ I_ (Ϗ t.tag) (Ϗ "m") H=d? t.QQ:=by
 rw[fi (by decide+kernel)];cases t using ϐ with
 |q s n=>cases s using so<;>rfl
 |n0 s n=>cases s using so<;>rfl
 |n1 s n t=>cases s using so<;>rfl
 |u k t=>cases k using ϙ<;>rfl
 |_=>rfl
theorem KX:bZ I_ (Ϗ t.tag) (Ϗ "f") H=d? t.WR:=by
 rw[fi (by decide+kernel)];cases t using ϐ with
 |q s n=>cases s using so<;>rfl
 |n0 s n=>cases s using so<;>rfl
 |n1 s n t=>cases s using so<;>rfl
 |u k t=>cases k using ϙ<;>rfl
 |_=>rfl
theorem Tg:bZ I_ (Ϗ t.tag) (Ϗ "p") H=d? t.wa:=by
 rw[fi (by decide+kernel)];cases t using ϐ with
 |q s n=>cases s using so<;>rfl
 |n0 s n=>cases s using so<;>rfl
 |n1 s n t=>cases s using so<;>rfl
 |u k t=>cases k using ϙ<;>rfl
 |_=>rfl
theorem Xw:bZ I_ (Ϗ t.tag) (Ϗ "a") H=d? (t.NR .a):=by
 rw[fi (by decide+kernel)];cases t using ϐ with
 |q s n=>cases s using so<;>rfl
 |n0 s n=>cases s using so<;>rfl
 |n1 s n t=>cases s using so<;>rfl
 |u k t=>cases k using ϙ<;>rfl
 |_=>rfl
theorem uO:bZ I_ (Ϗ t.tag) (Ϗ "r") H=d? (t.NR .r):=by
 rw[fi (by decide+kernel)];cases t using ϐ with
 |q s n=>cases s using so<;>rfl
 |n0 s n=>cases s using so<;>rfl
 |n1 s n t=>cases s using so<;>rfl
 |u k t=>cases k using ϙ<;>rfl
 |_=>rfl
theorem RE:bZ I_ (Ϗ t.tag) (Ϗ "b") H=d? (t.NR .b):=by
 rw[fi (by decide+kernel)];cases t using ϐ with
 |q s n=>cases s using so<;>rfl
 |n0 s n=>cases s using so<;>rfl
 |n1 s n t=>cases s using so<;>rfl
 |u k t=>cases k using ϙ<;>rfl
 |_=>rfl
def vj (t:Tm):D?:=t.WR||t.NR .b||t.NR .o||t.NR .w
theorem Qd:bZ W! (Ϗ t.tag) (ύ [Ϗ "b",Ϗ "o",Ϗ "f",Ϗ "w"]) H=d? (vj t):=by
 cases t using ϐ with
 |q s n=>cases s using so<;>kernel_rfl
 |n0 s n=>cases s using so<;>kernel_rfl
 |n1 s n t=>cases s using so<;>kernel_rfl
 |u k t=>cases k using ϙ<;>kernel_rfl
 |_=>kernel_rfl
theorem jt {u:Tm} (c:t∈ă) (f:u∈ă):bZ I_ t.toV u.toV H=d? (Tm.beq t u):=by
 have h:=gO c;have b:=gO f;have a:=lZ t u;show zp (fb t) λx l e=>zp (fb u) λy m E=>?_;rw[e] at h a ⊢;simp only[bZ,h,b,acI,V!,a,Bx]
theorem qb (h:t∈ă):bZ I_ t.toV (ύ [Ϗ "p",ϋ 14]) H=d? (Tm.beq t (.p 14)):=jt (u:=.p 14) h (aO.mp (by decide+kernel))
theorem DP (h:t∈ă):bZ I_ t.toV (ύ [Ϗ "p",ϋ 15]) H=d? (Tm.beq t (.p 15)):=jt (u:=.p 15) h (aO.mp (by decide+kernel))
theorem TL (h:t∈ă):bZ I_ t.toV (ύ [Ϗ "p",ϋ 7]) H=d? (Tm.beq t (.p 7)):=jt (u:=.p 7) h (aO.mp (by decide+kernel))
theorem Vh (h:t∈ă):bZ I_ t.toV (ύ [Ϗ "p",ϋ 0]) H=d? (Tm.beq t (.p 0)):=jt (u:=.p 0) h (aO.mp (by decide+kernel))
theorem WA (h:t∈ă):bZ I_ t.toV (ύ [Ϗ "c",ϋ 64,ύ []]) H=d? (Tm.beq t tA):=jt (u:=tA) h (aO.mp (by decide+kernel))
end
def Kr (n:m?):D?:=!decide (n=2\/n=66\/n=67\/n=73)
def Tm.num (T:Tm):m?:=ϐ T (λZ=>0) (λZ Z=>0) (λZ n=>n) (λZ n Z=>n) (λZ=>0) (λZ Z=>0) (λZ Z=>0)
def iD (t:Tm):D?:=if t.Gj=j? then Kr t.num else t.NR .a||(t.NR .b||Tm.beq t (.p 14))
def ei (t:Tm):D?:=t.jq||Tm.beq t (.p 7)
def Tm.parts (T:Tm):g? Tm:=ϐ T (λZ=>[]) (λZ Z=>[]) (λZ Z=>[]) (λZ Z t=>[t]) (λZ=>[]) (λZ Z=>[]) (λk t=>ϙ k ([t]) ([t]) ([]) ([]) ([]))
section
variable {d:m?} {H:Hp} {Q:V->Hp->Prop} {R:Ĉ} {r:m?} {t:Tm}
theorem TJ {n:m?}:bZ E! (ϋ n) (ύ [ϋ 2,ϋ 66,ϋ 67,ϋ 73]) H=d? (Kr n):=by
 change(d? _:p? D?).map _=_;simp only[ĸ,M!,abm,V.rx]
 congr 2
 by_cases h:n=2
 ·subst h;rfl
 ·by_cases a:n=66
  ·subst a;rfl
  ·by_cases b:n=67
   ·subst b;rfl
   ·by_cases c:n=73
    ·subst c;rfl
    ·rw[show((2:C?)== (n:C?))=f? from by simp;omega,show((66:C?)== (n:C?))=f? from by simp;omega,show((67:C?)== (n:C?))=f? from by simp;omega,show((73:C?)== (n:C?))=f? from by simp;omega];simp[h,a,b,c]
theorem PU (h:t.Gj=j?\/t.jq=j?):bN t.toV (ϋ 1) H=d? (ϋ t.num):=by
 cases t using ϐ<;>first|rfl|(rcases h with h|h<;>cases h)
theorem su (f:1<=d) (g:t∈ă) (q:Q (ϑ (iD t)) H):aG d 810 [t.toV] H Q:=by
 show mu.go f rfl λd f=>?_;unfold iD at q;simp![aw (aY),aw (i8)];cases c:t.Gj using so with
 |true=>
  rw[c] at q;simp![aw (PU (x? c)),aw (TJ)];(try simp only[V!] at q);(simp![]);exact q
 |false=>
  rw[c] at q;simp![aw (aY),aw (Xw)];cases e:t.NR .a using so with
  |true=>rw[e] at q;(try simp only[] at q);(simp![]);exact q
  |false=>
   rw[e] at q;replace q:=q;cases h:t.NR .b using so with
   |true=>rw[h] at q;(try simp only[] at q);(simp![h,aw (aY),aw (RE)]);exact q
   |false=>rw[h] at q;(try simp only[aa9] at q);(simp![h,aw (aY),aw (RE),aw (qb g)]);exact q
theorem jw (a:1<=d) (b:t∈ă) (q:Q (ϑ (ei t)) H):aG d 817 [t.toV] H Q:=by
 show mT.go a rfl λd a=>?_;unfold ei at q;simp![aw (aY),aw (kO)];cases h:t.jq using so with
 |true=>rw[h] at q;(try simp only[ο] at q);(simp![]);exact q
 |false=>rw[h] at q;(try simp only[G!] at q);(simp![aw (TL b)]);exact q
theorem oC (h:1<=d) (q:Q (ύ (aU t.parts)) H):aG d 836 [t.toV] H Q:=by
 show ro.go h rfl λd h=>?_;cases t using ϐ with
 |q s n=>cases s using so<;>exact bl (n:=20) (by kernel_rfl) q
 |n0 s n=>cases s using so<;>exact bl (n:=20) (by kernel_rfl) q
 |n1 s n t=>cases s using so<;>exact bl (n:=20) (by kernel_rfl) q
 |u k t=>cases k using ϙ<;>exact bl (n:=20) (by kernel_rfl) q
 |_=>exact bl (n:=20) (by kernel_rfl) q
def ru:g? (m?×m?):=[(2,0),(64,0),(65,0),(66,0),(67,1),(68,0),(69,1),(70,1),(71,1),(72,1),(73,0)]
def eC (n:m?):g? (m?×m?)->C?
 |[]=>-1
 |p::r=>if p.1=n then(p.2:C?) else eC n r
theorem JV (n:m?):eC n []= -1:=rfl
theorem sP (n:m?) (p:m?×m?) (r:g? (m?×m?)):eC n (p::r)=if p.fst=n then ↑p.snd else eC n r:=rfl
theorem count_loop {n:m?} {chk:Hp->Prop} {P:Fl->Ă->Hp->Prop} (j:chk H):∀{ps:g? (m?×m?)} {o:p? V},(∀f o,f.val=ϋ (eC n ps)->P f [d? (ϋ n),o] H\/ŀ)->
  ((∃p∈ps,p.1=n)->∀o,P (ϣ (ϋ (eC n ps))) [d? (ϋ n),o] H)->((¬∃p∈ps,p.1=n)->∀o,P ϒ [d? (ϋ n),o] H)->
  bG (bu Ā d kI) (d6 Ā d (ϝ 1)) chk (ps.map λp=>ύ [ϋ (p.1:m?),ϋ (p.2:m?)]) [d? (ϋ n),o] H P:=by
 intro l;induction l with
 |nil=>
  exact λz m b=>by rename_i o;exact⟨j,b (by simp) o⟩
 |cons p ps i=>
  exact λk g b=>by
   rename_i o;show⟨j,?_⟩;simp![rB,sh];clear k;by_cases e:p.1=n
   ·simp![show((p.1:m?):C?)=(n:C?) from by omega];have:=g ⟨p,o?,e⟩ (d? (ύ [ϋ (n:C?),ϋ (p.2:m?)]));simp only[sP,e] at this;exact this
   ·have E:¬((p.1:m?):C?)=(n:C?):=by omega
    simp![E];show i (λZ Z Z=>u? trivial) (λ⟨x,h,a⟩ o=>?_) (λc o=>b (λ⟨x,h,a⟩=>?_) o)
    ·have:=g ⟨x,q? _ h,a⟩ o;simp only[sP,e] at this;exact this
    ·rcases G?.mp h with rfl|h
     ·exact e a
     ·simp![*];exact c ⟨x,h,a⟩
theorem Jr {n:m?}:∀{ps:g? (m?×m?)},(¬∃p∈ps,p.1=n)->eC n ps= -1:=by
 intro l;induction l with
 |nil=>
  exact λZ=>rfl
 |cons p ps i=>
  exact λh=>by
   simp only[JV,sP];rw[E? λe=>h ⟨p,o?,e⟩];exact i λ⟨x,a,e⟩=>h ⟨x,q? _ a,e⟩
theorem oO {n:m?} (a:1<=d) (q:Q (ϋ (eC n ru)) H):aG d 850 [ϋ n] H Q:=by
 show qJ.go a rfl λd a=>?_;simp![];show bo (ba (by decide)) ?_;show count_loop (ps:=ru) ⟨ba (by decide),rfl⟩ (λZ Z Z=>u? trivial) (λh o=>?_) (λh o=>?_)
 ·exact q
 ·rw[Jr h] at q;exact q
end
section
theorem in_list (c:H[m]? = d? (ό (aU us))) (f:∀u∈us,u∈ă) (d:t∈ă):bZ W! t.toV (ϊ m) H=d? (fh t us):=by
 have b:=rA f;have h:=gO d;have a:=Ls (us:=us) (t:=t);show zp (fb t) λx l e=>?_;rw[e] at h a ⊢;simp only[bZ,uR,dU,c,b,V!,h,a,eD,Gk,vR,nQ,fO,F?]
theorem ic (h:H[m]? = d? (ό (aU us))) (b:∀u∈us,u∈ă) (a:t∈ă):bZ E! t.toV (ϊ m) H=d? (!fh t us):=by
 have:=in_list h b a;simp only[bZ] at this ⊢;rw[this];rfl
theorem add_list (a:H[m]? = d? (ό xs)) (b:H[n]? = d? (ό ys)) (h:b? xs+b? ys<10000000):cY v! (ϊ m) (ϊ n) H=d? (ϊ (b? H),H++[ό (xs++ys)]):=by
 change((listAt H m).bind λx=>(listAt H n).bind λy=>if v!=v!/\b? x+b? y<aJ then d? (ϊ (b? H),H++[ό (x++y)]) else e?)=_;rw[uK a,uK b];exact P? ⟨rfl,h⟩
theorem Ji:fh t us=f?↔t∉us:=by
 constructor
 ·intro h H;rw[aO.mpr H] at h;cases h
 ·intro h;cases e:fh t us using so with
  |false=>rfl
  |true=>exact absurd (aO.mp e) h
inductive Zz (H:Hp) (R:Ĉ) (r:m?) (t:Tm) (n:m?) (ρ:Ă) (Hc:Hp):Prop
 |mk (bs td:g? Tm) (m:m?) (o3:p? V) (h1_:n=b? td+bX R bs) (h2_:ρ=[d? (ϊ r),d? t.toV,d? (ϊ (b? H)),o3,d? (ϊ m)]) (h3_:Up H Hc) (h4_:Hc[b? H]? = d? (ό (aU bs))) (h5_:Hc[m]? = d? (ό (aU td))) (h6_:b? H<m) (h7_:bs.Nodup) (h8_:(∀b∈bs,Ą R t b)) (h9_:(∀b∈td,Ą R t b)) (h10_:(∀b∈aQ R t,b∈bs\/b∈td)) (h11_:(∀c∈bs,∀b∈aQ R c,b∈bs\/b∈td)) (h12_:n<=20):Zz H R r t n ρ Hc
theorem fU (hd:1<=d) (o:bj R) (w:Rw H r R) (ht:t∈ă)
  (q:∀H' n bs,Up H H'->H'[n]? = d? (ό (aU bs))->b? H<=n->bs.Nodup->(∀b,b∈bs↔Ą R t b)->Q (ϊ n) H'):aG d 803 [ϊ r,t.toV] H Q:=by
 show qV.go hd rfl λd hd=>?_;have u1:Up H (H++[ό []]):=Up.app;have W:=w.up u1;have w2:=W.up (Up.app (X:=[ό []]));have z2:(H++[ό []]++[ό []])[b? H+1]? = d? (ό []):=by
  have:=aD (H:=H++[ό []]) (c:=ό [])
  simpa using this
 show bf (w2.get ht z2) λl s B=>?_;have Y:=o.eK t;have L:b? (H++[ό []])=b? H+1:=I?;simp![W.LP,L,K?,s];show bo (aj B (by rw[ax];omega)) ?_;have u2:Up H (H++[ό []]++[ό []]):=u1.trans Up.app;have J:(H++[ό []]++[ό []])[b? H]? = d? (ό []):=aC aD;have l3:b? (H++[ό []]++[ό []])=b? H+2:=by simp
 generalize (H++[ό []]++[ό []])=f at *;have e3:f++[ό []]=(f++[ό []]).set (b? f) (ό []):=(cV aD).symm;have hl2:l<b? f:=(i?.mp B).1;rw[ik,e3];show JZ (H:=f++[ό []]) (ys:=[]) (λzs=>⟨aj (ae (aC B) (by omega)) (by rw[ax];omega),by rw[av (ae (aC B) (by omega)),av B]⟩) (λρ H P h=>h) (λρ H P v h1 h2=>by change Aq (look _ _) _;rw[h1];exact h2) (J? _) (by simp) (by rw[ax];simp;omega) ?_;rw[Y_];have u3:Up H ((f++[ό []]).set (b? f) (ό (aU (aQ R t)))):=(u2.trans Up.app).set (by omega);have d0:((f++[ό []]).set (b? f) (ό (aU (aQ R t))))[b? H]? = d? (ό []):=ae (aC J) (by omega);have d1:((f++[ό []]).set (b? f) (ό (aU (aQ R t))))[b? f]? = d? (ό (aU (aQ R t))):=ah aD;generalize ((f++[ό []]).set (b? f) (ό (aU (aQ R t))))=H3 at *;have hus:∀S,bX R S<=10:=λS=>by have:=fe (S:=S) o.few;have:=o.short;omega
 simp![*,W.LP,L,K?,s];show⟨Zz H R r t,b? (aQ R t)+bX R [],⟨[],aQ R t,b? f,_,rfl,rfl,u3,d0,d1,by omega,V_,(λ_ h=>nomatch h),λb D=>.one D,λb D=>u? D,(λ_ h=>nomatch h),?_⟩,?_⟩
 ·have:=hus [];omega
 rintro n ρ I ⟨bs,td,m,o3,hn,rfl,ac,J,C,hm,N,rb,rt,i,cl,hn20⟩;have Y:b? bs<200:=cy N λb D=>aZ ((rb b D).lO o);simp![aw (len_list C (show(aU td).length<10000000 by rw[ax];omega)),ax];rcases List.eq_nil_or_concat td with rfl|q_
 ·simp![J_,Int.lt_irrefl];show q I (b? H) bs ac J (J? _) N λb=>⟨rb b,λhr=>?_⟩
  induction hr with
  |one h=>exact(i _ h).elim id λh=>by cases h
  |more _ h ih=>exact(cl _ ih _ h).elim id λh=>by cases h
 ·show zp q_ λT b F=>?_;try clear q_
  rw[List.concat_eq_append] at F;subst F;have a:(0:C?)<(b? (T++[b]):m?):=by simp only[I?,Z_];omega
  have k:Ą R t b:=rt b (i! _ o?);have hbu:b∈ă:=aZ (k.lO o);simp only[I?,Z_] at hn;simp![a];rw[show aU (T++[b])=aU T++[b.toV] from by simp[aU]] at C;replace C:=C;simp![*,W.LP,L,K?,s,aw (len_list C (show(aU td).length<10000000 by rw[ax];omega)),ax,a];show bo (mY C (by rw[ax];omega)) ?_;have c0':(I.set m (ό (aU T)))[b? H]? = d? (ό (aU bs)):=ae J (by omega);have z:(I.set m (ό (aU T)))[m]? = d? (ό (aU T)):=ah C;have A:=ac.set (n:=m) (c:=ό (aU T)) (by omega);generalize (I.set m (ό (aU T)))=M at *;simp![aw (ic c0' (λu hu=>aZ ((rb u hu).lO o)) hbu)];cases hs:fh b bs using so with
  |true=>
   have g:=aO.mp hs;show⟨b? T+bX R bs,by omega,bs,T,m,_,rfl,rfl,A,c0',z,hm,N,rb,λx e=>rt x (by simp[e]),λx e=>?_,λc j x e=>?_,by omega⟩
   ·rcases i x e with h|h
    ·exact x? h
    ·rcases N?.mp h with h|h
     ·exact u? h
     ·rw[B?.mp h];exact x? g
   ·rcases cl c j x e with h|h
    ·exact x? h
    ·rcases N?.mp h with h|h
     ·exact u? h
     ·rw[B?.mp h];exact x? g
  |false=>
   have g:=Ji.mp hs;simp![bq c0',aw (aV c0' (v:=b.toV) (by rw[ax];omega)),K?];have f0:(M.set (b? H) (ό (aU bs++[b.toV])))[b? H]? = d? (ό (aU (bs++[b]))):=by rw[show aU (bs++[b])=aU bs++[b.toV] from by simp[aU]];exact ah c0'
   have f3:(M.set (b? H) (ό (aU bs++[b.toV])))[m]? = d? (ό (aU T)):=ae z (by omega);have O:=A.set (n:=b? H) (c:=ό (aU bs++[b.toV])) (J? _);generalize (M.set (b? H) (ό (aU bs++[b.toV])))=p at *;have wf:=w.up O;have wg:=wf.up (Up.app (X:=[ό []]));show bf (wg.get hbu aD) λl' K j2=>?_;have hbb:=o.eK b;have hadd:=lD hs (R:=R);simp![wf.LP,K?,K];show bo (add_list (aC f3) j2 (by rw[ax,ax];omega)) ?_;have g0:(p++[ό []]++[ό (aU T++aU (aQ R b))])[b? H]? = d? (ό (aU (bs++[b]))):=aC (aC f0);have g3:(p++[ό []]++[ό (aU T++aU (aQ R b))])[b? (p++[ό []])]? = d? (ό (aU (T++aQ R b))):=by rw[<- Ew];exact aD
   have ag:=(O.trans (Up.app (X:=[ό []]))).trans (Up.app (X:=[ό (aU T++aU (aQ R b))]));have hlm:b? H<b? (p++[ό []]):=by have:=O.len;simp;omega
   generalize (b? (p++[ό []]))=m' at *;generalize (p++[ό []]++[ό (aU T++aU (aQ R b))])=Hg at *;show⟨b? (T++aQ R b)+bX R (bs++[b]),by simp only[I?];omega,bs++[b],T++aQ R b,m',_,rfl,rfl,ag,g0,g3,hlm,?_,λx e=>?_,λx e=>?_,λx e=>?_,λc j x e=>?_,by simp only[I?];omega⟩
   ·rw[f_];simp![*,W.LP,L,K?,s,aw (len_list C (show(aU td).length<10000000 by rw[ax];omega)),ax,a,aw (ic c0' (λu hu=>aZ ((rb u hu).lO o)) hbu),bq c0',aw (aV c0' (v:=b.toV) (by rw[ax];omega)),wf.LP,K];exact⟨N,by simp,λx e y hy=>by rw[B?.mp hy];rintro rfl;exact g e⟩
   ·rcases N?.mp e with h|h
    ·simp![*,W.LP,L,K?,s,aw (len_list C (show(aU td).length<10000000 by rw[ax];omega)),ax,a,aw (ic c0' (λu hu=>aZ ((rb u hu).lO o)) hbu),bq c0',aw (aV c0' (v:=b.toV) (by rw[ax];omega)),wf.LP,K];exact rb x h
    ·rw[B?.mp h];exact k
   ·rcases N?.mp e with h|h
    ·simp![*,W.LP,L,K?,s,aw (len_list C (show(aU td).length<10000000 by rw[ax];omega)),ax,a,aw (ic c0' (λu hu=>aZ ((rb u hu).lO o)) hbu),bq c0',aw (aV c0' (v:=b.toV) (by rw[ax];omega)),wf.LP,K];exact rt x (V? _ h)
    ·exact .more k h
   ·rcases i x e with h|h
    ·exact x? (V? _ h)
    ·rcases N?.mp h with h|h
     ·exact u? (V? _ h)
     ·exact x? (i! _ h)
   ·rcases N?.mp j with j|j
    ·rcases cl c j x e with h|h
     ·exact x? (V? _ h)
     ·rcases N?.mp h with h|h
      ·exact u? (V? _ h)
      ·exact x? (i! _ h)
    ·rw[B?.mp j] at e;exact u? (i! _ e)
end
theorem xU {P:Tm->D?} (h:cI.all P=j?) (H:t∈cI):P t=j?:=L?.mp h t H
theorem yp (h:b∈cI):ei b=b.isVal:=by
 have:=xU (P:=λb=>ei b== b.isVal) (by decide+kernel) h
 simpa using this
theorem z5 (h:b∈cI):iD b=b.um:=by
 have:=xU (P:=λb=>iD b== b.um) (by decide+kernel) h
 simpa using this
def rn (a:Tm) (tid:m?):D?:=(tid== 69&&(a.isVar||a.isRef== !ei a))||((tid== 70||tid== 71)&&ei a== a.isVal)||tid== 72
theorem Qo (h:ϗ s tid a∈ă) (H:68<tid) (b:tid<73):rn a tid=j?:=by
 have:=bI (P:=λt=>match t with| ϗ s tid a=>!(decide (68<tid)&&decide (tid<73))||rn a tid| _=>j?) (by decide+kernel) h
 simpa [H,b] using this
theorem wO (h:t∈ă) (c:t.named=j?):(eC t.num ru<0↔iR t.tid=f?)/\(iR t.tid=j?->eC t.num ru=d5 t.tid/\decide (bD t.tid=2)=decide (t.num=68))/\t.num=t.tid:=by
 have:=bI (P:=λt=>!t.named||(decide (eC t.num ru<0)== !iR t.tid&&(!iR t.tid||decide (eC t.num ru=d5 t.tid)&&decide (bD t.tid=2)== decide (t.num=68))&&decide (t.num=t.tid))) (by decide+kernel) h;rw[c] at this;simp only[ŋ,G!,Y?,Ğ,U?,O!] at this;obtain⟨⟨a,H⟩,b⟩:=this;show⟨?_,λe=>?_,b⟩
 ·rw[<- aa1 (p:=eC t.num ru<0),a];cases iR t.tid<;>simp
 ·rcases H with H| H
  ·rw[e] at H;cases H
  ·exact H
section
theorem J7 (o:bj R) (b:t.isVar=f?):bp R t=0:=by
 have:∀{R:Ĉ},(∀p∈R,p.1.isVar=j?)->bp R t=0:=by
  intro R;induction R with
  |nil=>intro Z;rfl
  |cons p R i=>
   intro h;obtain⟨u,f,bs⟩:=p;simp only[ek];have a:=h _ o?;have:Tm.beq u t=f?:=by
    cases e:Tm.beq u t using so with
    |false=>rfl
    |true=>rw[(Tm.beq_iff _ _).mp e,b] at a;cases a
   rw[this,E? (by decide)];exact i λp H=>h p (q? _ H)
 exact this λp H=>(o.keys p H).1
theorem FX {d:m?} {R:Ĉ} {r:m?} {t:Tm} {P:Fl->Ă->Hp->Prop} (y:1<=d) (o:bj R) (p:b? all<1000):∀{us:g? Tm} {O:p? V} {H':Hp},(∀u∈us,u∈ă)->Rw H' r R->H'[n]? = d? (ό (aU all))->
  ((∃u∈us,ei u=j?\/bp R u &&& 2≠0)->∀H O,Up H' H->P (ϣ (ϑ j?)) [d? (ϊ r),d? t.toV,O] H)->((¬∃u∈us,ei u=j?\/bp R u &&& 2≠0)->∀H O,Up H' H->P ϒ [d? (ϊ r),d? t.toV,O] H)->
  bG (bu Ā d i5) (d6 Ā d (ϝ 2)) (λH'=>aH H' (ϊ n)=d? (aU all)/\ao H' (ϊ n)=f?) (aU us) [d? (ϊ r),d? t.toV,O] H' P:=by
 intro L;induction L with
 |nil=>
  exact λk w a c i=>by rename_i O H';exact⟨⟨aj a (by rw[ax];omega),av a⟩,i (by simp) H' O (Up.refl _)⟩
 |cons u us I=>
  exact λk w a c i=>by
   rename_i O H';simp![];show⟨⟨aj a (by rw[ax];omega),av a⟩,?_⟩;have b:=k u o?;simp![];show jw (by omega) b ?_;cases q:ei u using so with
   |true=>
    simp![];exact c ⟨u,o?,x? q⟩ H' _ (Up.refl _)
   |false=>
    have W:=w.up (Up.app (X:=[ό []]));show bf (W.get b aD) λl s v=>?_;have z:=dI o u;simp![w.LP,K?,s];rw[show(2:C?)=((2:m?):C?) from rfl,jV (by omega) (by omega),bL];by_cases f:bp R u &&& 2=0
    ·simp![f];show I (λx h=>k x (q? _ h)) W (aC a) (λ⟨x,h,e⟩ H O m=>c ⟨x,q? _ h,e⟩ H O (Up.app.trans m)) (λj H O m=>i (λ⟨x,h,e⟩=>?_) H O (Up.app.trans m));clear z v s b i c k;rcases G?.mp h with rfl|h
     ·rcases e with e|e
      ·rw[q] at e;cases e
      ·exact e f
     ·exact j ⟨x,h,e⟩
    ·have g:¬(((bp R u &&& 2:m?)):C?)=0:=by omega
     simp![Ī,g];exact c ⟨u,o?,u? f⟩ _ _ Up.app
theorem mK (v:3<=d) (o:bj R) (w:Rw H r R) (x:t∈ă) (y:ei t=t.isVal)
  (q:∀(k:D?) H',(k=j?↔iW R t)->Up H H'->Q (ϑ k) H'):aG d 824 [ϊ r,t.toV] H Q:=by
 show pj.go v rfl λd v=>?_;simp![];show fU (by omega) o (w.up Up.app) x λl n bs A I F N a=>?_;have D:b? bs<200:=cy N λb C=>aZ (((a b).mp C).lO o);have B:=A _ _ (aD (H:=H) (c:=ό [t.toV]));show bo (add_list B I (by rw[ax];simp;omega)) ?_;have m:Up H (l++[ό ([t.toV]++aU bs)]):=(Up.app.trans A).trans Up.app;have f:(l++[ό ([t.toV]++aU bs)])[b? l]? = d? (ό (aU (t::bs))):=aD;skip;simp only[m_,Y_] at m f ⊢;simp![];rw[aj f (by rw[ax];simp;omega),bL,eO,av f];generalize (l++[ό (t.toV::aU bs)])=J at *;have s:(∃u∈t::bs,ei u=j?\/bp R u &&& 2≠0)↔iW R t:=by
  constructor
  ·rintro z;show bf z λu i e=>?_;try clear z
   clear f B F A q;rcases G?.mp i with rfl|i
   ·exact⟨u,x? rfl,by rw[<- y];exact e⟩
   ·have j:=(a u).mp i;exact⟨u,u? j,by rw[<- yp (j.lO o)];exact e⟩
  ·rintro⟨u,rfl|j,e⟩
   ·exact⟨u,o?,by rw[y];exact e⟩
   ·exact⟨u,q? _ ((a u).mpr j),by rw[yp (j.lO o)];exact e⟩
 show FX (by omega) o (by omega) (λu i=>?_) (w.up m) f (λh g O p=>q j? g (by simpa using s.mp h) (m.trans p)) (λh g O p=>?_)
 ·rcases G?.mp i with rfl|i
  ·exact x
  ·exact aZ (((a u).mp i).lO o)
 ·exact q f? g (by simpa using λe=>h (s.mpr e)) (m.trans p)
theorem RA {H:Hp} {m:m?} {chk:Hp->Prop} {f:Hp->Prop} {p:Tm->D?} {e:Ă->Hp->(V->Hp->Prop)->Prop} {c:Ă->Hp->(D?->Hp->Prop)->Prop} {ρ:Ă} (d:1<b? ρ) (s:m<b? H) (g:∀zs,chk (H.set m (ό zs)))
  (k:∀(b:Tm) H P,b∈ă->P (p b) H->c (ρ.set 1 (d? b.toV)) H P) (l:∀ρ H P v,look ρ 1=d? v->P v H->e ρ H P) :
  ∀{us ys:g? Tm} {o:p? V},(∀u∈us,u∈ă)->b? ys+b? us<1000000->f (H.set m (ό (aU (ys++us.filter p))))->cC [1] c e chk m (aU us) (ρ.set 1 o) (H.set m (ό (aU ys))) f:=by
 intro L;induction L with
 |nil=>
  exact λz t q=>by rename_i ys o;exact⟨g _,by simpa using q⟩
 |cons u us i=>
  exact λh r q=>by
   rename_i ys o;simp only[Q?] at r;simp![];show⟨g _,?_⟩;change c (put u.toV (ρ.set 1 o) 1) _ _;rw[dn,o_];simp![];show k u _ _ (h u o?) ?_;cases j:p u using so with
   |true=>
    simp![];show l _ _ _ u.toV (by rw[<- dn];exact rM d) ?_;have n:(H.set m (ό (aU ys)))[m]? = d? (ό (aU ys)):=B! s;rw[aV n (by rw[ax];omega),bL,o_,show aU ys++[u.toV]=aU (ys++[u]) from by simp[aU]];show i (ys:=ys++[u]) (λx a=>h x (q? _ a)) (by simp;omega) ?_;rw[abG,j] at q
    simpa using q
   |false=>
    show i (ys:=ys) (λx a=>h x (q? _ a)) (by omega) ?_;rw[abG,j] at q
    simpa using q
theorem T5 (d:∀u∈us,u∈ă) (c:t∈ă):bZ W! t.toV (ύ (aU us)) H=d? (fh t us):=by
 have b:=rA d;have h:=gO c;have a:=Ls (us:=us) (t:=t);show zp (fb t) λx l e=>?_;rw[e] at h a ⊢;simp only[bZ,uR,dU,b,V!,h,a,eD]
theorem Rw.idx (w:Rw H r R) (f:t∈ă) (d:Đ R t=j?):∃l,bN (ϊ r) t.toV H=d? (ύ [ϋ (bp R t),ϊ l])/\H[l]? = d? (ό (aU (aQ R t))):=by
 obtain⟨D,h,L⟩:=id w;have b:=qe f;rcases L.get t with q|q
 ·show jU q λl a c Z=>⟨l,?_,c⟩;show zp (fb t) λx l e=>?_;rw[e] at b a ⊢;simp only[bN,h,b,V!,a,vI,vS,vT,fO,F?]
 ·show U9 q λZ Z Z e=>?_;rw[d] at e;cases e
theorem ER {t:Tm}:(t.JE||t.QQ)=t.isVar:=by
 cases t using ϐ with
 |q s n=>cases s using so<;>rfl
 |_=>rfl
end
section
variable {d:m?} {H:Hp} {Q:V->Hp->Prop} {R:Ĉ} {r:m?} {t:Tm}
structure VS (d:m?) (s:MS) (ρ:Ă) (H:Hp) (P:Fl->Ă->Hp->Prop):Prop where
 run:bu Ā d s ρ H P
theorem Sw {x y:C?} {f n:m?} (b:x=(f:C?)) (c:y=(n:C?)) (h:f<100000) (a:n<100000):cY o! (ϋ x) (ϋ y) H=d? (ϋ ((f &&& n:m?):C?),H):=by
 subst b;subst c;exact jV h a
theorem qm {n:m?}:decide ((0:C?)<(n:C?))=decide (n≠0):=by
 by_cases h:n=0
 ·subst h;rfl
 ·rw[Ħ (by omega),Ħ h]
theorem ov {p:Tm->D?} {us:g? Tm}:decide (b? (us.filter p)≠0)=j?↔∃u∈us,p u=j?:=by
 rw[aa1];constructor
 ·intro h;cases e:us.filter p using aab with
  |nil=>rw[e] at h;exact absurd rfl h
  |cons x l=>
   have:x∈us.filter p:=by rw[e];exact o?
   exact⟨x,(Α.mp this).1,(Α.mp this).2⟩
 ·rintro⟨u,a,e⟩ h;have:u∈us.filter p:=Α.mpr ⟨a,e⟩;rw[Ś.mp h] at this;clear h;cases this
theorem TQ {tid:m?} (B:tid=69) (S:2<=d) (o:bj R) (w:Rw H r R) (L:t∈ă) (W:t.isVar=j?) {o5:p? V}
  (q:∀(j:D?) H',(j=j?↔sE R t)->Up H H'->Q (ϑ j) H') :
  VS d di [d? (ϊ r),d? t.toV,d? (ϋ tid),d? (ϑ j?),d? (ϋ (bp R t)),o5] H (dA Q):=by
 show⟨?_⟩;have T:=dI o t;have E:(tid:C?)=69:=by omega
 simp![di,E];show bo (Sw (y:=1) (f:=bp R t) (n:=1) rfl rfl (by omega) (by omega)) ?_;simp![qm];by_cases k:bp R t &&& 1=0
 ·simp![k,Ī,A!];show fU (by omega) o w L λa n bs s g J N c=>?_;have F:b? bs<200:=cy N λb l=>aZ (((c b).mp l).lO o);have K:=(i?.mp g).1;show bo (aj g (by rw[ax];omega)) ?_;have x:a++[ό []]=(a++[ό []]).set (b? a) (ό (aU [])):=(cV aD).symm;rw[ik,x];show RA (H:=a++[ό []]) (p:=iD) (ρ:=[e?,e?]) (o:=e?) (J? _) (by simp) (λzs=>⟨aj (ae (aC g) (by omega)) (by rw[ax];omega),by rw[av (ae (aC g) (by omega)),av g]⟩) (λb H P l D=>?_) (λρ H P v z A=>by change Aq (look _ _) _;rw[z];exact A) (λu m=>aZ (((c u).mp m).lO o)) (by simp;omega) ?_
  ·show su (by omega) l ?_;simp![];exact D
  ·have O:Up H ((a++[ό []]).set (b? a) (ό (aU (bs.filter iD)))):=(s.trans Up.app).set s.len;have C:((a++[ό []]).set (b? a) (ό (aU (bs.filter iD))))[b? a]? = d? (ό (aU (bs.filter iD))):=ah aD;have I:b? (bs.filter iD)<=b? bs:=Ρ _ _;show bo (len_list C (by rw[ax];omega)) ?_;simp![ax,qm];show q _ _ ?_ O;rw[ov];constructor
   ·rintro M;show bf M λu m e=>?_;have i:=(c u).mp m;exact u? ⟨u,i,by rw[<- z5 (i.lO o)];exact e⟩
   ·rintro(h| ⟨u,i,e⟩)
    ·exact absurd k h
    ·exact⟨u,(c u).mpr i,by rw[z5 (i.lO o)];exact e⟩
 ·simp![Ī,k];exact q j? H (by simpa using .inl k) (Up.refl _)
theorem Ul (X:2<=d) (o:bj R) (w:Rw H r R) (y:t∈ă) {O S T o5:p? V}
  (q:∀(j:D?) H',(j=j?↔Ps R t)->Up H H'->Q (ϑ j) H') :
  bu Ā d oV [d? (ϊ r),d? t.toV,O,S,T,o5] H (dA Q):=by
 simp![oV];show fU (by omega) o (w.up Up.app) y λl n bs z L J N g=>?_;have I:b? bs<200:=cy N λb m=>aZ (((g b).mp m).lO o);have A:=z _ _ (aD (H:=H) (c:=ό [t.toV]));show bo (add_list A L (by rw[ax];simp;omega)) ?_;have x:Up H (l++[ό ([t.toV]++aU bs)]):=(Up.app.trans z).trans Up.app;have h:(l++[ό ([t.toV]++aU bs)])[b? l]? = d? (ό (aU (t::bs))):=aD;simp only[m_,Y_] at x h ⊢;simp![];rw[aj h (by rw[ax];simp;omega),bL,ik,av h];have K:=(i?.mp h).1;generalize (l++[ό (t.toV::aU bs)])=f at *;have i:∀u∈t::bs,u∈ă:=λu a=>by
  clear h A J z;rcases G?.mp a with rfl|a
  ·exact y
  ·exact aZ (((g u).mp a).lO o)
 have E:f++[ό []]=(f++[ό []]).set (b? f) (ό (aU [])):=(cV aD).symm;rw[E];show RA (H:=f++[ό []]) (p:=λu=>fh u [tA,tB,.p 14]) (ρ:=[e?,e?,d? (ύ (aU [tA,tB,.p 14]))]) (o:=e?) (by simp) (by simp) (λzs=>⟨aj (ae (aC h) (by omega)) (by rw[ax];simp;omega),av (ae (aC h) (by omega))⟩) (λb H P m F=>?_) (λρ H P v B D=>by change Aq (look _ _) _;rw[B];exact D) i (by simp;omega) ?_
 ·simp![];rw[T5 (λu a=>?_) m,bL]
  ·exact F
  ·simp only[G?,Ň,abe] at a;clear h A g J z y i;rcases a with rfl|rfl|rfl<;>exact aO.mp (by decide+kernel)
 ·have W:Up H ((f++[ό []]).set (b? f) (ό (aU ((t::bs).filter λu=>fh u [tA,tB,.p 14])))):=(x.trans Up.app).set x.len;have C:((f++[ό []]).set (b? f) (ό (aU ((t::bs).filter λu=>fh u [tA,tB,.p 14]))))[b? f]? = d? (ό (aU ((t::bs).filter λu=>fh u [tA,tB,.p 14]))):=ah aD;have s:b? ((t::bs).filter λu=>fh u [tA,tB,.p 14])<=b? (t::bs):=Ρ _ _;show bo (len_list C (by rw[ax];simp only[Q?] at s;omega)) ?_;simp![ax,qm];show q _ _ ?_ W;rw[ov];have k:∀u,fh u [tA,tB,.p 14]=j?↔(u=tA\/u=tB\/u= .p 14):=λu=>by rw[aO];simp
  constructor
  ·rintro⟨u,a,e⟩;clear h A J z q y s C W i;rcases G?.mp a with rfl|a
   ·exact⟨u,x? rfl,(k u).mp e⟩
   ·exact⟨u,u? ((g u).mp a),(k u).mp e⟩
  ·rintro⟨u,rfl| M,e⟩
   ·exact⟨u,o?,(k u).mpr e⟩
   ·exact⟨u,q? _ ((g u).mpr M),(k u).mpr e⟩
end
section
theorem IJ (v:4<=d) (o:bj R) (w:Rw H r R) (b:t∈ă) (s:tid=69\/tid=70\/tid=71\/tid=72) (g:rn t tid=j?)
  (q:∀(a:D?) H',(a=j?↔cQ R t tid)->Up H H'->Q (ϑ a) H') :
  VS d di [d? (ϊ r),d? t.toV,d? (ϋ tid),d? (ϑ t.isVar),d? (ϋ (bp R t)),o5] H (dA Q):=by
 have x:=dI o t;rcases s with rfl|rfl|rfl|rfl
 ·cases i:t.isVar using so with
  |true=>
   have m:∀a:D?,(a=j?↔sE R t)->(a=j?↔cQ R t 69):=λa h=>by rw[h];unfold cQ;simp[i]
   have p:∀(a:D?) H',(a=j?↔sE R t)->Up H H'->Q (ϑ a) H':=λa H' h u=>q a H' (m a h) u;have k:2<=d:=by omega
   have K:=TQ (tid:=69) rfl (o5:=o5) k o w b i p;exact K
  |false=>
   show⟨?_⟩;simp![di];show jw (by omega) b ?_;simp![];show q _ H ?_ (Up.refl _);unfold cQ;simp only[rn,i,G!,K_,Bool.true_and,show((69:m?)== 70)=f? from rfl,show((69:m?)== 71)=f? from rfl,show((69:m?)== 72)=f? from rfl,Ő,acq,U?] at g;simp[i,g]
 ·have l:ei t=t.isVal:=by simpa [rn] using g
  show⟨?_⟩;simp![di];exact mK (by omega) o w b l λa H' h u=>q a H' (by rw[h];unfold cQ;simp) u
 ·have l:ei t=t.isVal:=by simpa [rn] using g
  show⟨?_⟩;simp![di];show bo (Sw (y:=4) (f:=bp R t) (n:=4) rfl rfl (by omega) (by omega)) ?_;simp![qm];have j:cQ R t 71=fD R t:=by unfold cQ;simp
  by_cases c:bp R t &&& 4=0
  ·simp![c,Ī,A!];show mK (by omega) o w b l λa H' h u=>?_;cases a using so with
   |true=>
    simp![];exact q j? H' (by rw[j];unfold fD;simpa using .inr (x? (h.mp rfl))) u
   |false=>
    simp![aw (WA b)];show q _ H' ?_ u;rw[j,Tm.beq_iff];unfold fD;constructor
    ·intro e;exact u? (u? e)
    ·rintro(e|e|e)
     ·exact absurd c e
     ·have:=h.mpr e;cases this
     ·exact e
  ·simp![Ī,c];exact q j? H (by rw[j];unfold fD;simpa using .inl c) (Up.refl _)
 ·show⟨?_⟩;simp![di];exact Ul (by omega) o w b λa H' h u=>q a H' (by rw[h];unfold cQ;simp) u
theorem Fe (c:5<=d) (o:bj R) (w:Rw H r R) (e:t∈ă) (k:tid=69\/tid=70\/tid=71\/tid=72) (i:rn t tid=j?) (j:t.isVar=j?->Đ R t=j?)
  (q:∀(a:D?) H',(a=j?↔cQ R t tid)->Up H H'->Q (ϑ a) H'):aG d 829 [ϊ r,t.toV,ϋ tid] H Q:=by
 show we.go c rfl λd c=>?_;have T:∀b,t.isVar=b->bu Ā d ju [d? (ϊ r),d? t.toV,d? (ϋ tid),d? (ϑ b),e?,e?] H (dA Q):=by
  rintro b rfl;have m:=IJ (d:=d) (o5:=e?) (by omega) o w e k i q;cases h:t.isVar using so with
  |true=>
   rw[h] at m;show bf (w.idx e (j h)) λl g n=>?_;simp![ju,g];exact m.run
  |false=>
   rw[h,J7 o h] at m;simp![ju];exact m.run
 have h:=ER (t:=t);simp![aw (aY),aw (kJ)];cases f:t.JE using so with
 |true=>
  exact T j? (by rw[<- h,f];rfl)
 |false=>
  simp![aw (aY),aw (mv)];exact T _ (by rw[<- h,f,G!])
theorem QO (t:Tm):dv R t=if(vj t||(Tm.beq t (.p 14)||Tm.beq t (.p 15)))=j? then 15 else if t.isVar=j? then(if Đ R t=j? then 0 else 9) else match t.parts with| []=>0|c::_=>dv R c:=by
 cases t using ϐ with
 |p n=>
  change(if n=14\/n=15 then 15 else 0)=if(n== 14||n== 15)=j? then 15 else 0
  simp only[Ğ,U?]
 |u k t=>cases k using ϙ<;>rfl
 |_=>rfl
theorem sf {t c:Tm} (h:c∈t.parts):c.size<t.size:=by
 cases t using ϐ with
 |n1 s n a=>obtain rfl:=B?.mp h;exact Ē _
 |u k a=>cases k using ϙ<;>first|(obtain rfl:=B?.mp h;exact Ē _)|cases h
 |_=>cases h
theorem od (H:t∈ă) (h:c∈t.parts):c∈ă:=by
 show uE H ?_;cases t using ϐ with
 |n1 s n a=>exact h
 |u k a=>cases k using ϙ<;>first|exact h|cases h
 |_=>cases h
theorem jW (t:Tm):t.parts=[]\/∃c,t.parts=[c]:=by
 cases t using ϐ with
 |n1 s n a=>exact u? ⟨_,rfl⟩
 |u k a=>cases k using ϙ<;>first|exact x? rfl|exact u? ⟨_,rfl⟩
 |_=>exact x? rfl
theorem Fj:∀(n:m?) {t:Tm} {d:m?} {Q:V->Hp->Prop},t.size<=n->n+1<=d->Rw H r R->t∈ă->Q (ϋ (dv R t)) H->aG d 843 [ϊ r,t.toV] H Q:=by
 intro L;induction L with
 |zero=>
  exact λA D F J M=>by rename_i t d Q;exact absurd A (õ (size_pos t))
 |succ n I=>
  exact λA y w h q=>by
   rename_i t d Q;show vY.go y rfl λd y=>?_;rw[QO] at q;simp![aw (aY),aw (Qd)];have b:(vj t||(Tm.beq t (.p 14)||Tm.beq t (.p 15)))=f?->bu Ā d oF [d? (ϊ r),d? t.toV,e?,e?] H (dA Q):=by
    intro g;rw[g,E? (by decide)] at q;have o:=ER (t:=t);have l:t.isVar=f?->bu Ā d oE [d? (ϊ r),d? t.toV,e?,e?] H (dA Q):=by
     intro s;rw[s,E? (by decide)] at q;simp![oE];show oC (by omega) ?_;rcases jW t with e| ⟨c,e⟩
     ·rw[e] at q;simp![];rw[e,wU (by simp[aU]),bL];simp![aU,abH];show bo (ba (by simp)) ?_;simp![bC,cS,K?];exact q
     ·have x:c∈t.parts:=by rw[e];exact o?
      rw[e] at q;dsimp only at q;simp![];rw[e,wU (by simp[aU]),bL];simp![aU,S_,abH];show bo (ba (by simp)) ?_;simp![bC,cz,dt,K?];show I (by have:=sf x;omega) (by omega) w (od h x) ?_;by_cases g:dv R c=0
      ·rw[g] at q;simp![g,K?];exact q
      ·have m:¬((dv R c:m?):C?)=0:=by omega
       simp![Ī,m];exact q
    simp![oF,aw (aY),aw (kJ)];have f:t.isVar=j?->∀{K:D?->Prop},(Q (ϋ 0) H->K j?)->(Q (ϋ 9) H->K f?)->ok (bZ W! t.toV (ϊ r) H) K:=by
     intro u K B C;rw[u,P? rfl] at q;rw[show bZ W! t.toV (ϊ r) H=uR H t.toV (ϊ r) from rfl,w.has h,bL];cases z:Đ R t using so with
     |true=>rw[z] at q;exact B q
     |false=>rw[z] at q;exact C q
    cases v:t.JE using so with
    |true=>
     simp![];show f (by rw[<- o,v];rfl) (λp=>?_) (λp=>?_)<;>((simp![]);exact p)
    |false=>
     cases k:t.QQ using so with
     |true=>
      simp![aw (aY),aw (mv),k];show f (by rw[<- o,v,k];rfl) (λp=>?_) (λp=>?_)<;>((simp![]);exact p)
     |false=>
      simp![aw (aY),aw (mv),k];exact l (by rw[<- o,v,k];rfl)
   cases i:vj t using so with
   |true=>rw[i,ο,P? rfl] at q;(simp![]);exact q
   |false=>
    cases a:Tm.beq t (.p 14) using so with
    |true=>rw[i,a,ο,G!,P? rfl] at q;(simp![aw (qb h),a]);exact q
    |false=>
     cases j:Tm.beq t (.p 15) using so with
     |true=>rw[i,a,j,G!,G!,P? rfl] at q;(simp![aw (qb h),aw (DP h),a,j]);exact q
     |false=>(simp![aw (qb h),aw (DP h),a,j]);exact b (by rw[i,a,j];rfl)
end
section
variable {d:m?} {H:Hp} {Q:V->Hp->Prop} {R:Ĉ} {r:m?} {t:Tm}
theorem Ho:(t.Gj||t.jq)=t.named:=by
 cases t using ϐ with
 |n0 s n=>cases s using so<;>rfl
 |n1 s n a=>cases s using so<;>rfl
 |_=>rfl
theorem xY (h:t.named=j?):bN t.toV (ϋ 2) H=d? (ύ (aU t.parts)):=by
 cases t using ϐ<;>first|rfl|cases h
theorem eJ (h:t.named=j?):bN t.toV (ϋ 1) H=d? (ϋ t.num):=by
 cases t using ϐ<;>first|rfl|cases h
def zm (R:Ĉ) (t:Tm):m?:=match t.parts with| []=>0|c::_=>cL R c
theorem GU:cL R t=if t.named=j? then(if iR t.tid=f? then 1 else if zm R t≠0 then zm R t else dR R t) else zm R t:=by
 cases t using ϐ with
 |u k a=>cases k using ϙ<;>rfl
 |_=>rfl
theorem Qr (h:t.named=j?) (c:t.jq≠decide (bD t.tid=2)):dR R t=15:=by
 cases t using ϐ with
 |n0 s n=>have b:¬s=decide (bD n=2):=c;simp[dR,b]
 |n1 s n a=>have b:¬s=decide (bD n=2):=c;simp[dR,b]
 |_=>cases h
theorem UB (h:t.named=j?) (e:t.jq=decide (bD t.tid=2)) (f:b? t.parts≠d5 t.tid):dR R t=9:=by
 cases t using ϐ with
 |n0 s n=>have b:s=decide (bD n=2):=e;have c:¬0=d5 n:=f;simp[dR,b,c]
 |n1 s n a=>have b:s=decide (bD n=2):=e;have c:¬1=d5 n:=f;simp[dR,b,c]
 |_=>cases h
theorem M5 (h:t.named=j?) (f:t.jq=decide (bD t.tid=2)) (g:b? t.parts=d5 t.tid) (i:∀a,t.parts=[a]->cQ R a t.tid):dR R t=0:=by
 cases t using ϐ with
 |n0 s n=>have b:s=decide (bD n=2):=f;have c:0=d5 n:=g;simp[dR,b,<- c]
 |n1 s n a=>have b:s=decide (bD n=2):=f;have c:1=d5 n:=g;have e:cQ R a n:=i a rfl;simp[dR,b,<- c,e]
 |_=>cases h
theorem UW (h:t.named=j?) (i:t.jq=decide (bD t.tid=2)) (j:b? t.parts=d5 t.tid) {a:Tm} (e:t.parts=[a]) (k:¬cQ R a t.tid):dR R t=8:=by
 cases t using ϐ with
 |n0 s n=>cases e
 |n1 s n b=>
  have E:b=a:=by simpa [Tm.parts] using e
  subst E;have c:s=decide (bD n=2):=i;have f:1=d5 n:=j;have g:¬cQ R b n:=k;simp[dR,c,<- f,g]
 |_=>cases h
theorem uu {c:Tm} (h:c∈t.parts) (b:dv R t=0):dv R c=0:=by
 cases t using ϐ with
 |n1 s n a=>obtain rfl:=B?.mp h;exact b
 |u k a=>cases k using ϙ<;>first|(obtain rfl:=B?.mp h;exact b)|cases h
 |_=>cases h
theorem TK {c:Tm} (b:dv R c=0) (a:c.isVar=j?):Đ R c=j?:=by
 cases c using ϐ with
 |q s n=>
  clear a;by_cases h:Đ R (.q s n)=j?
  ·exact h
  ·exact absurd ((E? h).symm.trans b) (by decide)
 |_=>cases a
theorem ED {l:g? V} (h:b? l<10000000):gE H (ύ l)=d? (b? l:C?):=by simp only[gE,aJ,h,V!]
theorem QZ {O P S:p? V} (X:6<=d) (o:bj R) (w:Rw H r R) (A:t∈ă) (k:t.named=j?) (L:dv R t=0) (E:(b? t.parts:C?)=eC t.num ru) (C:iR t.tid=j?) (y:t.jq=decide (bD t.tid=2))
  (q:∀H',Up H H'->Q (ϋ (dR R t)) H'):VS d kP [d? (ϊ r),d? t.toV,O,P,S] H (dA Q):=by
 show⟨?_⟩;show fP (wO A k) λT F W=>?_;obtain⟨J,K⟩:=F C;have c:b? t.parts=d5 t.tid:=by omega
 simp![kP,aw (eJ k)];have N:¬(68<t.num/\t.num<73)->dR R t=0:=λh=>M5 k y c λa Z=>by
  unfold cQ;rw[E? (by omega),E? (by omega),E? (by omega),E? (by omega)];trivial
 by_cases p:68<t.num
 ·have i:(68:C?)<(t.num:C?):=by omega
  simp![i,aw (eJ k)];clear J F T C;by_cases u:t.num<73
  ·have j:(t.num:C?)<73:=by omega
   simp![j,aw (xY k)];have x:t.num=69\/t.num=70\/t.num=71\/t.num=72:=Y2 _ (by omega) (by omega);have m:eC t.num ru=1:=by rcases x with e|e|e|e<;>rw[e]<;>rfl
   rcases jW t with e| ⟨a,e⟩
   ·rw[e,m] at E;simp at E
   ·have v:a∈t.parts:=by rw[e];exact o?
    have l:∃s,t=ϗ s t.num a:=by
     clear v m x j u i p N c K;cases t using ϐ with
     |n1 s n b=>simp only[Tm.parts,ω,acr] at e;subst e;exact⟨s,rfl⟩
     |n0 s n=>simp[Tm.parts] at e
     |_=>cases k
    obtain⟨s,z⟩:=l;simp![e,aU,aw (eJ k)];show Fe (by omega) o w (od A v) x (Qo (s:=s) (by rw[<- z];exact A) p u) (λM=>TK (uu v L) M) λB H' f I=>?_;rw[W] at f;cases B using so with
    |true=>
     have:=f.mp rfl;simp![];have g:=q H' I;rw[M5 k y c λb D=>by rw[e] at D;cases D;exact this] at g;exact g
    |false=>
     have:¬cQ R a t.tid:=λe=>by have:=f.mpr e;cases this
     simp![];have g:=q H' I;rw[UW k y c e this] at g;exact g
  ·have j:¬(t.num:C?)<73:=by omega
   simp![j];have g:=q H (Up.refl _);rw[N (λh=>u h.2)] at g;exact g
 ·have i:¬(68:C?)<(t.num:C?):=by omega
  simp![i];have g:=q H (Up.refl _);rw[N (λh=>p h.1)] at g;exact g
theorem Qa {O n p:p? V} (k:6<=d) (o:bj R) (w:Rw H r R) (j:t∈ă) (a:t.named=j?) (l:dv R t=0) (i:iR t.tid=j?)
  (q:∀H',Up H H'->Q (ϋ (dR R t)) H'):VS d kD [d? (ϊ r),d? t.toV,O,n,p] H (dA Q):=by
 show⟨?_⟩;show fP (wO j a) λv u x=>?_;obtain⟨s,C⟩:=u i;have E:decide ((t.num:C?)=68)=decide (bD t.tid=2):=by
  rw[C];by_cases h:t.num=68
  ·rw[Ħ h,Ħ (by omega)]
  ·rw[ě h,ě (by omega)]
 simp![kD,aw (aY),aw (kO),aw (eJ a),aw (wy),E];by_cases b:t.jq=decide (bD t.tid=2)
 ·rw[b,bne_self_eq_false];simp![aw (xY a)];have m:b? t.parts<=1:=by rcases jW t with e| ⟨c,e⟩<;>rw[e]<;>simp
  rw[ED (by rw[ax];omega),bL,ax];simp![aw (eJ a)];show oO (by omega) ?_;by_cases g:(b? t.parts:C?)=eC t.num ru
  ·simp![g];exact(QZ k o w j a l g i b q).run
  ·simp![g];have f:=q H (Up.refl _);rw[UB a b (by intro e;exact g (by omega))] at f;exact f
 ·have:(t.jq != decide (bD t.tid=2))=j?:=by simpa using b
  rw[this];have f:=q H (Up.refl _);rw[Qr a b] at f;exact f
theorem zh:∀(n:m?) {t:Tm} {d:m?} {H:Hp} {Q:V->Hp->Prop},t.size<=n->n+7<=d->bj R->Rw H r R->t∈ă->dv R t=0->(∀H',Up H H'->Q (ϋ (cL R t)) H')->aG d 857 [ϊ r,t.toV] H Q:=by
 intro L;induction L with
 |zero=>
  exact λC M N P S T F=>by rename_i t d H Q;exact absurd C (õ (size_pos t))
 |succ n I=>
  exact λC A o w y B q=>by
   rename_i t d H Q;show sl.go A rfl λd A=>?_;rw[GU] at q;have p:∀{H':Hp} {O D:p? V},Up H H'->zm R t=0->(t.named=j?->iR t.tid=j?)->VS d gk [d? (ϊ r),d? t.toV,d? (ϑ t.named),O,D] H' (dA Q):=by
    intro H' O D u b g;show⟨?_⟩;cases a:t.named using so with
    |false=>
     rw[a,E? (by decide),b] at q;simp![gk];exact q H' u
    |true=>
     rw[a,P? rfl,E? (by rw[g a];decide),E? (by simp[b])] at q;simp![gk];exact(Qa (by omega) o (w.up u) y a B (g a) λx z=>q x (u.trans z)).run
   have l:(t.named=j?->iR t.tid=j?)->VS d kv [d? (ϊ r),d? t.toV,d? (ϑ t.named),e?,e?] H (dA Q):=by
    intro g;show⟨?_⟩;simp![kv];show oC (by omega) ?_;rcases jW t with e| ⟨c,e⟩
    ·have b:zm R t=0:=by unfold zm;rw[e]
     rw[e];simp![aU,cS,bL,bC,cz,K?];exact(p (Up.refl _) b g).run
    ·have f:c∈t.parts:=by rw[e];exact o?
     have i:zm R t=cL R c:=by unfold zm;rw[e]
     rw[e];simp![aU,dt,bL,bC,cz,K?,rB,sh];show I (by have:=sf f;omega) (by omega) o w (od y f) (uu f B) λH' u=>?_;simp![*,bL,rB,sh];by_cases b:cL R c=0
     ·simp![b,Ī,A!,K?,ff];exact(p u (by rw[i,b]) g).run
     ·have k:¬((cL R c:m?):C?)=0:=by omega
      simp![Ī,k,F!];have j:=q H' u;rw[i] at j;cases a:t.named using so with
      |true=>
       rw[a,P? rfl,E? (by rw[g a];decide),P? b] at j;simp![*,aU,dt,bL,bC,cz,K?,rB,sh,b,Ī,k,F!,a];exact j
      |false=>
       rw[a,E? (by decide)] at j;simp![*,aU,dt,bL,bC,cz,K?,rB,sh,b,Ī,k,F!,a];exact j
   have s:VS d gq [d? (ϊ r),d? t.toV,d? (ϑ t.named),e?,e?] H (dA Q):=by
    show⟨?_⟩;cases a:t.named using so with
    |false=>
     simp![gq];rw[a] at l;simp![*,a];exact(l λh=>by cases h).run
    |true=>
     show fP (wO y a) λE J K=>?_;simp![gq,aw (eJ a)];show oO (by omega) ?_;by_cases f:eC t.num ru<0
     ·simp![f];have j:=q H (Up.refl _);rw[a,P? rfl,P? (E.mp f)] at j;simp![*,a,aw (eJ a),f];exact j
     ·simp![f];have g:iR t.tid=j?:=by
       cases e:iR t.tid using so with
       |true=>rfl
       |false=>exact absurd (E.mpr e) f
      rw[a] at l;simp![*,a,aw (eJ a),f];exact(l λZ=>g).run
   simp![aw (aY),aw (i8)];have m:=Ho (t:=t);cases v:t.Gj using so with
   |true=>
    rw[v,ο] at m;rw[<- m] at s;simp![*,aw (aY),aw (i8),aw (kO),v];exact s.run
   |false=>
    simp![*,aw (aY),aw (kO)];rw[v,G!] at m;rw[<- m] at s;simp![*,aw (aY),aw (i8),aw (kO),v];exact s.run
end
def Un (n:m?) (H H':Hp):Prop:=Up (H.set n (ώ [])) (H'.set n (ώ []))
theorem Un.refl {n:m?} (H:Hp):Un n H H:=Up.refl _
theorem Un.trans {n:m?} {A B C:Hp} (a:Un n A B) (b:Un n B C):Un n A C:=Up.trans a b
theorem Un.at_ {n m:m?} {H H':Hp} {c:ā} (a:Un n H H') (h:m≠n) (e:H[m]? = d? c):H'[m]? = d? c:=by
 have:=a m c (ae e (N_ h))
 rwa [M? (N_ h)] at this
theorem Un.of {n:m?} {H H':Hp} {c:ā} (u:∀m c,m≠n->H[m]? = d? c->H'[m]? = d? c) (b:H'[n]? = d? c):Un n H H':=by
 intro m c' e;by_cases h:m=n
 ·subst h;have a:=(i?.mp e).1;rw[d_] at a;rw[B! a] at e;cases e;exact ah b
 ·rw[M? (N_ h)] at e;exact ae (u m c' h e) (N_ h)
theorem Un.up {n:m?} {H H':Hp} {c:ā} (u:Up H H') (h:H[n]? = d? c):Un n H H':=Un.of (λm c Z e=>u m c e) (u _ _ h)
theorem Un.set {n:m?} {H:Hp} {c:ā}:Un n H (H.set n c):=by
 unfold Un;rw[o_];exact Up.refl _
theorem qN {n m:m?} {H:Hp} {xs:g? V} (e:(H.set n (ώ []))[m]? = d? (ό xs)):H[m]? = d? (ό xs)/\m≠n:=by
 by_cases h:m=n
 ·subst h;have a:=(i?.mp e).1;rw[d_] at a;rw[B! a] at e;cases e
 ·rw[M? (N_ h)] at e;exact⟨e,h⟩
theorem mX {n m:m?} {H:Hp} {xs:g? (V×V)} (e:(H.set n (ώ []))[m]? = d? (Ϝ xs)):H[m]? = d? (Ϝ xs)/\m≠n:=by
 by_cases h:m=n
 ·subst h;have a:=(i?.mp e).1;rw[d_] at a;rw[B! a] at e;cases e
 ·rw[M? (N_ h)] at e;exact⟨e,h⟩
theorem Rw.out {n r:m?} {H:Hp} {R:Ĉ} (w:Rw (H.set n (ώ [])) r R):Rw H r R:=by
 obtain⟨D,h,l⟩:=id w;show⟨D,(mX h).1,?_⟩;clear h w;induction l with
 |nil=>exact .nil
 |cons h _ i=>exact .cons (qN h).1 i
structure LS (H:Hp) (n r:m?) (R:Ĉ) (L:g? m?):Prop where
 told:H[n]? = d? (ό (aN L))
 okl:nv L
 o:bj R
 rw_:Rw (H.set n (ώ [])) r R
theorem LS.rw {H:Hp} {n r:m?} {R:Ĉ} {L:g? m?} (x:LS H n r R L):Rw H r R:=x.rw_.out
theorem LS.up {H H':Hp} {n r:m?} {R:Ĉ} {L:g? m?} (x:LS H n r R L) (u:Up H H'):LS H' n r R L:=⟨u _ _ x.told,x.okl,x.o,x.rw_.up (Un.up u x.told)⟩
theorem LS.set {H:Hp} {n r:m?} {R:Ĉ} {L L':g? m?} (x:LS H n r R L) (o:nv L'):LS (H.set n (ό (aN L'))) n r R L':=⟨ah x.told,o,x.o,x.rw_.up Un.set⟩
def F8 (vo by_:D?):k!:=match vo,by_ with
 |true,j?=>"vr"
 |true,f?=>"v"
 |false,j?=>"r"
 |false,f?=>""
section
variable {d:m?} {H:Hp} {Q:V->Hp->Prop} {R:Ĉ} {r n:m?} {t:Tm} {L:g? m?}
theorem Qb {vo by_:D?}:bZ W! (Ϗ "v") (Ϗ (F8 vo by_)) H=d? vo:=by cases vo using so<;>cases by_ using so<;>kernel_rfl
theorem Pb {vo by_:D?}:bZ W! (Ϗ "r") (Ϗ (F8 vo by_)) H=d? by_:=by cases vo using so<;>cases by_ using so<;>kernel_rfl
theorem ui:t.NR .r=t.cf:=by
 cases t using ϐ with
 |u k a=>cases k using ϙ<;>rfl
 |_=>rfl
theorem Aj {t:Tm} (h:t∈ă):t.size<=12:=by
 have:=bI (P:=λt=>decide (t.size<=12)) (by decide+kernel) h
 simpa using this
theorem CL {f:m?} (c:1<=d) (h:H[n]? = d? (ό (aN L))) (e:b? L<1000) (q:Q ϖ (H.set n (ό (aN (tell L f))))):aG d 864 [ϊ n,ϋ f] H Q:=by
 show tu.go c rfl λd c=>?_;unfold tell at q;by_cases b:f=0
 ·subst b;simp![];rw[E? (by simp),cV h] at q;exact q
 ·simp![Ī,show ¬((f:C?)=0) from by omega,F!,bK,Cw h];by_cases a:f∈L
  ·simp![a];rw[E? (by simp[a]),cV h] at q;exact q
  ·simp![a,bq h,aw (aV h (v:=ϋ (f:C?)) (by rw[aI];omega)),K?];rw[P? ⟨b,a⟩,cF] at q;exact q
theorem gg {f:m?} {P:Hp->Prop} (h:1<=d) (x:LS H n r R L) (a:f<16) (q:∀H',Un n H H'->LS H' n r R (tell L f)->P H'):aG d 864 [ϊ n,ϋ f] H λZ H=>P H:=by
 have b:=x.okl.len;exact CL (Q:=λZ H=>P H) h x.told (by omega) (q _ Un.set (x.set (x.okl.tell a)))
theorem cU {vo by_:D?} {P:Hp->Prop} (w:25<=d) (x:LS H n r R L) (g:t∈ă)
  (q:∀H',Un n H H'->LS H' n r R (bM R vo by_ L t)->P H'):aG d 871 [ϊ r,ϊ n,t.toV,Ϗ (F8 vo by_)] H λZ H=>P H:=by
 show ly.go w rfl λd w=>?_;have z:=Aj g;have T:∀{H':Hp} {l:g? m?},Un n H H'->LS H' n r R l->tell l (dw R t)=bM R vo by_ L t->VS d cZ [d? (ϊ r),d? (ϊ n),d? t.toV,d? (Ϗ (F8 vo by_))] H' λZ Z H'=>P H':=by
  intro H' l u X e;show⟨?_⟩;simp![cZ];show Fj 12 z (by omega) X.rw g ?_;by_cases c:dv R t=0
  ·simp![c];show zh 12 z (by omega) X.o X.rw g c λB A=>?_;have m:dw R t=cL R t:=by unfold dw;rw[E? (by simp[c])]
   rw[<- m];show gg (by omega) (X.up A) (mr t) λi s v=>?_;exact q i ((u.trans (Un.up A X.told)).trans s) (e▸v)
  ·have j:¬((dv R t:m?):C?)=0:=by omega
   have m:dw R t=dv R t:=by unfold dw;rw[P? c]
   simp![Ī,j];rw[<- m];show gg (by omega) X (mr t) λi s v=>?_;exact q i (u.trans s) (e▸v)
 have y:(vo&&ď t||by_&&t.cf)=j?->aG d 864 [ϊ n,ϋ 15] H λZ H'=>bu Ā d cZ [d? (ϊ r),d? (ϊ n),d? t.toV,d? (Ϗ (F8 vo by_))] H' λZ Z H'=>P H':=by
  intro h;show gg (by omega) x (by decide) λH' u X=>?_;exact(T u X (by unfold bM;rw[h];rfl)).run
 have N:(vo&&ď t||by_&&t.cf)=f?->bu Ā d cZ [d? (ϊ r),d? (ϊ n),d? t.toV,d? (Ϗ (F8 vo by_))] H λZ Z H'=>P H':=by
  intro h;exact(T (Un.refl H) x (by unfold bM;rw[h];rfl)).run
 simp![aw (Vh g)];rw[show Tm.beq t (.p 0)=ď t from rfl];cases k:ď t using so with
 |true=>
  cases f:vo using so with
  |true=>(simp![aw (Qb)]);subst f;exact y (by rw[k];rfl)
  |false=>
   cases a:t.cf using so with
   |true=>
    cases b:by_ using so with
    |true=>(simp![aw (Qb),aw (Pb),aw (aY),aw (uO),ui,a]);subst f;subst b;exact y (by rw[a];rfl)
    |false=>(simp![aw (Qb),aw (Pb),aw (aY),aw (uO),ui,a]);subst f;subst b;exact N rfl
   |false=>(simp![aw (Qb),aw (aY),aw (uO),ui,a]);subst f;exact N (by rw[a];simp)
 |false=>
  cases a:t.cf using so with
  |true=>
   cases b:by_ using so with
   |true=>(simp![aw (Pb),aw (aY),aw (uO),ui,a]);subst b;exact y (by rw[a];simp)
   |false=>(simp![aw (Pb),aw (aY),aw (uO),ui,a]);subst b;exact N (by rw[k];simp)
  |false=>(simp![aw (aY),aw (uO),ui,a]);exact N (by rw[k,a];simp)
end
inductive dD (H:Hp):g? (m?×g? Tm)->g? V->Prop
 |nil:dD H [] []
 |cons {f:m?} {bs:g? Tm} {l:m?} {ps:g? (m?×g? Tm)} {xs:g? V}:H[l]? = d? (ό (aU bs))->dD H ps xs->dD H ((f,bs)::ps) (ύ [ϋ f,ϊ l]::xs)
theorem dD.up {H H':Hp} (u:Up H H') {ps:g? (m?×g? Tm)} {xs:g? V} (h:dD H ps xs):dD H' ps xs:=by
 induction h with
 |nil=>exact .nil
 |cons h _ i=>exact .cons (u _ _ h) i
theorem dD.len {H:Hp} {ps:g? (m?×g? Tm)} {xs:g? V} (h:dD H ps xs):b? xs=b? ps:=by
 induction h with
 |nil=>rfl
 |cons h _ i=>simp[i]
structure At (H:Hp) (n m:m?) (xs:g? V):Prop where
 at_:(H.set n (ώ []))[m]? = d? (ό xs)
theorem At.go {H:Hp} {n m:m?} {xs:g? V} (a:At H n m xs):H[m]? = d? (ό xs):=(qN a.at_).1
theorem At.un {H H':Hp} {n m:m?} {xs:g? V} (a:At H n m xs) (u:Un n H H'):At H' n m xs:=⟨u _ _ a.at_⟩
section
variable {d:m?} {H:Hp} {Q:V->Hp->Prop} {R:Ĉ} {r n:m?} {t:Tm} {L:g? m?}
theorem iz {S:MS} {i:m?} {ρ:Ă} {chk:Hp->Prop} {H0:Hp} {f:g? m?->Tm->g? m?} (b:∀H',Un n H0 H'->chk H')
  (body:∀(H:Hp) (L:g? m?) (t:Tm) (p:Fl->Ă->Hp->Prop),LS H n r R L->t∈ă->(∀H',Un n H H'->LS H' n r R (f L t)->p ϒ (ρ.set i (d? t.toV)) H')->VS d S (ρ.set i (d? t.toV)) H p) :
  ∀{us:g? Tm} {H:Hp} {L:g? m?} {o:p? V} {P:Fl->Ă->Hp->Prop},(∀u∈us,u∈ă)->Un n H0 H->LS H n r R L->(∀H' O,Un n H0 H'->LS H' n r R (us.foldl f L)->P ϒ (ρ.set i O) H')->
   bG (bu Ā d S) (d6 Ā d (ϝ i)) chk (aU us) (ρ.set i o) H P:=by
 intro l;induction l with
 |nil=>
  exact λh a x q=>by rename_i H L o P;exact⟨b _ a,q H o a x⟩
 |cons u us I=>
  exact λh a x q=>by
   rename_i H L o P;simp![];show⟨b _ a,?_⟩;change bu Ā d S (put u.toV (ρ.set i o) i) H _;rw[dn,o_];simp![];show(body H L u _ x (h u o?) λH' A X=>?_).run;exact I (λv c=>h v (q? _ c)) (a.trans A) X q
theorem F0 {H0:Hp} {O F J:p? V} (hd:2<=d) (hR:∀t∈R.map (λZ=>Z.1),t∈ă) :
  ∀{us:g? Tm} {H:Hp} {L:g? m?} {o5:p? V} {P:Fl->Ă->Hp->Prop},(∀u∈us,u∈ă)->Un n H0 H->LS H0 n r R L->(∀{H' L'},LS H' n r R L'->aH H' (ϊ r)=d? (aU (R.map (λZ=>Z.1)))/\ao H' (ϊ r)=j?)->(∃L',LS H n r R L')->∀{l:g? m?},LS H n r R l->
   (∀H' o5 p,Un n H0 H'->LS H' n r R p->((∃u∈us,Ą R u u)->p=tell l 2)->((¬∃u∈us,Ą R u u)->p=l)->P ϒ [d? (ϊ r),d? (ϊ n),O,F,J,o5] H')->
   bG (bu Ā d ka) (d6 Ā d (ϝ 5)) (λH'=>aH H' (ϊ r)=d? (aU (R.map (λZ=>Z.1)))/\ao H' (ϊ r)=j?) (aU us) [d? (ϊ r),d? (ϊ n),O,F,J,o5] H P:=by
 intro T;induction T with
 |nil=>
  exact λj a X f Y l x q=>by rename_i H L o5 P;exact⟨f x,q H o5 l a x (by simp) λZ=>rfl⟩
 |cons u us I=>
  exact λj a X f Y l x q=>by
   rename_i H L o5 P;show⟨f x,?_⟩;have g:=j u o?;show fU (by omega) x.o x.rw g λH1 m bs K S N nd b=>?_;have B:=x.up K;have a1:=a.trans (Un.up K x.told);show bo (in_list S (λv h=>aZ (((b v).mp h).lO x.o)) g) ?_;cases E:fh u bs using so with
   |true=>
    have A:=(b u).mp (aO.mp E);show gg (by omega) B (by decide) λH2 W M=>?_;have i:tell (tell l 2) 2=tell l 2:=by
     unfold tell;by_cases D:(2:m?)∈l
     ·simp[D]
     ·simp[D]
    show I (λv h=>j v (q? _ h)) (a1.trans W) X f ⟨_,M⟩ M λk o5 s C w y z=>q k o5 s C w (λZ=>?_) (λc=>absurd ⟨u,o?,A⟩ c);by_cases hh:∃v∈us,Ą R v v
    ·rw[y hh,i]
    ·exact z hh
   |false=>
    have A:¬Ą R u u:=λe=>Ji.mp E ((b u).mpr e);show I (λv h=>j v (q? _ h)) a1 X f ⟨_,B⟩ B λk o5 s C w y z=>q k o5 s C w (λ⟨v,h,e⟩=>?_) (λc=>z λ⟨v,h,e⟩=>c ⟨v,q? _ h,e⟩);rcases G?.mp h with rfl|h
    ·exact absurd e A
    ·exact y ⟨v,h,e⟩
theorem LB.keys {H:Hp} {R:Ĉ} {D:g? (V×V)} (h:LB H R D):D.map (λZ=>Z.1)=aU (R.map (λZ=>Z.1)):=by
 induction h with
 |nil=>rfl
 |cons _ _ i=>simp only[C!,i,aU]
theorem LS.items (x:LS H n r R L):aH H (ϊ r)=d? (aU (R.map (λZ=>Z.1)))/\ao H (ϊ r)=j?:=by
 obtain⟨D,h,l⟩:=id x.rw;have a:=l.keys;have b:b? D<10000000:=by
  have:=R? b? a;have c:=x.o.short;simp only[N!,ax] at this;omega
 exact⟨by simp only[aH,h,aJ,b,V!,a,fO,F?],by simp only[ao,h,fO,F?,Ĕ]⟩
theorem gc {pm:m?} {ps:g? (m?×g? Tm)} {xs:g? V} {P:Hp->Prop} (N:30<=d) (x:LS H n r R L) (m:At H n pm xs) (S:dD (H.set n (ώ [])) ps xs) (hs:b? ps<100) (s:∀p∈ps,p.2.length<100/\∀b∈p.2,b∈ă)
  (q:∀H',Un n H H'->LS H' n r R (oN R L ps)->P H'):aG d 878 [ϊ r,ϊ n,ϊ pm] H λZ H=>P H:=by
 show je.go N rfl λd N=>?_;have hxl:=S.len;have I:∀{H'},Un n H H'->aH H' (ϊ pm)=d? xs/\ao H' (ϊ pm)=f?:=λu=>⟨aj (m.un u).go (by omega),av (m.un u).go⟩
 have M:∀t∈R.map (λZ=>Z.1),t∈ă:=λt C=>by
  show bf (B_.mp C) λp m E=>?_;subst E;have:=(x.o.keys p m).2;have h:vars.all (λt=>fh t ă)=j?:=by decide+kernel
  exact aO.mp (L?.mp h _ this)
 have y:∀{ps':g? (m?×g? Tm)} {xs':g? V} {H':Hp} {L':g? m?} {O g o5:p? V} {z:Fl->Ă->Hp->Prop},(∀p∈ps',p.2.length<100/\∀b∈p.2,b∈ă)->Un n H H'->LS H' n r R L'->dD (H'.set n (ώ [])) ps' xs'->(∀c O g o5,Un n H c->LS c n r R (ps'.foldl (λL p=>p.2.foldl (bM R j? j?) L) L')->z ϒ [d? (ϊ r),d? (ϊ n),d? (ϊ pm),O,g,o5] c)->
   bG (bu Ā d eV) (d6 Ā d (Ϩ [3,4])) (λH'=>aH H' (ϊ pm)=d? xs/\ao H' (ϊ pm)=f?) xs' [d? (ϊ r),d? (ϊ n),d? (ϊ pm),O,g,o5] H' z:=by
  intro ps';induction ps' with
  |nil=>
   intro xs' H' L' O g o5 z s u F w B;cases w with
   |nil=>exact⟨I u,B H' O g o5 u F⟩
  |cons p ps' ih=>
   intro xs' H' L' O g o5 z s u F w B;cases w with
   |@cons f bs l _ T hl w=>
    have v:=s _ o?;have hfl:b? bs<100:=v.1;have a:At H' n l (aU bs):=⟨hl⟩
    show⟨I u,?_⟩;simp![J?,K?];show bo (aj a.go (by rw[ax];omega)) ?_;show iz (ρ:=[d? (ϊ r),d? (ϊ n),d? (ϊ pm),d? (ϋ (f:m?)),d? (ϊ l),e?]) (i:=5) (f:=bM R j? j?) (H0:=H') (λc j=>⟨aj (a.un j).go (by rw[ax];omega),by rw[av (a.un j).go,av a.go]⟩) (λH L t PP x C A=>⟨?_⟩) (o:=o5) v.2 (Un.refl H') F λc o' j J=>?_
    ·exact cU (vo:=j?) (by_:=j?) (by omega) x C A
    ·exact ih (λp m=>s p (q? _ m)) (u.trans j) J (w.up j) B
 simp![(I (Un.refl H)).1,(I (Un.refl H)).2];show y s (Un.refl H) x S λK O g o5 u1 X=>?_;simp![X.items.1,X.items.2];show F0 (H0:=K) (by omega) M M (Un.refl K) X (λx=>x.items) ⟨_,X⟩ X λc o5 W j J Y c2=>?_;show q c (u1.trans j) ?_;have:W=oN R L ps:=by
  have k:(∃u∈R.map (λZ=>Z.1),Ą R u u)↔∃t,Đ R t=j?/\Ą R t t:=by
   constructor
   ·rintro⟨u,D,e⟩;exact⟨u,qc.mpr D,e⟩
   ·rintro⟨u,D,e⟩;exact⟨u,qc.mp D,e⟩
  unfold oN;by_cases hh:∃t,Đ R t=j?/\Ą R t t
  ·rw[P? hh];exact Y (k.mpr hh)
  ·rw[E? hh];exact c2 λe=>hh (k.mp e)
 exact this▸J
end
open Mine.Internal.dD renaming cons->ϳ
theorem qP {k v:V}:∀{D:g? (V×V)},(∀p∈D,V.beq p.1 k=f?)->dE k v D=D++[(k,v)]:=by
 intro l;induction l with
 |nil=>
  exact λZ=>rfl
 |cons P r i=>
  obtain⟨K,b⟩:=P;exact λh=>by
   have:=h _ o?;simp only[Gn,this,Œ,aa9,m_];rw[i λp a=>h p (q? _ a)]
theorem LB.fresh {H:Hp} {R:Ĉ} {D:g? (V×V)} (h:LB H R D) {t:Tm} (a:Đ R t=f?):∀p∈D,V.beq p.1 t.toV=f?:=by
 induction h with
 |nil=>simp
 |cons _ _ i=>
  simp only[Đ,M!,Į] at a;replace a:=a;intro p b;rcases G?.mp b with rfl|b
  ·rw[lZ];exact a.1
  ·exact i a.2 p b
theorem LB.snoc {H:Hp} {R:Ĉ} {D:g? (V×V)} (h:LB H R D) {t:Tm} {f l:m?} {bs:g? Tm} (a:H[l]? = d? (ό (aU bs))):LB H (R++[(t,f,bs)]) (D++[(t.toV,ύ [ϋ f,ϊ l])]):=by
 induction h with
 |nil=>exact .cons a .nil
 |cons h _ i=>exact .cons h i
theorem LB.len {H:Hp} {R:Ĉ} {D:g? (V×V)} (h:LB H R D):b? D=b? R:=by
 induction h with
 |nil=>rfl
 |cons _ _ i=>simp[i]
theorem LB.set {H:Hp} {R:Ĉ} {D a:g? (V×V)} {r:m?} {c:ā} (h:LB H R D) (b:H[r]? = d? (Ϝ a)):LB (H.set r c) R D:=by
 induction h with
 |nil=>exact .nil
 |cons h _ i=>exact .cons (ae h (by rintro rfl;rw[b] at h;cases h)) i
theorem dD.set {H:Hp} {ps:g? (m?×g? Tm)} {xs:g? V} {D:g? (V×V)} {r:m?} {c:ā} (h:dD H ps xs) (a:H[r]? = d? (Ϝ D)):dD (H.set r c) ps xs:=by
 induction h with
 |nil=>exact .nil
 |cons h _ i=>exact ϳ (ae h (by rintro rfl;rw[a] at h;cases h)) i
def Ur (r:m?) (H H':Hp):Prop:=∀(m:m?) (c:ā),m≠r->H[m]? = d? c->H'[m]? = d? c
theorem Ur.refl {r:m?} (H:Hp):Ur r H H:=λZ Z Z e=>e
theorem Ur.trans {r:m?} {A B C:Hp} (a:Ur r A B) (b:Ur r B C):Ur r A C:=λm c h e=>b m c h (a m c h e)
theorem Ur.set {r:m?} {H:Hp} {c:ā}:Ur r H (H.set r c):=λm c' h e=>ae e (N_ h)
section
variable {d:m?} {H:Hp} {Q:V->Hp->Prop} {r n:m?} {t:Tm} {L:g? m?}
theorem uf {D:g? (V×V)} {u v:V} {t:Tm} (c:t∈ă) (b:H[r]? = d? (Ϝ D)) (a:b? D<10000000):cG (ϊ r) t.toV v H=d? (H.set r (Ϝ (dE t.toV v D))):=by
 have h:=qe c;show zp (fb t) λx l e=>?_;rw[e] at h ⊢;simp only[cG,b,h,aJ,a,aco,V!,vI,vS,vT,vR,fO,F?]
theorem u0 {s:D?} {i pm:m?} {S:MS} {ρ:Ă} {xs:g? V} (body:∀(H H2:Hp) (j:m?) (v:V) (PP:Fl->Ă->Hp->Prop),bN (ϊ pm) (ϋ (j:C?)) H=d? v->cG (ϊ r) (Tm.q s j).toV v H=d? H2->PP ϒ (ρ.set i (d? (ϋ (j:C?)))) H2->VS d S (ρ.set i (d? (ϋ (j:C?)))) H PP) (hxs:b? xs<1000) (hrn:r≠n) :
  ∀{ps':g? (m?×g? Tm)} {xs':g? V} {j:m?} {R:Ĉ} {D:g? (V×V)} {H:Hp} {o:p? V} {PQ:Fl->Ă->Hp->Prop},
   (H.set n (ώ []))[r]? = d? (Ϝ D)->LB (H.set n (ώ [])) R D->At H n pm xs->dD (H.set n (ώ [])) ps' xs'->(∀k:m?,xs[j+k]? = xs'[k]?)->(∀k,j<=k->k<j+b? ps'->Tm.q s k∈ă/\Đ R (.q s k)=f?)->b? R+b? ps'<100->
   (∀H' D' o',Ur r H H'->(H'.set n (ώ []))[r]? = d? (Ϝ D')->LB (H'.set n (ώ [])) (R++ar s j ps') D'->PQ ϒ (ρ.set i o') H')->
   bG (bu Ā d S) (d6 Ā d (ϝ i)) (λZ=>ŀ) ((List.range' j (b? ps')).map λ(j:m?)=>ϋ (j:C?)) (ρ.set i o) H PQ:=by
 intro ps';induction ps' with
 |nil=>
  intro xs' j R D H o PQ hr lb hp hpl hk hn hl q;exact⟨trivial,q H D o (Ur.refl H) hr (by simpa [cT] using lb)⟩
 |cons p ps' ih=>
  intro xs' j R D H o PQ hr lb hp hpl hk hn hl q;cases hpl with
  |@cons f bs l _ xs'' hc hpl=>
  show⟨trivial,?_⟩;change bu Ā d S (put (ϋ (j:C?)) (ρ.set i o) i) H _;rw[dn,o_];obtain⟨hu,hnR⟩:=hn j (J? _) (by simp);have hj:xs[j]? = d? (ύ [ϋ f,ϊ l]):=by have:=hk 0;simpa using this
  have hjl:j<b? xs:=(i?.mp hj).1;have hix:bN (ϊ pm) (ϋ (j:C?)) H=d? (ύ [ϋ f,ϊ l]):=br hp.go hj (by omega);simp only[Q?] at hl;have hDl:=lb.len;have hr':=(mX hr).1;have hst:=uf (u:=ϖ) (v:=ύ [ϋ f,ϊ l]) hu hr' (by omega);rw[qP (lb.fresh hnR)] at hst;show(body H _ j _ _ hix hst ?_).run;have ks:(H.set r (Ϝ (D++[((Tm.q s j).toV,ύ [ϋ f,ϊ l])]))).set n (ώ [])=(H.set n (ώ [])).set r (Ϝ (D++[((Tm.q s j).toV,ύ [ϋ f,ϊ l])])):=aaJ _ _ hrn;show ih (xs':=xs'') (j:=j+1) (R:=R++[(.q s j,f,bs)]) (D:=D++[((Tm.q s j).toV,ύ [ϋ f,ϊ l])]) (by rw[ks];exact ah hr) (by rw[ks];exact(lb.snoc hc).set hr) ⟨by rw[ks];exact ae hp.at_ (by rintro rfl;have:=hp.at_;rw[hr] at this;cases this)⟩ (by rw[ks];exact hpl.set hr) (λk=>by have:=hk (k+1);simpa [P_,ņ 1 k] using this) (λk a1 a2=>?_) (by simp;omega) λH' D' o' u1 u2 u3=>q H' D' o' (Ur.set.trans u1) u2 (by simpa [el] using u3);obtain⟨v1,v2⟩:=hn k (by omega) (by simp;omega);show⟨v1,?_⟩;simp only[Đ,abW] at v2 ⊢;rw[v2,G!];have hjk:j≠k:=by omega
  simp[Tm.AF,hjk]
theorem GD {i r0:m?} {S:MS} {ρ:Ă} {R0:Ĉ} (o0:bj R0) {chk:Hp->Prop} (hc:∀{H},Rw (H.set n (ώ [])) r0 R0->chk H) (body:∀(H H2:Hp) (t:Tm) (v:V) (PP:Fl->Ă->Hp->Prop),bN (ϊ r0) t.toV H=d? v->cG (ϊ r) t.toV v H=d? H2->PP ϒ (ρ.set i (d? t.toV)) H2->VS d S (ρ.set i (d? t.toV)) H PP) (W:r≠n) (T:r≠r0) (hU:∀t∈R0.map (λZ=>Z.1),t∈ă) :
  ∀{R1 R2:Ĉ} {D:g? (V×V)} {H:Hp} {o:p? V} {P:Fl->Ă->Hp->Prop},R2++R1=R0->
   (H.set n (ώ []))[r]? = d? (Ϝ D)->LB (H.set n (ώ [])) R2 D->Rw (H.set n (ώ [])) r0 R0->
   (∀H' F o',Ur r H H'->(H'.set n (ώ []))[r]? = d? (Ϝ F)->LB (H'.set n (ώ [])) R0 F->Rw (H'.set n (ώ [])) r0 R0->P ϒ (ρ.set i o') H')->
   bG (bu Ā d S) (d6 Ā d (ϝ i)) chk (aU (R1.map (λZ=>Z.1))) (ρ.set i o) H P:=by
 intro R1;induction R1 with
 |nil=>
  intro R2 D H o P e s y w q;exact⟨hc w,q H D o (Ur.refl H) s (by simpa [<- e] using y) w⟩
 |cons p R1 ih=>
  intro R2 D H o P e s y w q;obtain⟨t,f,bs⟩:=p;show⟨hc w,?_⟩;change bu Ā d S (put t.toV (ρ.set i o) i) H _;rw[dn,o_];have a:t∈R0.map (λZ=>Z.1):=by rw[<- e];simp
  have X:=hU t a;have k:Đ R0 t=j?:=qc.mpr a;have nd:=o0.nodup;rw[<- e,ļ,C!,f_] at nd;have j:t∉R2.map (λZ=>Z.1):=λh=>nd.2.2 t h t o? rfl;have c:Đ R2 t=f?:=by
   cases h:Đ R2 t using so with
   |false=>rfl
   |true=>exact absurd (qc.mp h) j
  have z:bp R0 t=f/\aQ R0 t=bs:=by
   rw[<- e];clear e y nd q w a k ih;induction R2 with
   |nil=>simp[ek,en,(Tm.beq_iff t t).mpr rfl]
   |cons p R2 Y=>
    obtain⟨u,g,cs⟩:=p;simp only[Đ,M!,Į] at c;simp![ek,en,c.1];exact Y (λh=>j (by simp only[C!,G?];exact u? h)) c.2
  show bf (w.idx X k) λl I J=>?_;obtain⟨K,O⟩:=qN J;show bf (w.out.idx X k) λB E e2''=>?_;have N:B=l:=by
   obtain⟨D0,b,C⟩:=id w;have M:=(mX b).1;show zp (fb t) λx m em=>?_;simp only[bN,b,hp,V!,vT,fO,F?] at I;simp only[bN,M,hp,V!,vT,fO,F?] at E;rw[I] at E;have:=E;simp only[Þ,V.NK,ω,V.UI,acr,K?] at this;exact this.symm
  clear O K I;subst N;rw[z.1] at E;rw[z.2] at J;have hDl:=y.len;have hR2:b? R2<100:=by have:=o0.short;rw[<- e] at this;simp at this;omega
  have R:=(mX s).1;have A:=uf (u:=ϖ) (v:=ύ [ϋ f,ϊ B]) X R (by omega);rw[qP (y.fresh c)] at A;show(body H _ t _ _ E A ?_).run;have ks:(H.set r (Ϝ (D++[(t.toV,ύ [ϋ f,ϊ B])]))).set n (ώ [])=(H.set n (ώ [])).set r (Ϝ (D++[(t.toV,ύ [ϋ f,ϊ B])])):=aaJ _ _ W;show ih (R2:=R2++[(t,f,bs)]) (D:=D++[(t.toV,ύ [ϋ f,ϊ B])]) (by simpa using e) (by rw[ks];exact ah s) (by rw[ks];exact(y.snoc J).set s) (by
   rw[ks];obtain⟨D0,b,C⟩:=id w;exact⟨D0,ae b T,C.set s⟩) λH' F o' u1 u2 u3 u4=>q H' F o' (Ur.set.trans u1) u2 u3 u4
end
inductive dz (H:Hp):g? cN->g? V->Prop
 |nil:dz H [] []
 |cons {M:cN} {Ms:g? cN} {vs xs:g? V} {om am:m?}:H[om]? = d? (ό xs)->dD H M.1 xs->H[am]? = d? (ό (aU M.2.2))->dz H Ms vs->dz H (M::Ms) (ύ [ϊ om,M.2.1.toV,ϊ am]::vs)
theorem dz.up (u:Up H H') (h:dz H Ms vs):dz H' Ms vs:=by
 induction h with
 |nil=>exact .nil
 |cons a b c _ i=>exact .cons (u _ _ a) (b.up u) (u _ _ c) i
theorem dz.len (h:dz H Ms vs):b? vs=b? Ms:=by
 induction h with
 |nil=>rfl
 |cons _ _ _ _ i=>simp[i]
inductive eB (H:Hp) (v:V) (C:dT):Prop
 |mk (pm bm fm dm mm:m?) (xs ms:g? V) (h1_:v=ύ [ϊ pm,ϊ bm,ϊ fm,ϊ dm,ϊ mm]) (h2_:H[pm]? = d? (ό xs)) (h3_:dD H C.params xs) (h4_:H[bm]? = d? (ό (aU C.base))) (h5_:H[fm]? = d? (ό (aU C.faces))) (h6_:H[dm]? = d? (ό (aU C.fields))) (h7_:H[mm]? = d? (ό ms)) (h8_:dz H C.methods ms):eB H v C
theorem eB.up (c:eB H v C) (u:Up H H'):eB H' v C:=by
 obtain⟨pm,b,f,d,m,xs,ms,e,h,a,g,i,j,k,l⟩:=id c;exact⟨pm,b,f,d,m,xs,ms,e,u _ _ h,a.up u,u _ _ g,u _ _ i,u _ _ j,u _ _ k,l.up u⟩
structure xT (C:dT):Prop where
 base:∀t∈C.base,t∈ă
 faces:∀t∈C.faces,t∈ă
 fields:∀t∈C.fields,t∈ă
 meth:∀M∈C.methods,M.2.1∈ă/\∀a∈M.2.2,a∈ă
theorem mL:∀{i:m?} {ps:g? (m?×g? Tm)},b? (ar s i ps)=b? ps
 |i,[]=>rfl
 |i,(f,bs)::ps=>by simp only[el,Q?,mL (ps:=ps)]
theorem zV:∀{i:m?} {ps:g? (m?×g? Tm)} {t:Tm},Đ (ar s i ps) t=j?->∃j,i<=j/\t= .q s j
 |i,[]=>λh=>by rename_i t;cases h
 |i,(f,bs)::ps=>λh=>by
  rename_i t;simp only[cT,el,Đ,M!,Ğ] at h;rcases h with h|h
  ·exact⟨i,J? _,((Tm.beq_iff _ _).mp h).symm⟩
  ·exact bf (zV (i:=i+1) (ps:=ps) h) λj a H=>⟨j,by omega,H⟩
theorem ji:∀{i:m?} {ps:g? (m?×g? Tm)},(∀p∈ar s i ps,∀b∈p.2.2,b∈cI)->∀p∈ps,∀b∈p.2,b∈cI
 |i,[]=>λZ p H=>by cases H
 |i,(f,bs)::ps=>λh p H=>by
  rcases G?.mp H with rfl| H
  ·exact h (.q s i,f,bs) o?
  ·exact ji (i:=i+1) (ps:=ps) (λp H=>h p (q? _ H)) p H
theorem Mb (h:j<(if s=j? then 4 else 3)):Tm.q s j∈ă:=by
 cases s using so with
 |true=>
  have:j=0\/j=1\/j=2\/j=3:=by simp at h;omega
  rcases this with e|e|e|e<;>subst e<;>exact aO.mp (by decide+kernel)
 |false=>
  have:j=0\/j=1\/j=2:=by simp at h;omega
  rcases this with e|e|e<;>subst e<;>exact aO.mp (by decide+kernel)
theorem bj.YO (o:bj R):∀t∈R.map (λZ=>Z.1),t∈ă:=λt a=>by
 show bf (B_.mp a) λp H q=>?_;subst q;have:=(o.keys p H).2;have h:vars.all (λt=>fh t ă)=j?:=by decide+kernel
 exact aO.mp (L?.mp h _ this)
section
theorem Bz (u:Ur (b? H) (H++[c]) H') (h:H'[n]? = d? c'):Un n H H':=
 Un.of (λm c a e=>u m c (by have:=(i?.mp e).1;omega) (aC e)) h
theorem At.lt (a:At H n m xs):m<b? H:=(i?.mp a.go).1
theorem sz {H:Hp} {n:m?} {X:g? ā} (h:n<b? H):(H++X).set n (ώ [])=H.set n (ώ [])++X:=by
 rw[List.set_append_left _ _ h]
theorem Fy {d:m?} {H:Hp} {r:m?} {n:m?} {L:g? m?} {C:dT} {M:cN} {xs:g? V} {N S W Y o5 o6 o8 O A:p? V} {P:Fl->Ă->Hp->Prop} (hd:40<=d) (x:LS H n r (ar f? 0 C.params) L) (g:qX C.params M)
  (h1:At H n y xs) (h2:dD (H.set n (ώ [])) M.1 xs) (h3:At H n J (aU M.2.2)) (hr:M.2.1∈ă) (ha:∀a∈M.2.2,a∈ă)
  (q:∀H' o8 O A,Un n H H'->LS H' n r (ar f? 0 C.params) (iG (ar f? 0 C.params) L M)->P ϒ [d? (ϊ n),N,S,W,Y,o5,o6,d? (ϊ r),o8,O,d? (ϊ y),d? M.2.1.toV,d? (ϊ J),A] H') :
  VS d kK [d? (ϊ n),N,S,W,Y,o5,o6,d? (ϊ r),o8,O,d? (ϊ y),d? M.2.1.toV,d? (ϊ J),A] H P:=by
 show⟨?_⟩;have hnl:=(i?.mp x.told).1;have hxl:=h2.len;have hown:=g.own;have x1:=x.up (Up.app (X:=[Ϝ []]));have hal:=g.args;show bo (x1.items.1) ?_;have hrl:r<b? H:=by obtain⟨D,hD,_⟩:=x.rw;exact(i?.mp hD).1
 have hisd:=x1.items.2;have hchk:∀{K:Hp},Rw (K.set n (ώ [])) r (ar f? 0 C.params)->aH K (ϊ r)=d? (aU ((ar f? 0 C.params).map (λZ=>Z.1)))/\ao K (ϊ r)=ao (H++[Ϝ []]) (ϊ r):=by
  intro K w;obtain⟨D,h,lb⟩:=id w.out;have hk:=lb.keys;have hl:b? D<10000000:=by
   have:=R? b? hk;have hs:=x.o.short;simp only[N!,ax] at this;omega
  rw[hisd];exact⟨by simp only[aH,h,aJ,hl,V!,hk,fO,F?],by simp only[ao,h,fO,F?,Ĕ]⟩
 show GD (n:=n) (r:=b? H) (r0:=r) (R0:=ar f? 0 C.params) (R1:=ar f? 0 C.params) (R2:=[]) (D:=[]) (i:=9) (ρ:=[d? (ϊ n),N,S,W,Y,o5,o6,d? (ϊ r),o8,e?,d? (ϊ y),d? M.2.1.toV,d? (ϊ J),d? (ϊ (b? H))]) (o:=O) x.o hchk (λH H2 t v P e1 e2 hP=>⟨?_⟩) (by omega) (by omega) x.o.YO rfl (by rw[sz hnl];have:=aD (H:=H.set n (ώ [])) (c:=Ϝ []);simpa using this) .nil x1.rw_ λH2 D2 O u2 e2 lb2 w2=>?_
 ·simp![e1];exact bo (e2)<|hP
 have F:H2[n]? = d? (ό (aN L)):=u2 _ _ (by omega) (aC x.told);have I:=Bz u2 F;have hol:gE H2 (ϊ y)=d? (M.1.length:C?):=by rw[len_list (h1.un I).go (by omega),hxl]
 simp![hol];show⟨by omega,by omega,?_⟩;rw[show((M.1.length:C?).toNat)=M.1.length from by omega,aam];have noin:∀k,Đ (ar f? 0 C.params) (.q j? k)=f?:=λk=>by
  cases e:Đ (ar f? 0 C.params) (.q j? k) using so with
  |false=>rfl
  |true=>obtain⟨j,_,e'⟩:=zV e;cases e'
 show u0 (n:=n) (r:=b? H) (s:=j?) (i:=8) (pm:=y) (ρ:=[d? (ϊ n),N,S,W,Y,o5,o6,d? (ϊ r),e?,O,d? (ϊ y),d? M.2.1.toV,d? (ϊ J),d? (ϊ (b? H))]) (xs:=xs) (λH H2 j v P e1 e2 hP=>⟨?_⟩) (by omega) (by omega) (ps':=M.1) (xs':=xs) (j:=0) (o:=o8) e2 lb2 (h1.un I) (h2.up I) (λk=>by simp) (λk Z hk=>⟨Mb (by omega),noin k⟩) (by rw[mL];have:=x.o.short;rw[mL] at this;omega) λH3 D3 o8 u3 e3 lb3=>?_
 ·simp![e1];rw[show ύ [Ϗ "m",ϋ (j:C?)]=(Tm.q j? j).toV from rfl,e2,bL];exact hP
 have u3':=u2.trans u3;have T:H3[n]? = d? (ό (aN L)):=u3' _ _ (by omega) (aC x.told);have l:=Bz u3' T;have x3:LS H3 n (b? H) (ar f? 0 C.params++ar j? 0 M.1) L:=⟨T,x.okl,g.ctx,⟨D3,e3,lb3⟩⟩
 have oU:∀p∈M.1,p.2.length<100/\∀b∈p.2,b∈ă:=λp hp=>⟨g.few p hp,λb hb=>aZ (ji (λp hp=>g.ctx.Bb p (i! _ hp)) p hp b hb)⟩
 have B:∀{H':Hp} {L':g? m?} {o8 O:p? V},Un n H3 H'->LS H' n (b? H) (ar f? 0 C.params++ar j? 0 M.1) L'->L'=iG (ar f? 0 C.params) L M->P ϒ [d? (ϊ n),N,S,W,Y,o5,o6,d? (ϊ r),o8,O,d? (ϊ y),d? M.2.1.toV,d? (ϊ J),d? (ϊ (b? H))] H':=by
  intro H' L' o8 O u xx e;subst e;exact q H' o8 O _ (l.trans u) ⟨xx.told,xx.okl,x.o,x.rw_.up (l.trans u)⟩
 show cU (vo:=f?) (by_:=j?) (by omega) x3 hr λH4 u4 x4=>?_;have m:=h3.un (l.trans u4);show bo (aj m.go (by rw[ax];omega)) ?_;show iz (n:=n) (r:=b? H) (R:=ar f? 0 C.params++ar j? 0 M.1) (i:=9) (ρ:=[d? (ϊ n),N,S,W,Y,o5,o6,d? (ϊ r),o8,e?,d? (ϊ y),d? M.2.1.toV,d? (ϊ J),d? (ϊ (b? H))]) (f:=bM (ar f? 0 C.params++ar j? 0 M.1) j? f?) (H0:=H4) (λK uk=>⟨aj (m.un uk).go (by rw[ax];omega),by rw[av (m.un uk).go,av m.go]⟩) (λH L t P xx ht hPP=>⟨?_⟩) (o:=O) ha (Un.refl H4) x4 λH5 O u5 x5=>?_
 ·exact cU (vo:=j?) (by_:=f?) (by omega) xx ht hPP
 have z:=u4.trans u5;have h15:=h1.un (l.trans z);have hol5:gE H5 (ϊ y)=d? (M.1.length:C?):=by rw[len_list h15.go (by omega),hxl]
 simp![hol5];by_cases h0:M.1=[]
 ·simp![h0];show B z x5 ?_;unfold iG;rw[P? h0]
 ·have:(0:C?)<(M.1.length:C?):=by have:=List.length_pos_iff.mpr h0;omega
  simp![this];show gc (by omega) x5 h15 (h2.up (l.trans z)) (by omega) oU λH6 u6 x6=>?_;show B (z.trans u6) x6 ?_;unfold iG;rw[E? h0]
end
section
theorem CH (t:40<=d) (B:gu C) (j:xT C) (c:At H0 n m ms) (v:b? ms<1000) :
  ∀{Ms:g? cN} {vs:g? V} {H:Hp} {L:g? m?} {o8 e O a b o:p? V} {P:Fl->Ă->Hp->Prop},(∀M∈Ms,M∈C.methods)->Un n H0 H->LS H n r (ar f? 0 C.params) L->dz (H.set n (ώ [])) Ms vs->
   (∀H' o8 e O a b o,Un n H0 H'->LS H' n r (ar f? 0 C.params) (Ms.foldl (iG (ar f? 0 C.params)) L)->P ϒ [d? (ϊ n),w,y,z,A,o5,d? (ϊ m),d? (ϊ r),o8,e,O,a,b,o] H')->
   bG (bu Ā d kK) (d6 Ā d (Ϩ [10,11,12])) (λH'=>aH H' (ϊ m)=d? ms/\ao H' (ϊ m)=f?) vs [d? (ϊ n),w,y,z,A,o5,d? (ϊ m),d? (ϊ r),o8,e,O,a,b,o] H P:=by
 intro Ms;induction Ms with
 |nil=>
  intro vs H L o8 e O a b o P i u x f q;cases f with
  |nil=>exact⟨⟨aj (c.un u).go (by omega),av (c.un u).go⟩,q H _ _ _ _ _ _ u x⟩
 |cons M Ms I=>
  intro vs H L o8 e O a b o P i u x f q;cases f with
  |@cons _ _ D xs J F l p s f=>
   show⟨⟨aj (c.un u).go (by omega),av (c.un u).go⟩,?_⟩;have g:=i M o?;show⟨by decide,?_⟩;show(Fy t x (B.meth M g) ⟨l⟩ p ⟨s⟩ (j.meth M g).1 (j.meth M g).2 λH' o8 e o k X=>?_).run;exact I (λM h=>i M (q? _ h)) (u.trans k) X (f.up k) q
theorem BZ {P:Hp->Prop} (hd:45<=d) (Y:H[n]? = d? (ό (aN L))) (okl:nv L) (cv:eB (H.set n (ώ [])) v C) (O:gu C) (J:xT C)
  (q:∀H',Un n H H'->H'[n]? = d? (ό (aN (q1 L C)))->nv (q1 L C)->P H'):aG d 885 [ϊ n,v] H λZ H=>P H:=by
 show tO.go hd rfl λd hd=>?_;obtain⟨pm,B,F,g,m,xs,ms,rfl,h1,N,h3,h4,h5,h6,h7⟩:=id cv;have hnl:=(i?.mp Y).1;have hxl:=N.len;have hml:=h7.len;have hp2:=O.params;have p1:At H n pm xs:=⟨h1⟩
 have p3:At H n B (aU C.base):=⟨h3⟩
 have p4:At H n F (aU C.faces):=⟨h4⟩
 have p5:At H n g (aU C.fields):=⟨h5⟩
 have p6:At H n m ms:=⟨h6⟩
 have uA:Un n H (H++[Ϝ []]):=Un.up Up.app Y;simp![ec];show⟨by decide,?_⟩;have hpl:gE (H++[Ϝ []]) (ϊ pm)=d? (b? C.params:C?):=by rw[len_list (p1.un uA).go (by omega),hxl]
 simp![hpl];show⟨by omega,by omega,?_⟩;rw[show((b? C.params:C?).toNat)=b? C.params from by omega,aam];show u0 (n:=n) (r:=b? H) (s:=f?) (i:=8) (pm:=pm) (R:=[]) (D:=[]) (ρ:=[d? (ϊ n),d? (ύ [ϊ pm,ϊ B,ϊ F,ϊ g,ϊ m]),d? (ϊ pm),d? (ϊ B),d? (ϊ F),d? (ϊ g),d? (ϊ m),d? (ϊ (b? H)),e?,e?,e?,e?,e?,e?]) (xs:=xs) (λH H2 j v PP e1 e2 hP=>⟨?_⟩) (by omega) (by omega) (ps':=C.params) (xs':=xs) (j:=0) (o:=e?) (by rw[sz hnl];have:=aD (H:=H.set n (ώ [])) (c:=Ϝ []);simpa using this) .nil (p1.un uA) (N.up uA) (λk=>by simp) (λk Z hk=>⟨Mb (by omega),rfl⟩) (by simp;omega) λe D3 o8 u3 e3 lb3=>?_
 ·simp![e1];rw[show ύ [Ϗ "x",ϋ (j:C?)]=(Tm.q f? j).toV from rfl,e2,bL];exact hP
 have T:e[n]? = d? (ό (aN L)):=u3 _ _ (by omega) (aC Y);have w:=Bz u3 T;have x3:LS e n (b? H) (ar f? 0 C.params) L:=⟨T,okl,O.ctx,⟨D3,e3,lb3⟩⟩
 have pU:∀p∈C.params,p.2.length<100/\∀b∈p.2,b∈ă:=λp hp=>⟨O.few p hp,λb hb=>aZ (ji O.ctx.Bb p hp b hb)⟩
 have hbl:=O.base;have hfl:=O.faces;have hdl:=O.fields;have W:=O.methods;simp![];show bo (add_list (p3.un w).go (p4.un w).go (by rw[ax,ax];omega)) ?_;rw[Ew];have x3':=x3.up (Up.app (X:=[ό (aU (C.base++C.faces))]));have u3':=Un.up (Up.app (X:=[ό (aU (C.base++C.faces))])) T;have S:n<b? e:=(i?.mp T).1;have M:At (e++[ό (aU (C.base++C.faces))]) n (b? e) (aU (C.base++C.faces)):=⟨by rw[sz S];have:=aD (H:=e.set n (ώ [])) (c:=ό (aU (C.base++C.faces)));simpa using this⟩
 have un4:=w.trans u3';generalize (b? e)=m7 at *;generalize (e++[ό (aU (C.base++C.faces))])=H4 at *;show bo (aj M.go (by rw[ax,I?];omega)) ?_;show iz (n:=n) (r:=b? H) (R:=ar f? 0 C.params) (i:=9) (ρ:=[d? (ϊ n),d? (ύ [ϊ pm,ϊ B,ϊ F,ϊ g,ϊ m]),d? (ϊ pm),d? (ϊ B),d? (ϊ F),d? (ϊ g),d? (ϊ m),d? (ϊ (b? H)),o8,e?,e?,e?,e?,e?]) (f:=bM (ar f? 0 C.params) f? f?) (H0:=H4) (λK A=>⟨aj (M.un A).go (by rw[ax,I?];omega),by rw[av (M.un A).go,av M.go]⟩) (λH L t PP xx z l=>⟨?_⟩) (o:=e?) (λt z=>?_) (Un.refl H4) x3' λH5 o9 u5 x5=>?_
 ·exact cU (vo:=f?) (by_:=f?) (by omega) xx z l
 ·rcases N?.mp z with h|h
  ·exact J.base t h
  ·exact J.faces t h
 have x:=un4.trans u5;show gc (by omega) x5 (p1.un x) (N.up x) (by omega) pU λH6 u6 x6=>?_;have I:=x.trans u6;have a:=p5.un I;show bo (aj a.go (by rw[ax];omega)) ?_;show iz (n:=n) (r:=b? H) (R:=ar f? 0 C.params) (i:=9) (ρ:=[d? (ϊ n),d? (ύ [ϊ pm,ϊ B,ϊ F,ϊ g,ϊ m]),d? (ϊ pm),d? (ϊ B),d? (ϊ F),d? (ϊ g),d? (ϊ m),d? (ϊ (b? H)),o8,e?,e?,e?,e?,e?]) (f:=bM (ar f? 0 C.params) j? j?) (H0:=H6) (λK A=>⟨aj (a.un A).go (by rw[ax];omega),by rw[av (a.un A).go,av a.go]⟩) (λH L t PP xx z l=>⟨?_⟩) (o:=o9) J.fields (Un.refl H6) x6 λH7 o9 u7 x7=>?_
 ·exact cU (vo:=j?) (by_:=j?) (by omega) xx z l
 have y:=I.trans u7;have u:=p6.un y;simp![];rw[aj u.go (by omega),bL,eO,av u.go];show CH (by omega) O J u (by omega) (λZ h=>h) (Un.refl H7) x7 (h7.up y) λH8 o8 o9 o10 o11 o12 o13 u8 x8=>?_;exact q H8 (y.trans u8) x8.told x8.okl
end
section
theorem Wi (h:Tm.p n∈ă):n<16:=by
 have:=bI (P:=λt=>match t with| .p n=>decide (n<16)| _=>j?) (by decide+kernel) h
 simpa using this
def EN:ā:=Ϛ [("a",ϋ 4),("r",ϋ 5),("b",ϋ 8),("o",ϋ 9),("w",ϋ 11)]
theorem UL (h:H[m]? = d? EN):bN (ϊ m) (Ϗ (Tm.u k a).tag) H=d? (ϋ (k.sort:m?)):=by
 cases k using ϙ<;>(simp only[bN,h,vI,vS,vT,fO];kernel_rfl)
theorem V7 (H:t∈ă) (h:c∈t.dO):c∈ă:=uE H h
theorem gD {P:Hp->Prop} {chk:Hp->Prop} {C:Ă->Hp->(D?->Hp->Prop)->Prop} (w:KT H T)
  (f:∀ρ H P,P j? H->C ρ H P) (h:us=[]\/∃c,us=[c]) (b:∀H',chk H')
  (K:∀c∈us,∀(H:Hp) (T:g? Tm) (Q:V->Hp->Prop),KT H T->(∀(k:m?) t H',Nx H T H' t->t[k]? = d? c->Q (ϋ k) H')->aG d 798 [ϊ 3,c.toV] H Q)
  (q:∀t H' ks,Nx H T H' t->H'[b? H]? = d? (ό (aN ks))->aL t us ks->P H') :
  cC [1] C (bh Ā d f? (Ϯ 798 (ϓ (Ϙ 2) (ϓ (Ϙ 1) Ϥ)))) chk (b? H) (aU us) [e?,o,d? (ϊ 3)] (H++[ό []]) P:=by
 have a1:=Nx.app w [ό []];have i:=w.len;rcases h with rfl| ⟨c,rfl⟩
 ·exact⟨b _,q T _ [] a1 aD trivial⟩
 ·show⟨b _,?_⟩;show f _ _ _<|K c o? _ T _ a1.kt λk t H' a g=>?_;have e:=a.keep _ _ (by omega) (aD (H:=H) (c:=ό []));show bo (aV e (ň _)) ?_;have a2:=(a1.trans a).set (n:=b? H) (ό ([]++[ϋ (k:C?)])) (by omega);exact⟨b _,q t _ [k] a2 (ah e) ⟨g,trivial⟩⟩
theorem Bq:∀(n:m?) {t:Tm} {d:m?} {H:Hp} {A:g? Tm} {Q:V->Hp->Prop},t.size<=n->n+9<=d->KT H A->t∈ă->(∀(k:m?) g H',Nx H A H' g->g[k]? = d? t->Q (ϋ k) H')->aG d 798 [ϊ 3,t.toV] H Q:=by
 intro X;induction X with
 |zero=>
  exact λF Y z7 z8 z9=>by rename_i t d H A Q;exact absurd F (õ (size_pos t))
 |succ n K=>
  exact λF N w z q=>by
   rename_i t d H A Q;show kH.go N rfl λd N=>?_;have S:∀c∈t.dO,c.size<=n->∀(H:Hp) (A:g? Tm) (Q:V->Hp->Prop),KT H A->(∀(k:m?) g H',Nx H A H' g->g[k]? = d? c->Q (ϋ k) H')->aG d 798 [ϊ 3,c.toV] H Q:=
    λc x P H A Q w q=>K P (by omega) w (V7 z x) q
   simp![aw (aY),aw (Tg)];cases t using ϐ with
   |p m=>
    simp![Tm.wa];simp![Wk];obtain⟨R,W⟩:=w;simp![*,aw (aY),aw (Tg),Tm.wa];exact q m A H (Nx.refl ⟨R,W⟩) (W.prim m (Wi z))
   |q s m=>
    simp![Tm.wa,aw (aY),aw (kJ)];clear S F;cases s using so with
    |false=>
     simp![Tm.JE,w.cls,aw (hW),w.hJ,K?,aw (aY),aw (kJ)];simp![Sd];exact hG (t:=.q f? m) (by omega) w rfl z rfl q
    |true=>
     simp![Tm.JE,Tm.QQ,w.cls,aw (hW),w.hJ,K?,aw (aY),aw (kJ), *,aw (mv)];simp![Sd];exact hG (t:=.q j? m) (by omega) w rfl z rfl q
   |n0 s m=>
    simp![Tm.wa,Tm.JE,Tm.QQ,aw (aY),aw (kJ),aw (mv)];clear S F;cases s using so with
    |false=>
     simp![Tm.Gj,w.cls,aw (hW),w.hJ,K?,aw (aY),aw (i8)];simp![LZ,K?,cS];show gD (us:=[]) w (λZ Z Z h=>h) (x? rfl) (λZ=>by first|exact⟨cS,rfl⟩|exact⟨trivial,rfl⟩|rfl) (λc x=>by cases x) λg H' ks a y f=>?_;cases ks using aab with
     |cons _ _=>exact f.elim
     |nil=>
      show bo (dh y (by decide)) ?_;exact hG (t:=Ϡ f? m) (by omega) a.kt rfl z rfl λj T i a2 e=>q j T i (a.trans a2) e
    |true=>
     simp![Tm.Gj,Tm.jq,w.cls,aw (hW),w.hJ,K?,aw (aY),aw (i8),bL, *,aw (kO)];simp![LZ,K?,cS];show gD (us:=[]) w (λZ Z Z h=>h) (x? rfl) (λZ=>by first|exact⟨cS,rfl⟩|exact⟨trivial,rfl⟩|rfl) (λc x=>by cases x) λg H' ks a y f=>?_;cases ks using aab with
     |cons _ _=>exact f.elim
     |nil=>
      show bo (dh y (by decide)) ?_;exact hG (t:=Ϡ j? m) (by omega) a.kt rfl z rfl λj T i a2 e=>q j T i (a.trans a2) e
   |n1 s m b=>
    have v:b.size<=n:=by have:_+1<=n+1:=F;omega
    have l:b∈(ϗ s m b).dO:=by simp[Tm.dO]
    simp![Tm.wa,Tm.JE,Tm.QQ,aw (aY),aw (kJ),aw (mv)];clear F;cases s using so with
    |false=>
     simp![Tm.Gj,w.cls,aw (hW),w.hJ,K?,aw (aY),aw (i8)];simp![NU,K?,dt];show gD (us:=[b]) w (λZ Z Z h=>h) (u? ⟨b,rfl⟩) (λZ=>by first|exact⟨dt,rfl⟩|exact⟨trivial,rfl⟩|rfl) (λc x=>by rw[B?.mp x];exact S b l v) λg H' ks a y f=>?_;match ks,f with
     |[k],f=>
      show bo (dh y (by simp[aN])) ?_;exact hG (t:=ϗ f? m b) (by omega) a.kt ⟨k,f.1,rfl⟩ z rfl λj T i a2 e=>q j T i (a.trans a2) e
     |_::_::_,f=>exact f.2.elim
    |true=>
     simp![Tm.Gj,Tm.jq,w.cls,aw (hW),w.hJ,K?,aw (aY),aw (i8),bL, *,aw (kO)];simp![NU,K?,dt];show gD (us:=[b]) w (λZ Z Z h=>h) (u? ⟨b,rfl⟩) (λZ=>by first|exact⟨dt,rfl⟩|exact⟨trivial,rfl⟩|rfl) (λc x=>by rw[B?.mp x];exact S b l v) λg H' ks a y f=>?_;match ks,f with
     |[k],f=>
      show bo (dh y (by simp[aN])) ?_;exact hG (t:=ϗ j? m b) (by omega) a.kt ⟨k,f.1,rfl⟩ z rfl λj T i a2 e=>q j T i (a.trans a2) e
     |_::_::_,f=>exact f.2.elim
   |f0 o=>
    have D:o.size<=n:=by have:_+1<=n+1:=F;omega
    have C:o∈(Tm.f0 o).dO:=by simp[Tm.dO]
    simp![Tm.wa,Tm.JE,Tm.QQ,Tm.Gj,Tm.jq,Tm.WR,w.cls,aw (hW),w.hJ,K?,aw (aY),aw (kJ),aw (mv),aw (i8),aw (kO),aw (KX)];simp![Uo];show S o C D _ _ _ w λk I L a1 J=>?_;simp![cS];show gD (us:=[]) a1.kt (λZ Z Z h=>h) (x? rfl) (λZ=>by first|exact⟨cS,rfl⟩|exact⟨trivial,rfl⟩|rfl) (λc x=>by cases x) λg H' ks a y f=>?_;cases ks using aab with
    |cons _ _=>exact f.elim
    |nil=>
     show bo (dh y (by decide)) ?_;exact hG (t:=.f0 o) (by omega) a.kt ⟨k,a.code J,rfl⟩ z rfl λj T i a2 e=>q j T i ((a1.trans a).trans a2) e
   |f1 o b=>
    have D:o.size<=n:=by have:_+1<=n+1:=F;omega
    have v:b.size<=n:=by have:_+1<=n+1:=F;omega
    have C:o∈(Tm.f1 o b).dO:=by simp[Tm.dO]
    have l:b∈(Tm.f1 o b).dO:=by simp[Tm.dO]
    simp![Tm.wa,Tm.JE,Tm.QQ,Tm.Gj,Tm.jq,Tm.WR,w.cls,aw (hW),w.hJ,K?,aw (aY),aw (kJ),aw (mv),aw (i8),aw (kO),aw (KX)];simp![Uk];show S o C D _ _ _ w λk I L a1 J=>?_;simp![dt];show gD (us:=[b]) a1.kt (λZ Z Z h=>h) (u? ⟨b,rfl⟩) (λZ=>by first|exact⟨dt,rfl⟩|exact⟨trivial,rfl⟩|rfl) (λc x=>by rw[B?.mp x];exact S b l v) λg H' ks a y f=>?_;match ks,f with
    |[j],f=>
     show bo (dh y (by simp[aN])) ?_;exact hG (t:=.f1 o b) (by omega) a.kt ⟨k,j,a.code J,f.1,rfl⟩ z rfl λj T i a2 e=>q j T i ((a1.trans a).trans a2) e
    |_::_::_,f=>exact f.2.elim
   |u k b=>
    have v:b.size<=n:=by have:_+1<=n+1:=F;omega
    have l:b∈(Tm.u k b).dO:=by simp[Tm.dO]
    simp![Tm.wa,Tm.JE,Tm.QQ,Tm.Gj,Tm.jq,Tm.WR,w.cls,aw (hW),w.hJ,K?,aw (aY),aw (kJ),aw (mv),aw (i8),aw (kO),aw (KX),aD];rw[fk (r:=[])];have B:(H++[EN])[b? H]? = d? EN:=aD;show bo (UL B) ?_;have M:=Nx.app w [EN];simp![WZ];exact S b l v _ _ _ M.kt λj I L a1 O=>hG (t:=.u k b) (by omega) a1.kt ⟨j,O,rfl⟩ z rfl λj T i a2 e=>q j T i ((M.trans a1).trans a2) e
end
def M9 (H:Hp):Hp:=X? 9 (ώ [])++H.drop 9
theorem jK:(M9 H)[m]? = d? (ό xs)↔9<=m/\H[m]? = d? (ό xs):=by
 unfold M9;by_cases h:m<9
 ·rw[H? (h)];constructor
  ·intro e;rw[Ĵ] at e;simp[h] at e
  ·rintro⟨h',_⟩;omega
 ·rw[c! (by simp;omega),Ū,Ï,show 9+(m - 9)=m from by omega];exact⟨λe=>⟨by omega,e⟩,λe=>e.2⟩
def nU (H H':Hp):Prop:=∀(m:m?) (xs:g? V),H[m]? = d? (ό xs)->H'[m]? = d? (ό xs)
theorem M9.out:nU (M9 H) H:=λm xs e=>(jK.mp e).2
theorem M9.nx (a:Nx H T H' t):nU (M9 H) (M9 H'):=λm xs e=>by
 obtain⟨h,b⟩:=jK.mp e;exact jK.mpr ⟨h,a.keep _ _ (by omega) b⟩
theorem dD.iS (u:nU H H') (h:dD H ps xs):dD H' ps xs:=by
 induction h with
 |nil=>exact .nil
 |cons h _ i=>exact ϳ (u _ _ h) i
theorem dz.iS (u:nU H H') (h:dz H Ms vs):dz H' Ms vs:=by
 induction h with
 |nil=>exact .nil
 |cons a b c _ i=>exact .cons (u _ _ a) (b.iS u) (u _ _ c) i
theorem eB.iS (c:eB H v C) (u:nU H H'):eB H' v C:=by
 obtain⟨pm,b,f,d,m,xs,ms,e,h,a,g,i,j,k,l⟩:=id c;exact⟨pm,b,f,d,m,xs,ms,e,u _ _ h,a.iS u,u _ _ g,u _ _ i,u _ _ j,u _ _ k,l.iS u⟩
theorem bH.snoc:∀{ps:g? (m?×g? Tm)} {rs:g? (m?×g? m?)} {f:m?} {bs:g? Tm} {ks:g? m?},bH t ps rs->aL t bs ks->bH t (ps++[(f,bs)]) (rs++[(f,ks)])
 |[],[]=>λa h=>by rename_i f bs ks;exact⟨rfl,h,trivial⟩
 |(f,bs)::ps,(g,ks)::rs=>λh h'=>by rename_i F b k;exact⟨h.1,h.2.1,bH.snoc h.2.2 h'⟩
 |[],_::_=>λh z=>by rename_i _ _ _;exact h.elim
 |_::_,[]=>λh z=>by rename_i _ _ _;exact h.elim
section
theorem xk (a:21<=d) (h:c∈ă) (w:KT H T) (q:∀(k:m?) t H',Nx H T H' t->t[k]? = d? c->Q (ϋ k) H'):aG d 798 [ϊ 3,c.toV] H Q:=Bq 12 (Aj h) (by omega) w h q
theorem lM {P:Hp->Prop} {chk:Hp->Prop} {C:Ă->Hp->(D?->Hp->Prop)->Prop} {e:Ă->Hp->(V->Hp->Prop)->Prop} (y:21<=d) (z:b? H0<=m)
  (w:∀ρ H P,P j? H->C ρ H P) (x:∀(c:Tm) H P,aG d 798 [ϊ 3,c.toV] H P->e [e?,d? c.toV,d? (ϊ 3)] H P) (j:∀t H',Nx H0 gB H' t->chk H') :
  ∀{us us0:g? Tm} {H:Hp} {T:g? Tm} {ks:g? m?} {o:p? V},Nx H0 gB H T->H[m]? = d? (ό (aN ks))->aL T us0 ks->(∀u∈us,u∈ă)->b? ks+b? us<1000->
   (∀t H' K,Nx H0 gB H' t->H'[m]? = d? (ό (aN K))->aL t (us0++us) K->P H')->
   cC [1] C e chk m (aU us) [e?,o,d? (ϊ 3)] H P:=by
 intro L;induction L with
 |nil=>
  exact λa b h g p q=>by rename_i us0 H T ks o;exact⟨j _ _ a,q T H ks a b (by simpa using h)⟩
 |cons u us i=>
  exact λa b h g p q=>by
   rename_i us0 H T ks o;show⟨j _ _ a,?_⟩;have F:=a.base;simp only[Q?] at p;show w _ _ _ (x _ _ _ ?_);show xk y (g u o?) a.kt λk t H' A f=>?_;have l:=A.keep _ _ (by omega) b;show bo (aV l (by rw[aI];omega)) ?_;have a2:=(a.trans A).set (n:=m) (ό (aN ks++[ϋ (k:C?)])) z;show i (us0:=us0++[u]) (ks:=ks++[k]) a2 (by rw[cF];exact ah l) (aL.app (aL.up (λZ Z=>A.code) h) ⟨f,trivial⟩) (λv D=>g v (q? _ D)) (by simp;omega) λt H' K B r s=>q t H' K B r (by simpa using s)
theorem GZ {P:Hp->Prop} {chk:Hp->Prop} {c:Ă->Hp->(D?->Hp->Prop)->Prop} {g:Ă->Hp->(V->Hp->Prop)->Prop} (N:21<=d) (K:b? H0<=m)
  (F:∀ρ H P,P j? H->c ρ H P)
  (I:∀(f l:m?) (bs:g? Tm) (H:Hp) (T:g? Tm) w,KT H T->H[l]? = d? (ό (aU bs))->9<=l->(∀b∈bs,b∈ă)->b? bs<100->(∀t H' ks,Nx H T H' t->aL t bs ks->w (eM (f,ks)) H')->g [e?,d? (ϋ (f:m?)),d? (ϊ l),d? (ϊ 3)] H w)
  (x:∀t H',Nx H0 gB H' t->chk H') :
  ∀{ps ps0:g? (m?×g? Tm)} {xs:g? V} {H:Hp} {T:g? Tm} {rs:g? (m?×g? m?)} {O v:p? V},Nx H0 gB H T->H[m]? = d? (ό (rs.map eM))->bH T ps0 rs->dD (M9 H0) ps xs->(∀p∈ps,p.2.length<100/\∀b∈p.2,b∈ă)->b? rs+b? ps<1000->
   (∀t H' r,Nx H0 gB H' t->H'[m]? = d? (ό (r.map eM))->bH t (ps0++ps) r->P H')->
   cC [1,2] c g chk m xs [e?,O,v,d? (ϊ 3)] H P:=by
 intro ps;induction ps with
 |nil=>
  intro ps0 xs H T rs O v a k u e j z q;cases e with
  |nil=>exact⟨x _ _ a,q T H rs a k (by simpa using u)⟩
 |cons p ps L=>
  intro ps0 xs H T rs O v a k u e j z q;cases e with
  |@cons f bs l _ xs' s e=>
  obtain⟨J,h⟩:=jK.mp s;have i:=j _ o?;have M:=a.base;show⟨x _ _ a,?_⟩;simp only[Q?] at z;show F _ _ _ (I f l bs _ T _ a.kt (a.keep _ _ (by omega) h) J i.2 i.1 λt H' ks A o=>?_);have y:=A.keep _ _ (by omega) k;show bo (aV y (by simp;omega)) ?_;have a2:=(a.trans A).set (n:=m) (ό (rs.map eM++[eM (f,ks)])) K;show L (ps0:=ps0++[(f,bs)]) (rs:=rs++[(f,ks)]) a2 (by rw[ļ];exact ah y) (bH.snoc (bH.up (λZ Z=>A.code) u) o) e (λp e=>j p (q? _ e)) (by simp;omega) λt H' r B C D=>q t H' r B C (by simpa using D)
theorem lT (r:22<=d) (w:KT H T) (B:(M9 H)[pm]? = d? (ό xs)) (s:dD (M9 H) ps xs) (L:b? ps<100) (y:∀p∈ps,p.2.length<100/\∀b∈p.2,b∈ă)
  (q:∀m t H' rs,Nx H T H' t->b? H<=m->H'[m]? = d? (ό (rs.map eM))->bH t ps rs->Q (ϊ m) H'):aG d 890 [ϊ 3,ϊ pm] H Q:=by
 show px.go r rfl λd r=>?_;obtain⟨J,e⟩:=jK.mp B;have D:=s.len;simp![];show bo (aj e (by omega)) ?_;have A:=Nx.app w [ό []];show GZ (H0:=H) (gB:=T) (ps0:=[]) (rs:=[]) (d:=d) (by omega) (J? _) (λZ Z Z h=>h) (λf l bs K F I W i z k v j=>?_) (λt H' a=>⟨aj (a.keep _ _ (by omega) e) (by omega),by rw[av (a.keep _ _ (by omega) e),av e]⟩) A aD trivial s y (by simp;omega) λt H' rs a o C=>q (b? H) t H' rs a (J? _) o (C);simp![];show bo (aj i (by rw[ax];omega)) ?_;have u:=Nx.app W [ό []];show lM (H0:=K) (gB:=F) (us0:=[]) (ks:=[]) (d:=d) (by omega) (J? _) (λZ Z Z h=>h) (λc H P x=>by(simp![]);exact x) (λt H' a=>⟨aj (a.keep _ _ (by omega) i) (by rw[ax];omega),by rw[av (a.keep _ _ (by omega) i),av i]⟩) u aD trivial k (by simp;omega) λt H' ks a o g=>?_;have n:=g.len;show bo (dh o (by rw[aI,n];simp;omega)) ?_;exact j t H' ks a (g)
end
section
theorem mR {H:Hp} {c:ā} {r:g? ā}:(H++c::r)[b? H+(i+1)]? = r[i]? :=by
 rw[wN];rfl
theorem ry:(H++c::r).set (b? H+(i+1)) c'=H++c::r.set i c':=by
 rw[Ο _ _ (by omega),ĳ];rfl
def xw (a1 a2 a3 a4 a5 a:V):g? (k!×V):=[("fid",a1),("owner",a2),("name",a3),("kind",a4),("access",a5),("flags",a),("value",ϖ)]
theorem Qz (h:1<=d) (q:Q ϖ (H++[ϕ 296 (xw a1 a2 a3 a4 a5 a)])):aG d 293 [ϊ (b? H),a1,a2,a3,a4,a5,a] (H++[ϕ 296 []]) Q:=by
 show lI.go h rfl λd h=>?_;simp![];show bo (aK (fs':=[("fid",a1)]) (by decide+kernel) (by kernel_rfl)) ?_;simp![];show bo (aK (fs':=[("fid",a1),("owner",a2)]) (by decide+kernel) (by kernel_rfl)) ?_;simp![];show bo (aK (fs':=[("fid",a1),("owner",a2),("name",a3)]) (by decide+kernel) (by kernel_rfl)) ?_;simp![];show bo (aK (fs':=[("fid",a1),("owner",a2),("name",a3),("kind",a4)]) (by decide+kernel) (by kernel_rfl)) ?_;simp![];show bo (aK (fs':=[("fid",a1),("owner",a2),("name",a3),("kind",a4),("access",a5)]) (by decide+kernel) (by kernel_rfl)) ?_;simp![];show bo (aK (fs':=[("fid",a1),("owner",a2),("name",a3),("kind",a4),("access",a5),("flags",a)]) (by decide+kernel) (by kernel_rfl)) ?_;simp![];show bo (aK (fs':=[("fid",a1),("owner",a2),("name",a3),("kind",a4),("access",a5),("flags",a),("value",ϖ)]) (by decide+kernel) (by kernel_rfl)) ?_;exact q
def lP (l:m?) (a1 a2 a3 a4 a5:V):g? (k!×V):=[("tid",a1),("name",a2),("sort",a3),("flags",a4),("base",a5),("ifaces",ϊ (l+1)),("params",ϊ (l+2)),("variances",ϊ (l+3)),("bounds",ϊ (l+4))]
theorem PX {chk:Hp->Prop} (h:∀H',chk H'):∀{W ps vs bs:g? V} {o8:p? V} {P:Fl->Ă->Hp->Prop},3 * b? W+b? ps+b? vs+b? bs<1000->
  (∀ps' a B o8,P ϒ [d? (ϊ (b? H)),k,l,m,n,o,s,t,o8] (H++ϕ 275 (lP (b? H) a1 a2 a3 a4 a5)::[ό [],ό ps',ό a,ό B]))->
  bG (bu Ā d hF) (d6 Ā d (ϝ 8)) chk W [d? (ϊ (b? H)),k,l,m,n,o,s,t,o8] (H++ϕ 275 (lP (b? H) a1 a2 a3 a4 a5)::[ό [],ό ps,ό vs,ό bs]) P:=by
 intro y;induction y with
 |nil=>
  exact λj q=>by rename_i ps vs bs o8 P;exact⟨h _,q ps vs bs o8⟩
 |cons w W I=>
  exact λj q=>by
   rename_i ps vs bs o8 P;show⟨h _,?_⟩;simp only[Q?] at j;have L:∀{r:g? ā},aA (H++ϕ 275 (lP (b? H) a1 a2 a3 a4 a5)::r) "params" (ϊ (b? H))=d? (ϊ (b? H+2)):=ay lA (by kernel_rfl);have u:∀{r:g? ā},aA (H++ϕ 275 (lP (b? H) a1 a2 a3 a4 a5)::r) "variances" (ϊ (b? H))=d? (ϊ (b? H+3)):=ay lA (by kernel_rfl);have x:∀{r:g? ā},aA (H++ϕ 275 (lP (b? H) a1 a2 a3 a4 a5)::r) "bounds" (ϊ (b? H))=d? (ϊ (b? H+4)):=ay lA (by kernel_rfl);have g:∀{c:ā} {i p v b:g? V},(H++c::[ό i,ό p,ό v,ό b])[b? H+2]? = d? (ό p):=mR (i:=1);have e:∀{c:ā} {i p v b:g? V},(H++c::[ό i,ό p,ό v,ό b])[b? H+3]? = d? (ό v):=mR (i:=2);have f:∀{c:ā} {i p v b:g? V},(H++c::[ό i,ό p,ό v,ό b])[b? H+4]? = d? (ό b):=mR (i:=3);simp![L,bq g,K?];rw[aV g (by omega),bL,ry (i:=1)];simp![u,bq e,K?];rw[aV e (by omega),bL,ry (i:=2)];simp![x,bq f,K?];rw[aV f (by omega),bL,ry (i:=3)];exact I (ps:=ps++[w]) (by simp;omega) q
def vH (l:m?) (a1 a2 a3 a4 a5 a:V):g? (k!×V):=[("tid",a1),("name",a2),("sort",a3),("flags",a4),("base",a5),("ifaces",ϊ (l+1)),("params",ϊ (l+2)),("variances",ϊ (l+3)),("bounds",ϊ (l+4)),("fields",ϊ (l+5)),("methods",ϊ (l+6)),("asm",a),("cctor",ϋ 0),("under",ϋ (-1)),("impls",ϊ (l+7)),("props",ϊ (l+8)),("events",ϊ (l+9)),("finaliser",ϋ 0),("home",ϋ 0)]
theorem FN (h:1<=d) (b:b? w<100) (q:∀ps vs bs,Q ϖ (H++ϕ 275 (vH (b? H) a1 a2 a3 a4 a5 a)::[ό [],ό ps,ό vs,ό bs,ό [],ό [],ό [],ό [],ό []])):aG d 272 [ϊ (b? H),a1,a2,a3,a4,a5,ύ w,a] (H++[ϕ 275 []]) Q:=by
 show fS.go h rfl λd h=>?_;simp![];show bo (aK (fs':=[("tid",a1)]) (by decide+kernel) (by kernel_rfl)) ?_;simp![];show bo (aK (fs':=[("tid",a1),("name",a2)]) (by decide+kernel) (by kernel_rfl)) ?_;simp![];show bo (aK (fs':=[("tid",a1),("name",a2),("sort",a3)]) (by decide+kernel) (by kernel_rfl)) ?_;simp![];show bo (aK (fs':=[("tid",a1),("name",a2),("sort",a3),("flags",a4)]) (by decide+kernel) (by kernel_rfl)) ?_;simp![];show bo (aK (fs':=[("tid",a1),("name",a2),("sort",a3),("flags",a4),("base",a5)]) (by decide+kernel) (by kernel_rfl)) ?_;simp![ca,bV,Š];show bo (aK (fs':=[("tid",a1),("name",a2),("sort",a3),("flags",a4),("base",a5),("ifaces",ϊ (b? H+1))]) (by decide+kernel) (by kernel_rfl)) ?_;simp![ca,bV];show bo (aK (fs':=[("tid",a1),("name",a2),("sort",a3),("flags",a4),("base",a5),("ifaces",ϊ (b? H+1)),("params",ϊ (b? H+2))]) (by decide+kernel) (by kernel_rfl)) ?_;simp![ca,bV];show bo (aK (fs':=[("tid",a1),("name",a2),("sort",a3),("flags",a4),("base",a5),("ifaces",ϊ (b? H+1)),("params",ϊ (b? H+2)),("variances",ϊ (b? H+3))]) (by decide+kernel) (by kernel_rfl)) ?_;simp![ca,bV];show bo (aK (fs':=[("tid",a1),("name",a2),("sort",a3),("flags",a4),("base",a5),("ifaces",ϊ (b? H+1)),("params",ϊ (b? H+2)),("variances",ϊ (b? H+3)),("bounds",ϊ (b? H+4))]) (by decide+kernel) (by kernel_rfl)) ?_;simp![];show bo (ba (by omega)) ?_;show PX (H:=H) (a1:=a1) (a2:=a2) (a3:=a3) (a4:=a4) (a5:=a5) (λZ=>⟨ba (by omega),rfl⟩) (by simp;omega) λps vs bs o8=>?_;simp![ca,bV];show bo (aK (fs':=[("tid",a1),("name",a2),("sort",a3),("flags",a4),("base",a5),("ifaces",ϊ (b? H+1)),("params",ϊ (b? H+2)),("variances",ϊ (b? H+3)),("bounds",ϊ (b? H+4)),("fields",ϊ (b? H+5))]) (by decide+kernel) (by kernel_rfl)) ?_;simp![ca,bV];show bo (aK (fs':=[("tid",a1),("name",a2),("sort",a3),("flags",a4),("base",a5),("ifaces",ϊ (b? H+1)),("params",ϊ (b? H+2)),("variances",ϊ (b? H+3)),("bounds",ϊ (b? H+4)),("fields",ϊ (b? H+5)),("methods",ϊ (b? H+6))]) (by decide+kernel) (by kernel_rfl)) ?_;simp![];show bo (aK (fs':=[("tid",a1),("name",a2),("sort",a3),("flags",a4),("base",a5),("ifaces",ϊ (b? H+1)),("params",ϊ (b? H+2)),("variances",ϊ (b? H+3)),("bounds",ϊ (b? H+4)),("fields",ϊ (b? H+5)),("methods",ϊ (b? H+6)),("asm",a)]) (by decide+kernel) (by kernel_rfl)) ?_;simp![];show bo (aK (fs':=[("tid",a1),("name",a2),("sort",a3),("flags",a4),("base",a5),("ifaces",ϊ (b? H+1)),("params",ϊ (b? H+2)),("variances",ϊ (b? H+3)),("bounds",ϊ (b? H+4)),("fields",ϊ (b? H+5)),("methods",ϊ (b? H+6)),("asm",a),("cctor",ϋ 0)]) (by decide+kernel) (by kernel_rfl)) ?_;simp![];show bo (aK (fs':=[("tid",a1),("name",a2),("sort",a3),("flags",a4),("base",a5),("ifaces",ϊ (b? H+1)),("params",ϊ (b? H+2)),("variances",ϊ (b? H+3)),("bounds",ϊ (b? H+4)),("fields",ϊ (b? H+5)),("methods",ϊ (b? H+6)),("asm",a),("cctor",ϋ 0),("under",ϋ (-1))]) (by decide+kernel) (by kernel_rfl)) ?_;simp![ca,bV];show bo (aK (fs':=[("tid",a1),("name",a2),("sort",a3),("flags",a4),("base",a5),("ifaces",ϊ (b? H+1)),("params",ϊ (b? H+2)),("variances",ϊ (b? H+3)),("bounds",ϊ (b? H+4)),("fields",ϊ (b? H+5)),("methods",ϊ (b? H+6)),("asm",a),("cctor",ϋ 0),("under",ϋ (-1)),("impls",ϊ (b? H+7))]) (by decide+kernel) (by kernel_rfl)) ?_;simp![ca,bV];show bo (aK (fs':=[("tid",a1),("name",a2),("sort",a3),("flags",a4),("base",a5),("ifaces",ϊ (b? H+1)),("params",ϊ (b? H+2)),("variances",ϊ (b? H+3)),("bounds",ϊ (b? H+4)),("fields",ϊ (b? H+5)),("methods",ϊ (b? H+6)),("asm",a),("cctor",ϋ 0),("under",ϋ (-1)),("impls",ϊ (b? H+7)),("props",ϊ (b? H+8))]) (by decide+kernel) (by kernel_rfl)) ?_;simp![ca,bV];show bo (aK (fs':=[("tid",a1),("name",a2),("sort",a3),("flags",a4),("base",a5),("ifaces",ϊ (b? H+1)),("params",ϊ (b? H+2)),("variances",ϊ (b? H+3)),("bounds",ϊ (b? H+4)),("fields",ϊ (b? H+5)),("methods",ϊ (b? H+6)),("asm",a),("cctor",ϋ 0),("under",ϋ (-1)),("impls",ϊ (b? H+7)),("props",ϊ (b? H+8)),("events",ϊ (b? H+9))]) (by decide+kernel) (by kernel_rfl)) ?_;simp![];show bo (aK (fs':=[("tid",a1),("name",a2),("sort",a3),("flags",a4),("base",a5),("ifaces",ϊ (b? H+1)),("params",ϊ (b? H+2)),("variances",ϊ (b? H+3)),("bounds",ϊ (b? H+4)),("fields",ϊ (b? H+5)),("methods",ϊ (b? H+6)),("asm",a),("cctor",ϋ 0),("under",ϋ (-1)),("impls",ϊ (b? H+7)),("props",ϊ (b? H+8)),("events",ϊ (b? H+9)),("finaliser",ϋ 0)]) (by decide+kernel) (by kernel_rfl)) ?_;simp![];show bo (aK (fs':=[("tid",a1),("name",a2),("sort",a3),("flags",a4),("base",a5),("ifaces",ϊ (b? H+1)),("params",ϊ (b? H+2)),("variances",ϊ (b? H+3)),("bounds",ϊ (b? H+4)),("fields",ϊ (b? H+5)),("methods",ϊ (b? H+6)),("asm",a),("cctor",ϋ 0),("under",ϋ (-1)),("impls",ϊ (b? H+7)),("props",ϊ (b? H+8)),("events",ϊ (b? H+9)),("finaliser",ϋ 0),("home",ϋ 0)]) (by decide+kernel) (by kernel_rfl)) ?_;exact q ps vs bs
end
section
variable {d:m?} {H:Hp} {Q:V->Hp->Prop} {a1 a2 a3 a4 a5 a6 a7:V}
theorem sU {c:m?} (h:1<=d) (a:c=0\/c=1\/c=2) (q:∀names,Q (ύ names) (H++[ό names])):aG d 349 [ϋ c] H Q:=by
 show hS.go h rfl λd h=>?_;have b:∀K:Hp,cY v! (Ϗ "p") (Ϗ (A? (toString (0:C?)))) K=d? (Ϗ ("p"++A? (toString (0:C?))),K):=λK=>by kernel_rfl
 have B:∀K:Hp,cY v! (Ϗ "p") (Ϗ (A? (toString (1:C?)))) K=d? (Ϗ ("p"++A? (toString (1:C?))),K):=λK=>by kernel_rfl
 rcases a with rfl|rfl|rfl
 ·simp![];show⟨by decide,by decide,?_⟩;rw[show((l! (0:C?).toNat).map λ(j:m?)=>ϋ (j:C?))=[] from rfl];simp![bC,K?];show bo (dh aD (by decide)) ?_;exact q []
 ·simp![];show⟨by decide,by decide,?_⟩;rw[show((l! (1:C?).toNat).map λ(j:m?)=>ϋ (j:C?))=[ϋ 0] from rfl];simp![bC,cz,K?,bq aD];try show⟨by decide,by decide,?_⟩
  rw[b];simp![];rw[aV aD (by decide),bL,fk (r:=[])];simp![];show bo (dh aD (by simp)) ?_;exact q _
 ·simp![];show⟨by decide,by decide,?_⟩;rw[show((l! (2:C?).toNat).map λ(j:m?)=>ϋ (j:C?))=[ϋ 0,ϋ 1] from rfl];simp![bC,cz,bq aD];try show⟨by decide,by decide,?_⟩
  rw[b];simp![];rw[aV aD (by decide),bL,fk (r:=[])];simp![bq aD,K?];try show⟨by decide,by decide,?_⟩
  rw[B];simp![];rw[aV aD (by simp),bL,fk (r:=[])];show bo (dh aD (by simp)) ?_;exact q _
def qz (l:m?) (a1 a2 a3 a4 a5 a:V) (ks n p:g? V):g? (k!×V):=[("mid",a1),("owner",a2),("name",a3),("access",a4),("flags",a5),("ngen",ϋ 0),("gnames",ϊ (l+1)),("gbounds",ϊ (l+2)),("ret",a),("params",ύ ks),("pnames",ύ n),("pflags",ύ p),("body",ϖ),("native",ϋ 0)]
theorem GO {m:m?} {ks:g? V} (c:2<=d) (b:H[m]? = d? (ό ks)) (e:b? ks=0\/b? ks=1\/b? ks=2) (q:∀n p,Q ϖ (H++ϕ 317 (qz (b? H) a1 a2 a3 a4 a5 a6 ks n p)::[ό [],ό [],ό n])):aG d 314 [ϊ (b? H),a1,a2,a3,a4,a5,a6,ϊ m] (H++[ϕ 317 []]) Q:=by
 show eU.go c rfl λd c=>?_;have P:∃p,∀K:Hp,cY .Mult (ύ [ϋ 0]) (ϋ (b? ks:m?)) K=d? (ύ p,K):=by
  show⟨(X? (b? ks) [ϋ 0]).flatten,λK=>?_⟩;have h:((b? ks:m?):C?)=0\/((b? ks:m?):C?)=1\/((b? ks:m?):C?)=2:=e.imp (R? abB) (Or.imp (R? abB) (R? abB));exact P? ⟨rfl,h,rfl⟩
 simp![];show bo (aK (fs':=[("mid",a1)]) (by decide+kernel) (by kernel_rfl)) ?_;simp![];show bo (aK (fs':=[("mid",a1),("owner",a2)]) (by decide+kernel) (by kernel_rfl)) ?_;simp![];show bo (aK (fs':=[("mid",a1),("owner",a2),("name",a3)]) (by decide+kernel) (by kernel_rfl)) ?_;simp![];show bo (aK (fs':=[("mid",a1),("owner",a2),("name",a3),("access",a4)]) (by decide+kernel) (by kernel_rfl)) ?_;simp![];show bo (aK (fs':=[("mid",a1),("owner",a2),("name",a3),("access",a4),("flags",a5)]) (by decide+kernel) (by kernel_rfl)) ?_;simp![];show bo (aK (fs':=[("mid",a1),("owner",a2),("name",a3),("access",a4),("flags",a5),("ngen",ϋ 0)]) (by decide+kernel) (by kernel_rfl)) ?_;simp![ca,bV];show bo (aK (fs':=[("mid",a1),("owner",a2),("name",a3),("access",a4),("flags",a5),("ngen",ϋ 0),("gnames",ϊ (b? H+1))]) (by decide+kernel) (by kernel_rfl)) ?_;simp![ca,bV];show bo (aK (fs':=[("mid",a1),("owner",a2),("name",a3),("access",a4),("flags",a5),("ngen",ϋ 0),("gnames",ϊ (b? H+1)),("gbounds",ϊ (b? H+2))]) (by decide+kernel) (by kernel_rfl)) ?_;simp![];show bo (aK (fs':=[("mid",a1),("owner",a2),("name",a3),("access",a4),("flags",a5),("ngen",ϋ 0),("gnames",ϊ (b? H+1)),("gbounds",ϊ (b? H+2)),("ret",a6)]) (by decide+kernel) (by kernel_rfl)) ?_;simp![];show bo (dh (aC b) (by omega)) ?_;simp![];show bo (aK (fs':=[("mid",a1),("owner",a2),("name",a3),("access",a4),("flags",a5),("ngen",ϋ 0),("gnames",ϊ (b? H+1)),("gbounds",ϊ (b? H+2)),("ret",a6),("params",ύ ks)]) (by decide+kernel) (by kernel_rfl)) ?_;simp![];show bo (len_list (aC b) (by omega)) ?_;show sU (by omega) e λn=>?_;rw[bV];show bo (aK (fs':=[("mid",a1),("owner",a2),("name",a3),("access",a4),("flags",a5),("ngen",ϋ 0),("gnames",ϊ (b? H+1)),("gbounds",ϊ (b? H+2)),("ret",a6),("params",ύ ks),("pnames",ύ n)]) (by decide+kernel) (by kernel_rfl)) ?_;simp![];show bo (len_list (aC b) (by omega)) ?_;obtain⟨p,a⟩:=P;simp![];first|show bo (a) ?_|rw[a,bL]
 simp![];show bo (aK (fs':=[("mid",a1),("owner",a2),("name",a3),("access",a4),("flags",a5),("ngen",ϋ 0),("gnames",ϊ (b? H+1)),("gbounds",ϊ (b? H+2)),("ret",a6),("params",ύ ks),("pnames",ύ n),("pflags",ύ p)]) (by decide+kernel) (by kernel_rfl)) ?_;simp![];show bo (aK (fs':=[("mid",a1),("owner",a2),("name",a3),("access",a4),("flags",a5),("ngen",ϋ 0),("gnames",ϊ (b? H+1)),("gbounds",ϊ (b? H+2)),("ret",a6),("params",ύ ks),("pnames",ύ n),("pflags",ύ p),("body",ϖ)]) (by decide+kernel) (by kernel_rfl)) ?_;simp![];show bo (aK (fs':=[("mid",a1),("owner",a2),("name",a3),("access",a4),("flags",a5),("ngen",ϋ 0),("gnames",ϊ (b? H+1)),("gbounds",ϊ (b? H+2)),("ret",a6),("params",ύ ks),("pnames",ύ n),("pflags",ύ p),("body",ϖ),("native",ϋ 0)]) (by decide+kernel) (by kernel_rfl)) ?_;exact q n p
end
def fQ (H:Hp):Hp:=X? 136 (ώ [])++H.drop 136
theorem aS {H:Hp} {m:m?} {xs:g? V}:(fQ H)[m]? = d? (ό xs)↔136<=m/\H[m]? = d? (ό xs):=by
 unfold fQ;by_cases h:m<136
 ·rw[H? (h)];constructor
  ·intro e;rw[Ĵ] at e;simp[h] at e
  ·rintro⟨h',_⟩;omega
 ·rw[c! (by simp;omega),Ū,Ï,show 136+(m - 136)=m from by omega];exact⟨λe=>⟨by omega,e⟩,λe=>e.2⟩
theorem fQ.m9 {H:Hp}:nU (fQ H) (M9 H):=λm xs e=>by
 obtain⟨a,h⟩:=aS.mp e;exact jK.mpr ⟨by omega,h⟩
theorem KT.put {H:Hp} {t:g? Tm} (w:KT H t) {n:m?} {c:ā} (h:9<=n):KT (H.set n c) t:=by
 obtain⟨r,k⟩:=w;exact⟨r,⟨ae k.inst (by omega),ae k.c4 (by omega),ae k.c5 (by omega),ae k.c6 (by omega),ae k.c7 (by omega),ae k.c8 (by omega),k.len,k.row,k.inj,k.prim,k.lO,let⟨xs,e,l⟩:=k.Vq;⟨xs,ae e (by omega),l⟩⟩⟩
structure SS (H:Hp) (ts:g? Tm) (ex fx mx:g? V):Prop where
 w:WS H ts
 len:136<=b? H
 ty:H[15]? = d? (ό (lq++ex))
 fd:H[10]? = d? (ό fx)
 me:H[11]? = d? (ό (ϖ::ϊ 132::mx))
 l1:b? ex<=10
 l2:b? fx<=30
 l3:b? mx<=30
section
variable {H:Hp} {ts:g? Tm} {ex fx mx:g? V}
theorem SS.nx {H':Hp} {t:g? Tm} (s:SS H ts ex fx mx) (a:Nx H ts H' t):SS H' t ex fx mx:=
 ⟨s.w.nx a,S? s.len a.len,a.keep _ _ (by omega) s.ty,a.keep _ _ (by omega) s.fd,a.keep _ _ (by omega) s.me,s.l1,s.l2,s.l3⟩
theorem SS.put {n:m?} {c:ā} (s:SS H ts ex fx mx) (d:136<=n):SS (H.set n c) ts ex fx mx where
 w:=⟨s.w.kt.put (by omega),ae s.w.st (by omega),let⟨e,h,l⟩:=s.w.ty;⟨e,ae h (by omega),l⟩,let⟨e,h⟩:=s.w.me;⟨e,ae h (by omega)⟩,λm c' a b e=>ae (s.w.stat m c' a b e) (by omega),s.w.c16,s.w.c17⟩
 len:=by rw[d_];exact s.len
 ty:=ae s.ty (by omega)
 fd:=ae s.fd (by omega)
 me:=ae s.me (by omega)
 l1:=s.l1
 l2:=s.l2
 l3:=s.l3
theorem SS.YH {v:V} (s:SS H ts ex fx mx) (c:b? ex<10):SS (H.set 15 (ό (lq++ex++[v]))) ts (ex++[v]) fx mx where
 w:=⟨s.w.kt.put (by omega),ae s.w.st (by omega),⟨ex++[v],by rw[ah s.ty,ę],by simp;omega⟩,let⟨e,h⟩:=s.w.me;⟨e,ae h (by omega)⟩,λm c' a b e=>ae (s.w.stat m c' a b e) (by omega),s.w.c16,s.w.c17⟩
 len:=by rw[d_];exact s.len
 ty:=by rw[ah s.ty,ę]
 fd:=ae s.fd (by omega)
 me:=ae s.me (by omega)
 l1:=by simp;omega
 l2:=s.l2
 l3:=s.l3
theorem SS.Tr {v:V} (s:SS H ts ex fx mx) (c:b? fx<30):SS (H.set 10 (ό (fx++[v]))) ts ex (fx++[v]) mx where
 w:=⟨s.w.kt.put (by omega),ae s.w.st (by omega),let⟨e,h,l⟩:=s.w.ty;⟨e,ae h (by omega),l⟩,let⟨e,h⟩:=s.w.me;⟨e,ae h (by omega)⟩,λm c' a b e=>ae (s.w.stat m c' a b e) (by omega),s.w.c16,s.w.c17⟩
 len:=by rw[d_];exact s.len
 ty:=ae s.ty (by omega)
 fd:=ah s.fd
 me:=ae s.me (by omega)
 l1:=s.l1
 l2:=by simp;omega
 l3:=s.l3
theorem SS.Ve {v:V} (s:SS H ts ex fx mx) (c:b? mx<30):SS (H.set 11 (ό (ϖ::ϊ 132::mx++[v]))) ts ex fx (mx++[v]) where
 w:=⟨s.w.kt.put (by omega),ae s.w.st (by omega),let⟨e,h,l⟩:=s.w.ty;⟨e,ae h (by omega),l⟩,⟨mx++[v],ah s.me⟩,λm c' a b e=>ae (s.w.stat m c' a b e) (by omega),s.w.c16,s.w.c17⟩
 len:=by rw[d_];exact s.len
 ty:=ae s.ty (by omega)
 fd:=ae s.fd (by omega)
 me:=ah s.me
 l1:=s.l1
 l2:=s.l2
 l3:=by simp;omega
structure Bn (H:Hp) (ts:g? Tm) (H':Hp) (ts':g? Tm):Prop where
 keep:∀m c,136<=m->H[m]? = d? c->H'[m]? = d? c
 len:b? H<=b? H'
 code:∀(k:m?) (u:Tm),ts[k]? = d? u->ts'[k]? = d? u
theorem Bn.refl:Bn H ts H ts:=⟨λZ Z Z e=>e,J? _,λZ Z e=>e⟩
theorem Bn.trans {A B C:Hp} {t tb T:g? Tm} (a:Bn A t B tb) (b:Bn B tb C T):Bn A t C T:=⟨λm c h e=>b.keep m c h (a.keep m c h e),S? a.len b.len,λk u e=>b.code k u (a.code k u e)⟩
theorem Nx.bn {H':Hp} {t:g? Tm} (a:Nx H ts H' t):Bn H ts H' t:=⟨λm c h e=>a.keep m c (by omega) e,a.len,λk u e=>a.code e⟩
theorem Bn.set {H':Hp} {t:g? Tm} (a:Bn H ts H' t) {n:m?} {c:ā} (b:n<136\/b? H<=n):Bn H ts (H'.set n c) t:=⟨λm c' h e=>ae (a.keep m c' h e) (by have:=(i?.mp e).1;omega),by rw[d_];exact a.len,a.code⟩
theorem Bn.iS {H':Hp} {t:g? Tm} (a:Bn H ts H' t):nU (fQ H) (fQ H'):=λm xs e=>by
 obtain⟨h,b⟩:=aS.mp e;exact aS.mpr ⟨h,a.keep _ _ h b⟩
end
structure iV (H:Hp) (x nf nm:m?) (vb vi vbo:V) (fl ml:g? m?):Prop where
 ex:∃fs,H[x]? = d? (ϕ 275 fs)/\fs.lookup ("base":k!)=d? vb/\fs.lookup ("ifaces":k!)=d? vi/\fs.lookup ("bounds":k!)=d? vbo/\fs.lookup ("fields":k!)=d? (ϊ nf)/\fs.lookup ("methods":k!)=d? (ϊ nm)
 f:H[nf]? = d? (ό (aN fl))
 m:H[nm]? = d? (ό (aN ml))
 gt:136<=x/\136<=nf/\136<=nm/\x≠nf/\x≠nm/\nf≠nm
inductive dX (H:Hp) (ts:g? Tm) (fx:g? V) (fid:m?) (t:Tm):Prop
 |mk (c k:m?) (fs:g? (k!×V)) (h1_:fx[fid]? = d? (ϊ c)) (h2_:fid<1000) (h3_:H[c]? = d? (ϕ 296 fs)) (h4_:136<=c) (h5_:fs.lookup ("kind":k!)=d? (ϋ k)) (h6_:ts[k]? = d? t):dX H ts fx fid t
theorem dX.bn {H H':Hp} {e T:g? Tm} {fx g:g? V} {f:m?} {t:Tm} (p:dX H e fx f t) (b:Bn H e H' T):dX H' T (fx++g) f t:=by
 obtain⟨c,k,fs,h,i,j,a,l,m⟩:=id p;exact⟨c,k,fs,by rw[H? (i?.mp h).1];exact h,i,b.keep _ _ a j,a,l,b.code _ _ m⟩
section
variable {d:m?} {H:Hp} {ts:g? Tm} {ex fx mx:g? V} {x nf nm:m?} {vb vi vbo:V} {fl ml:g? m?}
theorem iV.nx {H':Hp} {T:g? Tm} (t:iV H x nf nm vb vi vbo fl ml) (a:Nx H ts H' T):iV H' x nf nm vb vi vbo fl ml:=by
 show bf t.ex λfs h r=>?_;have:=t.gt;exact⟨⟨fs,a.keep _ _ (by omega) h,r⟩,a.keep _ _ (by omega) t.f,a.keep _ _ (by omega) t.m,t.gt⟩
theorem iV.put {n:m?} {c:ā} (t:iV H x nf nm vb vi vbo fl ml) (a:n<136):iV (H.set n c) x nf nm vb vi vbo fl ml:=by
 show bf t.ex λfs h r=>?_;have:=t.gt;exact⟨⟨fs,ae h (by omega),r⟩,ae t.f (by omega),ae t.m (by omega),t.gt⟩
theorem iV.Tr {gl:g? m?} (t:iV H x nf nm vb vi vbo fl ml):iV (H.set nf (ό (aN gl))) x nf nm vb vi vbo gl ml:=by
 show bf t.ex λfs h r=>?_;have:=t.gt;exact⟨⟨fs,ae h (by omega),r⟩,ah t.f,ae t.m (by omega),t.gt⟩
theorem iV.Ve {gl:g? m?} (t:iV H x nf nm vb vi vbo fl ml):iV (H.set nm (ό (aN gl))) x nf nm vb vi vbo fl gl:=by
 show bf t.ex λfs h r=>?_;have:=t.gt;exact⟨⟨fs,ae h (by omega),r⟩,ae t.f (by omega),ah t.m,t.gt⟩
theorem iV.jo (t:iV H x nf nm vb vi vbo fl ml):aA H "fields" (ϊ x)=d? (ϊ nf):=by
 exact Vy t.ex λfs h Z Z Z r Z=>ay h r
theorem iV.gG (t:iV H x nf nm vb vi vbo fl ml):aA H "methods" (ϊ x)=d? (ϊ nm):=by
 exact Vy t.ex λfs h Z Z Z Z r=>ay h r
theorem iV.Ku {v:V} (t:iV H x nf nm vb vi vbo fl ml):∃c,ck (ϊ x) "base" v H=d? (H.set x c)/\iV (H.set x c) x nf nm v vi vbo fl ml:=by
 show Vy t.ex λfs h i a b e g=>?_;have:=t.gt;show⟨_,ix h (by decide+kernel) rfl,⟨_,ah h,?_,?_,?_,?_,?_⟩,ae t.f (by omega),ae t.m (by omega),t.gt⟩
 ·rw[aE,P? (by decide+kernel)]
 ·rw[aE,E? (by decide+kernel),a]
 ·rw[aE,E? (by decide+kernel),b]
 ·rw[aE,E? (by decide+kernel),e]
 ·rw[aE,E? (by decide+kernel),g]
theorem iV.AH {v:V} (t:iV H x nf nm vb vi vbo fl ml):∃c,ck (ϊ x) "ifaces" v H=d? (H.set x c)/\iV (H.set x c) x nf nm vb v vbo fl ml:=by
 show Vy t.ex λfs h a i b e g=>?_;have:=t.gt;show⟨_,ix h (by decide+kernel) rfl,⟨_,ah h,?_,?_,?_,?_,?_⟩,ae t.f (by omega),ae t.m (by omega),t.gt⟩
 ·rw[aE,E? (by decide+kernel),a]
 ·rw[aE,P? (by decide+kernel)]
 ·rw[aE,E? (by decide+kernel),b]
 ·rw[aE,E? (by decide+kernel),e]
 ·rw[aE,E? (by decide+kernel),g]
theorem iV.Bu {v:V} (t:iV H x nf nm vb vi vbo fl ml):∃c,ck (ϊ x) "bounds" v H=d? (H.set x c)/\iV (H.set x c) x nf nm vb vi v fl ml:=by
 show Vy t.ex λfs h a b i e g=>?_;have:=t.gt;show⟨_,ix h (by decide+kernel) rfl,⟨_,ah h,?_,?_,?_,?_,?_⟩,ae t.f (by omega),ae t.m (by omega),t.gt⟩
 ·rw[aE,E? (by decide+kernel),a]
 ·rw[aE,E? (by decide+kernel),b]
 ·rw[aE,P? (by decide+kernel)]
 ·rw[aE,E? (by decide+kernel),e]
 ·rw[aE,E? (by decide+kernel),g]
theorem BI {tid D:m?} {u:Tm} {i j l o5 o6 o8 o O a b e:p? V} {P:Fl->Ă->Hp->Prop} (J:22<=d) (z:u∈ă) (s:SS H ts ex fx mx) (t:iV H x nf nm vb vi vbo fl ml) (F:b? fx<30) (I:b? fl<100)
  (q:∀H' T c,Bn (H.set nf (ό (aN (fl++[b? fx])))) ts H' T->SS H' T ex (fx++[ϊ c]) mx->iV H' x nf nm vb vi vbo (fl++[b? fx]) ml->dX H' T (fx++[ϊ c]) (b? fx) u->P ϒ [d? (ϊ 2),i,j,d? (ϊ 3),l,o5,o6,d? (ϊ D),o8,d? (ϋ tid),d? (ϊ x),d? u.toV,o,O,a,b,e] H') :
  VS d ey [d? (ϊ 2),i,j,d? (ϊ 3),l,o5,o6,d? (ϊ D),o8,d? (ϋ tid),d? (ϊ x),d? u.toV,o,O,a,b,e] H P:=by
 show⟨?_⟩;have v:=t.gt;simp![ey,aw (t.jo),bq t.f,aw (s.w.jo)];rw[len_list s.fd (by omega)];simp![];rw[aV t.f (by rw[aI];omega),bL,show aN fl++[ϋ (b? fx:C?)]=aN (fl++[b? fx]) from by simp[aN]];have S:=s.put (n:=nf) (c:=ό (aN (fl++[b? fx]))) (by omega);have A:=t.Tr (gl:=fl++[b? fx]);generalize (H.set nf (ό (aN (fl++[b? fx]))))=E at *;simp![aw (S.w.jo),bq S.fd,K?];show bo (len_list S.fd (by omega)) ?_;show xk (by omega) z S.w.kt λk g h a2 y=>?_;show⟨by omega,?_⟩;show Qz (by omega) ?_;show⟨rfl,?_⟩;have m:=S.nx a2;have a3:=Nx.app a2.kt [ϕ 296 (xw (ϋ (b? fx:m?)) (ϋ tid) (Ϗ "f") (ϋ k) (ϋ 6) (ϋ 0))];have p:=m.nx a3;have B:=(A.nx a2).nx a3;have C:(h++[ϕ 296 (xw (ϋ (b? fx:m?)) (ϋ tid) (Ϗ "f") (ϋ k) (ϋ 6) (ϋ 0))])[b? h]? = d? _:=aD;have r:=m.len;show bo (aV p.fd (by omega)) ?_;exact q _ g (b? h) ((a2.bn.trans a3.bn).set (x? (by omega))) (p.Tr (by omega)) (B.put (by omega)) ⟨b? h,k,_,by rw[c! (J? _),ξ];rfl,by omega,ae C (by omega),by omega,by kernel_rfl,y⟩
theorem wb {B:Hp} {tb:g? Tm} {tid D:m?} {all:g? Tm} {o1 o2 o4 o5 o6 o8 O r w y z:p? V} (hd:22<=d) (p:(fQ B)[D]? = d? (ό (aU all))) (hal:b? all<1000) (hB:b? B<=x/\b? B<=nf) :
  ∀{us us0:g? Tm} {H:Hp} {j:g? Tm} {fx:g? V} {fl:g? m?} {o:p? V} {P:Fl->Ă->Hp->Prop},(∀u∈us,u∈ă)->Bn B tb H j->SS H j ex fx mx->iV H x nf nm vb vi vbo fl ml->b? fx+b? us<=30->b? fl+b? us<100->b? fl=b? us0->
   (∀(i F:m?) (t:Tm),fl[i]? = d? F->us0[i]? = d? t->dX H j fx F t)->
   (∀H' T g a o,Bn B tb H' T->(∀m c,136<=m->m≠nf->H[m]? = d? c->H'[m]? = d? c)->(∀(k:m?) (u:Tm),j[k]? = d? u->T[k]? = d? u)->SS H' T ex g mx->iV H' x nf nm vb vi vbo a ml->b? g<=b? fx+b? us->b? a=b? (us0++us)->(∀(i F:m?) (t:Tm),a[i]? = d? F->(us0++us)[i]? = d? t->dX H' T g F t)->P ϒ [d? (ϊ 2),o1,o2,d? (ϊ 3),o4,o5,o6,d? (ϊ D),o8,d? (ϋ tid),d? (ϊ x),o,O,r,w,y,z] H')->
   bG (bu Ā d ey) (d6 Ā d (ϝ 11)) (λH'=>aH H' (ϊ D)=d? (aU all)/\ao H' (ϊ D)=f?) (aU us) [d? (ϊ 2),o1,o2,d? (ϊ 3),o4,o5,o6,d? (ϊ D),o8,d? (ϋ tid),d? (ϊ x),o,O,r,w,y,z] H P:=by
 intro l_;induction l_ with
 |nil=>
  exact λN b s t S W K M q=>by
   rename_i us0 H j fx fl o P;obtain⟨I,J⟩:=aS.mp p;have l:=b.keep _ _ I J;exact⟨⟨aj l (by rw[ax];omega),av l⟩,q H j fx fl o b (λZ Z Z Z e=>e) (λZ Z e=>e) s t (by omega) (by simpa using K) (by simpa using M)⟩
 |cons u us Q=>
  exact λN b s t S W K M q=>by
   rename_i us0 H j fx fl o P;obtain⟨I,J⟩:=aS.mp p;have l:=b.keep _ _ I J;show⟨⟨aj l (by rw[ax];omega),av l⟩,?_⟩;simp only[Q?] at S W;show(BI hd (N u o?) s t (by omega) (by omega) λH' T c A s' t' fp=>?_).run;have b1:=b.set (n:=nf) (c:=ό (aN (fl++[b? fx]))) (u? hB.2);have bb:∀(i F:m?) (v:Tm),fl[i]? = d? F->us0[i]? = d? v->dX (H.set nf (ό (aN (fl++[b? fx])))) j fx F v:=λi F v E h=>by
    obtain⟨c,k,fs,f1,f2,C,f4,f5,f6⟩:=id (M i F v E h);exact⟨c,k,fs,f1,f2,ae C (by rintro rfl;rw[t.f] at C;cases C),f4,f5,f6⟩
   show Q (us0:=us0++[u]) (fx:=fx++[ϊ c]) (fl:=fl++[b? fx]) (λv hv=>N v (q? _ hv)) (b1.trans A) s' t' (by simp;omega) (by simp;omega) (by simp[K]) (λi F v E h=>?_) λH2 R g a o r1 ra rb r2 r3 r4 r5 r6=>q H2 R g a o r1 (λm c X Y e=>ra m c X Y (A.keep _ _ X (ae e (N_ Y)))) (λk u e=>rb k u (A.code k u e)) r2 r3 (by simp at r4 ⊢;omega) (by simpa using r5) (by simpa using r6);by_cases hi:i<b? fl
   ·rw[H? hi] at E;rw[H? (by omega)] at h;exact(bb i F v E h).bn A
   ·rw[c! (by omega)] at E;rw[c! (by omega)] at h;have L:i - b? fl=0:=by
     have:=(i?.mp E).1;simp at this;omega
    rw[L] at E;rw[show i - b? us0=0 from by omega] at h;simp only[ö,Þ] at E h;subst E;subst h;exact fp
end
inductive eo (H:Hp) (ts:g? Tm) (nm:m?) (mx:g? V) (mid:m?) (M:cN):Prop
 |mk (y ng kr:m?) (ss:g? (m?×g? m?)) (ks:g? m?) (fs:g? (k!×V)) (h1_:(ϖ::ϊ 132::mx)[mid]? = d? (ϊ y)) (h2_:mid<1000) (h3_:mid≠0) (h4_:H[y]? = d? (ϕ 317 fs)) (h5_:136<=y) (h6_:fs.lookup ("ngen":k!)=d? (ϋ (M.1.length:m?))) (h7_:fs.lookup ("ret":k!)=d? (ϋ kr)) (h8_:ts[kr]? = d? M.2.1) (h9_:fs.lookup ("params":k!)=d? (ύ (aN ks))) (h10_:aL ts M.2.2 ks) (h11_:fs.lookup ("gbounds":k!)=d? (ϊ ng)) (h12_:H[ng]? = d? (ό (ss.map eM))) (h13_:136<=ng) (h14_:bH ts M.1 ss) (h15_:ng≠nm):eo H ts nm mx mid M
theorem eo.bn {mx j:g? V} {M:cN} (p:eo H T nm mx mid M) (b:Bn H T H' t):eo H' t nm (mx++j) mid M:=by
 obtain⟨y,ng,K,ss,ks,fs,g,k,l,m,i,n,o,q,r,a,c,d,h,e,f⟩:=id p;exact⟨y,ng,K,ss,ks,fs,by rw[<- m_,<- m_,H? (i?.mp g).1];exact g,k,l,b.keep _ _ i m,i,n,o,b.code _ _ q,r,aL.up b.code a,c,b.keep _ _ h d,h,bH.up b.code e,f⟩
section
theorem yj {d:m?} {H:Hp} {ts:g? Tm} {ex:g? V} {fx:g? V} {mx:g? V} {x:m?} {nf:m?} {nm:m?} {vb:V} {vi:V} {D:V} {fl:g? m?} {ml:g? m?} {M:cN} {xs:g? V} {o1 o2 o4 o5 o6 o7 B O C:p? V} {PP:Fl->Ă->Hp->Prop} (hd:25<=d) (hr:M.2.1∈ă) (ha:∀a∈M.2.2,a∈ă) (hal:M.2.2.length<=2)
  (z:(fQ H)[om]? = d? (ό xs)) (hx:dD (fQ H) M.1 xs) (ham:(fQ H)[am]? = d? (ό (aU M.2.2))) (hol:M.1.length<100) (hof:∀p∈M.1,p.2.length<100/\∀b∈p.2,b∈ă)
  (s:SS H ts ex fx mx) (t:iV H x nf nm vb vi D fl ml) (h1:b? mx<30) (h2:b? ml<100)
  (q:∀r H' T c O,Bn H ts r T->H'=r.set nm (ό (aN (ml++[b? mx+2])))->SS H' T ex fx (mx++[ϊ c])->iV H' x nf nm vb vi D fl (ml++[b? mx+2])->b? H<=c->eo r T nm (mx++[ϊ c]) (b? mx+2) M->PP ϒ [d? (ϊ 2),o1,o2,d? (ϊ 3),o4,o5,o6,o7,d? (ϊ mm),d? (ϋ tid),d? (ϊ x),B,d? (ϊ om),d? M.2.1.toV,d? (ϊ am),O,C] H') :
  VS d ew [d? (ϊ 2),o1,o2,d? (ϊ 3),o4,o5,o6,o7,d? (ϊ mm),d? (ϋ tid),d? (ϊ x),B,d? (ϊ om),d? M.2.1.toV,d? (ϊ am),O,C] H PP:=by
 show⟨?_⟩;have hgt:=t.gt;obtain⟨ha1,ha2⟩:=aS.mp ham;obtain⟨ho1,ho2⟩:=aS.mp z;have hxl:=hx.len;have hHl:=s.len;simp![ew,aw (s.w.gG)];show bo (len_list s.me (by simp;omega)) ?_;simp![];show xk (by omega) hr s.w.kt λk ts1 r a1 hk=>?_;have J:=a1.keep _ _ (by omega) ha2;simp![];show bo (aj J (by rw[ax];omega)) ?_;have ak:=Nx.app a1.kt [ό []];simp![];show lM (H0:=r) (gB:=ts1) (us0:=[]) (ks:=[]) (d:=d) (by omega) (J? _) (λZ Z Z h=>h) (λc H P hc=>by(simp![]);exact hc) (λT H' a=>⟨aj (a.keep _ _ (by omega) J) (by rw[ax];omega),by rw[av (a.keep _ _ (by omega) J),av J]⟩) ak aD trivial ha (by simp;omega) λts2 i ks a2 hm o=>?_;rw[Y_] at o;have hkl:=o.len;show⟨by omega,?_⟩;show GO (by omega) hm (by rw[aI];omega) λN j=>?_;show⟨rfl,?_⟩;have hl2:=a2.len;have hl1:=a1.len;have a3:=Nx.app a2.kt (ϕ 317 (qz (b? i) (ϋ (b? (ϖ::ϊ 132::mx):m?)) (ϋ tid) (Ϗ "m") (ϋ 6) (ϋ 0) (ϋ k) (aN ks) N j)::[ό [],ό [],ό N]);have I:(i++ϕ 317 (qz (b? i) (ϋ (b? (ϖ::ϊ 132::mx):m?)) (ϋ tid) (Ϗ "m") (ϋ 6) (ϋ 0) (ϋ k) (aN ks) N j)::[ό [],ό [],ό N])[b? i]? = d? (ϕ 317 (qz (b? i) (ϋ (b? (ϖ::ϊ 132::mx):m?)) (ϋ tid) (Ϗ "m") (ϋ 6) (ϋ 0) (ϋ k) (aN ks) N j)):=lA;have A:=(a1.trans a2).trans a3;generalize (i++ϕ 317 (qz (b? i) (ϋ (b? (ϖ::ϊ 132::mx):m?)) (ϋ tid) (Ϗ "m") (ϋ 6) (ϋ 0) (ϋ k) (aN ks) N j)::[ό [],ό [],ό N])=R at *;have u:ts2[k]? = d? M.2.1:=a2.code hk;have hyl:b? H<=b? i:=by omega
 generalize (b? i)=y at *;have L:∃fs,R[y]? = d? (ϕ 317 fs)/\fs.lookup ("mid":k!)=d? (ϋ ((b? mx+2:m?)))/\fs.lookup ("ret":k!)=d? (ϋ k)/\fs.lookup ("params":k!)=d? (ύ (aN ks)):=⟨_,I,by kernel_rfl,by kernel_rfl,by kernel_rfl⟩
 have hnmH:nm<b? H:=(i?.mp t.m).1;show Lw L λF I m1 m2 m3=>?_;have o3:=A.keep _ _ (by omega) ho2;simp![];rw[len_list o3 (by omega),hxl];simp![];show bo (ix I (by decide+kernel) rfl) ?_;have a4:=A.set (n:=y) (ϕ 317 (au "ngen" (ϋ (M.1.length:m?)) F)) (by omega);have c4:(R.set y (ϕ 317 (au "ngen" (ϋ (M.1.length:m?)) F)))[y]? = d? (ϕ 317 (au "ngen" (ϋ (M.1.length:m?)) F)):=ah I;have n1:(au (A? "ngen") (ϋ (M.1.length:m?)) F).lookup ("ngen":k!)=d? (ϋ (M.1.length:m?)):=by rw[aE,P? (by decide+kernel)]
 have n2:(au (A? "ngen") (ϋ (M.1.length:m?)) F).lookup ("ret":k!)=d? (ϋ k):=by rw[aE,E? (by decide+kernel),m2]
 have n3:(au (A? "ngen") (ϋ (M.1.length:m?)) F).lookup ("params":k!)=d? (ύ (aN ks)):=by rw[aE,E? (by decide+kernel),m3]
 have n4:(au (A? "ngen") (ϋ (M.1.length:m?)) F).lookup ("mid":k!)=d? (ϋ ((b? mx+2:m?))):=by rw[aE,E? (by decide+kernel),m1]
 generalize (au (A? "ngen") (ϋ (M.1.length:m?)) F)=f at *;generalize (R.set y (ϕ 317 f))=H4 at *;have m9:nU (fQ H) (M9 H4):=λm xs e=>fQ.m9 m xs (a4.bn.iS m xs e);simp![];show lT (by omega) a4.kt (m9 _ _ z) (hx.iS m9) hol hof λg ts5 W ss a5 hm5 hb5 hr5=>?_;have c5:=a5.keep _ _ (by omega) c4;show bo (ix c5 (by decide+kernel) rfl) ?_;have Y:=(a4.trans a5).set (n:=y) (ϕ 317 (au "gbounds" (ϊ g) f)) (by omega);have c6:(W.set y (ϕ 317 (au "gbounds" (ϊ g) f)))[y]? = d? (ϕ 317 (au "gbounds" (ϊ g) f)):=ah c5;have hl4:=a4.len;have b6:(W.set y (ϕ 317 (au "gbounds" (ϊ g) f)))[g]? = d? (ό (ss.map eM)):=ae hb5 (by omega);have p1:(au (A? "gbounds") (ϊ g) f).lookup ("ngen":k!)=d? (ϋ (M.1.length:m?)):=by rw[aE,E? (by decide+kernel),n1]
 have p2:(au (A? "gbounds") (ϊ g) f).lookup ("ret":k!)=d? (ϋ k):=by rw[aE,E? (by decide+kernel),n2]
 have p3:(au (A? "gbounds") (ϊ g) f).lookup ("params":k!)=d? (ύ (aN ks)):=by rw[aE,E? (by decide+kernel),n3]
 have p4:(au (A? "gbounds") (ϊ g) f).lookup ("mid":k!)=d? (ϋ ((b? mx+2:m?))):=by rw[aE,E? (by decide+kernel),n4]
 have p5:(au (A? "gbounds") (ϊ g) f).lookup ("gbounds":k!)=d? (ϊ g):=by rw[aE,P? (by decide+kernel)]
 generalize (au (A? "gbounds") (ϊ g) f)=l at *;generalize (W.set y (ϕ 317 l))=X at *;have S:=s.nx Y;have t6:=t.nx Y;simp![aw (S.w.gG),bq S.me,K?];show bo (aV S.me (by simp;omega)) ?_;have s7:=S.Ve (v:=ϊ y) h1;have K:=t6.put (n:=11) (c:=ό (ϖ::ϊ 132::mx++[ϊ y])) (by omega);have b7:=Y.bn.set (n:=11) (c:=ό (ϖ::ϊ 132::mx++[ϊ y])) (x? (by omega));have c7:(X.set 11 (ό (ϖ::ϊ 132::mx++[ϊ y])))[y]? = d? (ϕ 317 l):=ae c6 (by omega);have d7:(X.set 11 (ό (ϖ::ϊ 132::mx++[ϊ y])))[g]? = d? (ό (ss.map eM)):=ae b6 (by omega);generalize (X.set 11 (ό (ϖ::ϊ 132::mx++[ϊ y])))=H7 at *;simp![aw (K.gG),bq K.m,K?,show aA H7 "mid" (ϊ y)=d? (ϋ ((b? mx+2:m?))) from ay c7 p4];rw[aV K.m (by rw[aI];omega),bL,show aN ml++[ϋ ((b? mx+2:m?):C?)]=aN (ml++[b? mx+2]) from by simp[aN]];show q H7 _ ts5 y _ b7 rfl (s7.put (by omega)) K.Ve hyl ⟨y,g,k,ss,ks,l,?_,by omega,by omega,c7,by omega,p1,p2,a5.code u,p3,aL.up (λZ Z=>a5.code) o,p5,d7,by omega,hr5,by have:=a4.len;omega⟩;rw[<- m_,<- m_,c! (by simp)];simp
end
section
variable {d:m?} {H:Hp} {ts:g? Tm} {ex fx mx:g? V} {x nf nm:m?} {vb vi vbo:V} {fl ml:g? m?}
theorem yT {B:Hp} {tb:g? Tm} {tid I:m?} {all:g? V} {o1 o2 o4 o5 o6 o7 J L:p? V} (hd:25<=d) (D:(fQ B)[I]? = d? (ό all)) (hal:b? all<1000) (hB:b? B<=x/\b? B<=nm) :
  ∀{Ms Ms0:g? cN} {vs:g? V} {H:Hp} {r:g? Tm} {mx:g? V} {ml:g? m?} {O f g o:p? V} {P:Fl->Ă->Hp->Prop},
   (∀M∈Ms,M.2.1∈ă/\(∀a∈M.2.2,a∈ă)/\M.2.2.length<=2/\M.1.length<100/\∀p∈M.1,p.2.length<100/\∀b∈p.2,b∈ă)->dz (fQ B) Ms vs->Bn B tb H r->SS H r ex fx mx->iV H x nf nm vb vi vbo fl ml->b? mx+b? Ms<=30->b? ml+b? Ms<100->b? ml=b? Ms0->
   (∀(i mid:m?) (M:cN),ml[i]? = d? mid->Ms0[i]? = d? M->eo H r nm mx mid M)->
   (∀(i fid:m?),fl[i]? = d? fid->ŀ)->
   (∀H' T j h O f g o,Bn B tb H' T->(∀m c,136<=m->m≠nm->H[m]? = d? c->H'[m]? = d? c)->(∀(k:m?) (u:Tm),r[k]? = d? u->T[k]? = d? u)->SS H' T ex fx j->iV H' x nf nm vb vi vbo fl h->b? j<=b? mx+b? Ms->b? h=b? (Ms0++Ms)->(∀(i mid:m?) (M:cN),h[i]? = d? mid->(Ms0++Ms)[i]? = d? M->eo H' T nm j mid M)->P ϒ [d? (ϊ 2),o1,o2,d? (ϊ 3),o4,o5,o6,o7,d? (ϊ I),d? (ϋ tid),d? (ϊ x),J,O,f,g,o,L] H')->
   bG (bu Ā d ew) (d6 Ā d (Ϩ [12,13,14])) (λH'=>aH H' (ϊ I)=d? all/\ao H' (ϊ I)=f?) vs [d? (ϊ 2),o1,o2,d? (ϊ 3),o4,o5,o6,o7,d? (ϊ I),d? (ϋ tid),d? (ϊ x),J,O,f,g,o,L] H P:=by
 intro Ms;induction Ms with
 |nil=>
  intro Ms0 vs H r mx ml O f g o P hu C b s t h1 h2 h3 hp hfl q;cases C with
  |nil=>
   obtain⟨g1,g2⟩:=aS.mp D;have A:=b.keep _ _ g1 g2;exact⟨⟨aj A (by omega),av A⟩,q H r mx ml _ _ _ _ b (λZ Z Z Z e=>e) (λZ Z e=>e) s t (by omega) (by simpa using h3) (by simpa using hp)⟩
 |cons M Ms ih=>
  intro Ms0 vs H r mx ml O f g o P hu C b s t h1 h2 h3 hp hfl q;cases C with
  |@cons _ _ vs' xs om am g4 g5 g6 C=>
   obtain⟨g1,g2⟩:=aS.mp D;have A:=b.keep _ _ g1 g2;show⟨⟨aj A (by omega),av A⟩,?_⟩;show X9 (hu M o?) λu1 u2 u3 u4 u5=>?_;simp only[Q?] at h1 h2;have hgt:=t.gt;show⟨by decide,?_⟩;show(yj hd u1 u2 u3 (b.iS _ _ g4) (g5.iS b.iS) (b.iS _ _ g6) u4 u5 s t (by omega) (by omega) λH1 H' T c o z N s' t' hc mp=>?_).run;have Q:Bn B tb H' T:=by rw[N];exact(b.trans z).set (u? hB.2)
   have n:∀{K:Hp} {k:g? Tm} {gx:g? V} {mid:m?} {w:cN} {c:ā},K[nm]? = d? (ό (aN ml))->eo K k nm gx mid w->eo (K.set nm c) k nm gx mid w:=by
    intro K k gx mid w c hnm p;obtain⟨y,ng,kr,ss,ks,fs,f1,f2,f3,f4,f5,f6,f7,f8,f9,R,S,W,X,Y,F⟩:=id p;exact⟨y,ng,kr,ss,ks,fs,f1,f2,f3,ae f4 (by rintro rfl;rw[hnm] at f4;cases f4),f5,f6,f7,f8,f9,R,S,ae W (N_ F),X,Y,F⟩
   have l:=z.keep _ _ hgt.2.2.1 t.m;show ih (Ms0:=Ms0++[M]) (mx:=mx++[ϊ c]) (ml:=ml++[b? mx+2]) (λM hM=>hu M (q? _ hM)) C Q s' t' (by simp;omega) (by simp;omega) (by simp[h3]) (λi mid w E v=>?_) (λZ Z Z=>trivial) λH2 ts2 j h O f g o r1 r2 r3 r4 r5 r6 r7 r8=>q H2 ts2 j h O f g o r1 (λm c hm hn e=>r2 m c hm hn (by rw[N];exact ae (z.keep _ _ hm e) (N_ hn))) (λk u e=>r3 k u (z.code k u e)) r4 r5 (by simp at r6 ⊢;omega) (by simpa using r7) (by simpa using r8);by_cases hi:i<b? ml
   ·rw[H? hi] at E;rw[H? (by omega)] at v;rw[N];exact n l ((hp i mid w E v).bn z)
   ·rw[c! (by omega)] at E;rw[c! (by omega)] at v;have hi0:i - b? ml=0:=by
     have:=(i?.mp E).1;simp at this;omega
    rw[hi0] at E;rw[show i - b? Ms0=0 from by omega] at v;simp only[ö,Þ] at E v;subst E;subst v;rw[N];exact n l mp
end
section
variable {d:m?} {H:Hp} {ts:g? Tm} {ex fx mx:g? V} {x nf nm:m?} {vb vi vbo:V} {fl ml:g? m?} {Q:V->Hp->Prop} {L:g? m?}
theorem SS.KW {E:m?->Prop} {H':Hp} {t:g? Tm} (s:SS H ts ex fx mx) (a:cE E H ts H' t) (b:∀m,E m->136<=m):SS H' t ex fx mx:=
 ⟨s.w.KW a b,S? s.len a.len,a.keep _ _ (λh=>by have:=b _ h;omega) (by omega) s.ty,a.keep _ _ (λh=>by have:=b _ h;omega) (by omega) s.fd,a.keep _ _ (λh=>by have:=b _ h;omega) (by omega) s.me,s.l1,s.l2,s.l3⟩
theorem GS {C:dT} {ex0:g? V} {ib:C?} {ni nb tn:m?} {ki:g? m?} {rs:g? (m?×g? m?)} {o1 o3 o4 o5 o6 o7 o8 o11 o12 o13 o14 o15 o16:p? V} (hd:50<=d) (ok:gu C)
  (s:SS H ts ex fx mx) (j:ex=ex0++[ϊ x]) (t:iV H x nf nm (ϋ ib) (ϊ ni) (ϊ nb) fl ml)
  (W:C.base=[]->ib= -1) (X:∀t,C.base=[t]->∃k:m?,ib=k/\ts[k]? = d? t)
  (hni:H[ni]? = d? (ό (aN ki))) (hni9:136<=ni) (hki:aL ts C.faces ki) (hnb:H[nb]? = d? (ό (rs.map eM))) (o:136<=nb) (hrs:bH ts C.params rs)
  (Y:b? fl=b? C.fields) (hfp:∀(i F:m?) (t:Tm),fl[i]? = d? F->C.fields[i]? = d? t->dX H ts fx F t)
  (hml:b? ml=b? C.methods) (hmp:∀(i mid:m?) (M:cN),ml[i]? = d? mid->C.methods[i]? = d? M->eo H ts nm mx mid M)
  (b:H[tn]? = d? (ό (aN L))) (O:nv L)
  (q:∀T H',cE (λZ=>Z=b? H) (H++[ό (aN L)]) ts H' T->SS H' T ex fx mx->H'[b? H]? = d? (ό (aN (q1 L C)))->nv (q1 L C)->Q (ϊ (b? H)) H') :
  VS d iZ [d? (ϊ 2),o1,d? (ϊ tn),o3,o4,o5,o6,o7,o8,d? (ϋ ((74+b? ex0:m?):C?)),d? (ϊ x),o11,o12,o13,o14,o15,o16] H (dA Q):=by
 show⟨?_⟩;have hll:=O.len;have g:=s.len;have htl:=(i?.mp b).1;simp![iZ];show bo (aj b (by rw[aI];omega)) ?_;have e3:H++[ό []]=(H++[ό []]).set (b? H) (ό []):=(cV aD).symm;rw[ik,e3];show JZ (H:=H++[ό []]) (ys:=[]) (λzs=>⟨aj (ae (aC b) (by omega)) (by rw[aI];omega),by rw[av (ae (aC b) (by omega)),av b]⟩) (λρ H P h=>h) (λρ H P v R S=>by change Aq (look _ _) _;rw[R];exact S) (J? _) (by simp) (by rw[aI];simp;omega) ?_;rw[Y_,fk (r:=[])];have a1:=Nx.app s.w.kt [ό (aN L)];have s1:=s.nx a1;have hn:(H++[ό (aN L)])[b? H]? = d? (ό (aN L)):=aD;have l:∀{m:m?} {c:ā},9<=m->H[m]? = d? c->Lo (H++[ό (aN L)]) (b? H) m c:=λh9 e=>⟨aC e,h9,(i?.mp e).1⟩
 show Vy t.ex λfs t1 t2 t3 t4 t5 t6=>?_;have hgt:=t.gt;have n:=s.l1;have tl:b? lq=74:=by decide+kernel
 have hexl:b? ex0<10:=by rw[j] at n;simp at n;omega
 have c:ej (H++[ό (aN L)]) ts (b? H) (74+b? ex0) C:=by
  show⟨⟨by omega,by omega⟩,lq++ex,x,ni,nb,nf,nm,ib,ki,fl,ml,rs,fs,l (by omega) s.ty,?_,l (by omega) t1,t2,W,X,t3,l (by omega) hni,hki,t4,l (by omega) hnb,o,hrs,t5,l (by omega) t.f,Y,λi F t E p=>?_,t6,l (by omega) t.m,hml,λi mid M E p=>?_⟩
  ·rw[j,c! (by omega),tl,ĳ,c! (J? _),ξ];rfl
  ·obtain⟨c,k,fs,u,J,K,f4,f5,N⟩:=id (hfp i F t E p);exact⟨fx,c,k,fs,l (by omega) s.fd,u,J,l (by omega) K,f5,N⟩
  ·obtain⟨y,ng,kr,ss,ks,fs,u,J,K,f4,f5,N,f7,f8,f9,z,A,B,D,I,f15⟩:=id (hmp i mid M E p);exact⟨_,y,ng,kr,ss,ks,fs,l (by omega) s.me,u,J,l (by omega) f4,N,f7,f8,f9,z,A,l (by omega) B,D,I,K⟩
 simp![];show wB (by omega) s1.w hn O g c ok λT H' a R S w'=>?_;exact q T H' a (s1.KW a (by rintro m rfl;exact g)) R S
end
structure Kk (C:dT):Prop where
 fields:b? C.fields<=2
 methods:b? C.methods<=2
 args:∀M∈C.methods,M.2.2.length<=2
section
theorem zy {d:m?} {H:Hp} {ts:g? Tm} {l:g? V} {fx:g? V} {mx:g? V} {L:g? m?} {C:dT} (hd:60<=d) (s:SS H ts l fx mx) (hl1:b? l<10) (hl2:b? fx+2<=30) (hl3:b? mx+2<=30) (cv:eB (fQ H) v C) (O:gu C) (X:xT C) (cb:Kk C)
  (htn:(fQ H)[tn]? = d? (ό (aN L))) (okl:nv L)
  (q:∀x H' ex' fx' mx' n,Bn H ts H' x->SS H' x ex' fx' mx'->b? ex'<=b? l+1->b? fx'<=b? fx+2->b? mx'<=b? mx+2->H'[n]? = d? (ό (aN (q1 L C)))->b? H<=n->nv (q1 L C)->Q (ϊ n) H'):aG d 895 [ϊ 2,v,ϊ tn] H Q:=by
 show bf (U0 hd) λd q_1 hd=>?_;subst q_1;show rI rfl ?_;obtain⟨pm,bm,fm,dm,mm,xs,ms,rfl,h1,h2,h3,h4,h5,h6,h7⟩:=id cv;have I:=s.len;have hxl:=h2.len;have hp2:=O.params;obtain⟨pm9,hpm⟩:=aS.mp h1;have tl:b? lq=74:=by decide+kernel
 simp![aw (s.w.bB),jM,ec];show⟨by decide,?_⟩;simp![aw (s.w.dq)];have etid:(b? (lq++l):m?)=74+b? l:=by rw[I?,tl]
 simp![*,aw (s.w.bB),jM,ec,aw (s.w.dq)];rw[len_list s.ty (by rw[I?];omega),bL,etid];simp![];show bo (len_list hpm (by omega)) ?_;simp![];rw[show mF (ύ [Ϗ "T",Ϗ "U"]) (ϋ (b? xs:m?)) H=d? (ύ ([Ϗ "T",Ϗ "U"].take (b? xs)),H) from by
  simp![mF,vI,Q?,J_,aJ,Ķ,K?,R_];rw[P? ⟨by decide,by omega⟩],bL]
 try dsimp only
 simp![show Ā.init 275=d? 272 from by decide+kernel];show⟨by omega,?_⟩;simp![*,aw (s.w.bB),jM,ec,aw (s.w.dq)];show FN (by omega) (by simp;omega) λps vs bs=>?_;show⟨rfl,?_⟩;have a1:=Nx.app s.w.kt (ϕ 275 (vH (b? H) (ϋ ((74+b? l:m?):C?)) (Ϗ "X") (ϋ 1) (ϋ 0) (ϋ (-1)) (ϋ 0))::[ό [],ό ps,ό vs,ό bs,ό [],ό [],ό [],ό [],ό []]);have s1:=s.nx a1;have t1:iV (H++ϕ 275 (vH (b? H) (ϋ ((74+b? l:m?):C?)) (Ϗ "X") (ϋ 1) (ϋ 0) (ϋ (-1)) (ϋ 0))::[ό [],ό ps,ό vs,ό bs,ό [],ό [],ό [],ό [],ό []]) (b? H) (b? H+5) (b? H+6) (ϋ (-1)) (ϊ (b? H+1)) (ϊ (b? H+4)) [] []:=
  ⟨⟨_,lA,by kernel_rfl,by kernel_rfl,by kernel_rfl,by kernel_rfl,by kernel_rfl⟩,mR (i:=4),mR (i:=5),by omega⟩
 have b1:=a1.bn;generalize (H++ϕ 275 (vH (b? H) (ϋ ((74+b? l:m?):C?)) (Ϗ "X") (ϋ 1) (ϋ 0) (ϋ (-1)) (ϋ 0))::[ό [],ό ps,ό vs,ό bs,ό [],ό [],ό [],ό [],ό []])=H1 at *;simp![aw (s1.w.dq),bq s1.ty,K?];show bo (aV s1.ty (by rw[I?];omega)) ?_;have s2:=s1.YH (v:=ϊ (b? H)) hl1;have t2:=t1.put (n:=15) (c:=ό (lq++l++[ϊ (b? H)])) (by omega);have b2:=b1.set (n:=15) (c:=ό (lq++l++[ϊ (b? H)])) (x? (by omega));generalize (H1.set 15 (ό (lq++l++[ϊ (b? H)])))=H2 at *;have pU:∀p∈C.params,p.2.length<100/\∀b∈p.2,b∈ă:=λp J=>⟨O.few p J,λb hb=>aZ (ji O.ctx.Bb p J b hb)⟩
 have m9:nU (fQ H) (M9 H2):=λm xs e=>fQ.m9 m xs (b2.iS m xs e);simp![];show lT (by omega) s2.w.kt (m9 _ _ h1) (h2.iS m9) (by omega) pU λnb ts3 H3 rs a3 hle3 hnb hrs=>?_;have s3:=s2.nx a3;have t3:=t2.nx a3;have b3:=b2.trans a3.bn;show bf (t3.Bu (v:=ϊ nb)) λc3 e3 t3'=>bo (e3) ?_;have hnbl:b? H+6<nb:=by have:=(i?.mp t2.m).1;omega
 have s4:=s3.put (n:=b? H) (c:=c3) I;have b4:=b3.set (n:=b? H) (c:=c3) (u? (J? _));have D:(H3.set (b? H) c3)[nb]? = d? (ό (rs.map eM)):=ae hnb (by omega);generalize (H3.set (b? H) c3)=H4 at *;have F:∀{j:Hp} {T:g? Tm} {ib:C?} {K:p? V},Bn H ts j T->Bn H4 ts3 j T\/ŀ->SS j T (l++[ϊ (b? H)]) fx mx->iV j (b? H) (b? H+5) (b? H+6) (ϋ ib) (ϊ (b? H+1)) (ϊ nb) [] []->j[nb]? = d? (ό (rs.map eM))->bH T C.params rs->(C.base=[]->ib= -1)->(∀t,C.base=[t]->∃k:m?,ib=k/\T[k]? = d? t)->
   VS d jd [d? (ϊ 2),d? (ύ [ϊ pm,ϊ bm,ϊ fm,ϊ dm,ϊ mm]),d? (ϊ tn),d? (ϊ 3),d? (ϊ pm),d? (ϊ bm),d? (ϊ fm),d? (ϊ dm),d? (ϊ mm),d? (ϋ ((74+b? l:m?):C?)),d? (ϊ (b? H)),K,e?,e?,e?,e?,e?] j (dA Q):=by
  intro j T ib K b5 Z s5 t5 hnb5 hrs5 hb0 hb1;show⟨?_⟩;obtain⟨fm9,hfm⟩:=aS.mp h4;have r:=b5.keep _ _ fm9 hfm;have hfa:=O.faces;have hH5:=s5.len;simp![jd];show bo (aj r (by rw[ax];omega)) ?_;have ak:=Nx.app s5.w.kt [ό []];show lM (H0:=j) (gB:=T) (us0:=[]) (ks:=[]) (d:=d) (by omega) (J? _) (λZ Z Z h=>h) (λc H P hc=>by(simp![]);exact hc) (λx H' a=>⟨aj (a.keep _ _ (by omega) r) (by rw[ax];omega),by rw[av (a.keep _ _ (by omega) r),av r]⟩) ak aD trivial X.faces (by simp;omega) λts6 H6 ki N hni hki=>?_;have s6:=s5.nx N;have t6:=t5.nx N;have b6:=b5.trans N.bn;show bf (t6.AH (v:=ϊ (b? j))) λy e6 t7=>bo (e6) ?_;have hxm:b? H+6<b? j:=(i?.mp t5.m).1;have s7:=s6.put (n:=b? H) (c:=y) I;have b7:=b6.set (n:=b? H) (c:=y) (u? (J? _));have hni7:(H6.set (b? H) y)[b? j]? = d? (ό (aN ki)):=ae hni (by omega);have hnb7:(H6.set (b? H) y)[nb]? = d? (ό (rs.map eM)):=ae (N.keep _ _ (by omega) hnb5) (by omega);have r7:=bH.up (λZ Z=>N.code) hrs5;have hb7:∀t,C.base=[t]->∃k:m?,ib=k/\ts6[k]? = d? t:=λt e=>let⟨k,Y,e2⟩:=hb1 t e;⟨k,Y,N.code e2⟩
  generalize (H6.set (b? H) y)=H7 at *;obtain⟨dm9,hdm⟩:=aS.mp h5;obtain⟨mm9,hmm⟩:=aS.mp h6;have z:=b7.keep _ _ dm9 hdm;have hfb:=cb.fields;have hmb:=cb.methods;have hmsl:=h7.len;simp![];rw[aj z (by rw[ax];omega),bL,eO,av z];show wb (B:=H) (tb:=ts) (us0:=[]) (fl:=[]) (all:=C.fields) (by omega) h5 (by omega) ⟨J? _,by omega⟩ X.fields b7 s7 t7 (by omega) (by simp;omega) rfl (by simp) λH8 ts8 fx8 fl8 K b8 k8 c8 s8 t8 hx8 hf8 hp8=>?_;have A:=b8.keep _ _ mm9 hmm;simp![];rw[aj A (by omega),bL,eO,av A];have mU:∀M∈C.methods,M.2.1∈ă/\(∀a∈M.2.2,a∈ă)/\M.2.2.length<=2/\M.1.length<100/\∀p∈M.1,p.2.length<100/\∀b∈p.2,b∈ă:=λM R=>⟨(X.meth M R).1,(X.meth M R).2,cb.args M R,by have:=(O.meth M R).own;omega,λp J=>⟨(O.meth M R).few p J,λb hb=>aZ (ji (λp J=>(O.meth M R).ctx.Bb p (i! _ J)) p J b hb)⟩⟩
  show yT (B:=H) (tb:=ts) (Ms0:=[]) (ml:=[]) (all:=ms) (by omega) h6 (by omega) ⟨J? _,by omega⟩ mU h7 b8 s8 t8 (by omega) (by simp;omega) rfl (by simp) (λZ Z Z=>trivial) λH9 ts9 mx9 ml9 o12 o13 o14 o15 S k9 c9 s9 t9 hx9 hm9 hp9=>?_;obtain⟨tn9,htn'⟩:=aS.mp htn;have k79:∀m c,136<=m->m≠b? H+5->m≠b? H+6->H7[m]? = d? c->H9[m]? = d? c:=λm c h1 h2 h3 e=>k9 m c h1 h3 (k8 m c h1 h2 e);have hxn:nb≠b? H+5/\nb≠b? H+6:=by omega
  show(GS (C:=C) (ex0:=l) (ib:=ib) (ni:=b? j) (nb:=nb) (tn:=tn) (ki:=ki) (rs:=rs) (L:=L) (Q:=Q) (by omega) O s9 rfl t9 hb0 (λt e=>let⟨k,Y,e2⟩:=hb7 t e;⟨k,Y,c9 _ _ (c8 _ _ e2)⟩) (k79 _ _ (by omega) (by omega) (by omega) hni7) (by omega) (aL.up (λk u e=>c9 _ _ (c8 _ _ e)) hki) (k79 _ _ (by omega) hxn.1 hxn.2 hnb7) (by omega) (bH.up (λk u e=>c9 _ _ (c8 _ _ e)) r7) hf8 (λi fid t Y e2=>?_) hm9 hp9 (S.keep _ _ tn9 htn') okl λx H' a sS hw hok=>?_).run
  ·obtain⟨c,k,fs,f1,f2,f3,f4,f5,f6⟩:=id (hp8 i fid t Y e2);exact⟨c,k,fs,f1,f2,k9 _ _ f4 (by rintro rfl;rw[t8.m] at f3;cases f3) f3,f4,f5,c9 _ _ f6⟩
  ·have hl9:=S.len;show q x H' _ fx8 mx9 (b? H9) ⟨λm c hm e=>a.keep m c (by have:=(i?.mp (S.keep _ _ hm e)).1;omega) (by omega) (aC (S.keep _ _ hm e)),by have:=a.len;simp at this;omega,λk u e=>a.code (S.code k u e)⟩ sS (by simp) (by omega) (by omega) hw hl9 hok
 obtain⟨W,hbm⟩:=aS.mp h3;have f:=b4.keep _ _ W hbm;have hbl:=O.base;simp![];rw[aj f (by rw[ax];omega),bL,eO,av f];match g:C.base with
 |[]=>
  simp![aU,bC];show⟨⟨by rw[aj f (by rw[ax];omega),g];rfl,av f⟩,?_⟩;exact(F b4 (u? trivial) s4 t3' D hrs (λZ=>rfl) (λt e=>by rw[g] at e;cases e)).run
 |[b]=>
  have hb:b∈ă:=X.base b (by rw[g];exact o?);simp![aU,bC,cz];have hit:aH H4 (ϊ bm)=d? [b.toV]:=by rw[aj f (by rw[ax];omega),g];rfl
  show⟨⟨hit,av f⟩,?_⟩;show xk (by omega) hb s4.w.kt λk T j a5 hk=>?_;have s5:=s4.nx a5;have t5:=t3'.nx a5;show bf (t5.Ku (v:=ϋ (k:C?))) λy e6 t6=>bo (e6) ?_;have s6:=s5.put (n:=b? H) (c:=y) I;have b6:=(b4.trans a5.bn).set (n:=b? H) (c:=y) (u? (J? _));have hnb6:(j.set (b? H) y)[nb]? = d? (ό (rs.map eM)):=ae (a5.keep _ _ (by omega) D) (by omega);obtain⟨_,o⟩:=aS.mp h3;have o:=b6.keep _ _ W o;have hit6:aH (j.set (b? H) y) (ϊ bm)=d? [b.toV]:=by rw[aj o (by rw[ax];omega),g];rfl
  show⟨⟨hit6,av o⟩,?_⟩;exact(F b6 (u? trivial) s6 t6 hnb6 (bH.up (λZ Z=>a5.code) hrs) (λe=>by rw[g] at e;cases e) (λt e=>by rw[g] at e;cases e;exact⟨k,rfl,hk⟩)).run
 |_::_::_=>rw[g] at hbl;simp only[Q?] at hbl;omega
end
section
theorem Gg (ks:g? m?):V.cO (aN ks)=j?:=by
 unfold V.cO aN;rw[ac7,L?];intro k Z;rfl
theorem TV (a:H[n]? = d? (ό (aN L))) (h:H[m]? = d? (ό (aN L))):bZ I_ (ϊ n) (ϊ m) H=d? j?:=by
 simp only[bZ,dU,a,h,Gg,V!,nQ,F?];rw[(V.xS _ _).mpr rfl]
theorem z6 {d:m?} {H:Hp} {ts:g? Tm} {z:g? V} {fx:g? V} {mx:g? V} {L:g? m?} {C:dT} (hd:61<=d) (s:SS H ts z fx mx) (I:b? z<10) (J:b? fx+2<=30) (K:b? mx+2<=30) (cv:eB (fQ H) v C) (ok:gu C) (cu:xT C) (cb:Kk C)
  (u:(fQ H)[tn]? = d? (ό (aN L))) (o:nv L)
  (q:∀T H' l F M,Bn H ts H' T->SS H' T l F M->b? l<=b? z+1->b? F<=b? fx+2->b? M<=b? mx+2->Q (ϑ j?) H'):aG d 900 [ϊ 2,v,ϊ tn] H Q:=by
 show si.go hd rfl λd hd=>?_;obtain⟨tn9,x⟩:=aS.mp u;simp![];show zy (by omega) s I J K cv ok cu cb u o λt a A D X n y s1 x1 x2 x3 hn hnl hok=>?_;have b:=y.keep _ _ tn9 x;have hll:=o.len;simp![];show bo (aj b (by rw[aI];omega)) ?_;have htl:=(i?.mp b).1;have e3:a++[ό []]=(a++[ό []]).set (b? a) (ό []):=(cV aD).symm;rw[ik,e3];show JZ (H:=a++[ό []]) (ys:=[]) (λzs=>⟨aj (ae (aC b) (by omega)) (by rw[aI];omega),by rw[av (ae (aC b) (by omega)),av b]⟩) (λρ H P h=>h) (λρ H P v h1 h2=>by change Aq (look _ _) _;rw[h1];exact h2) (J? _) (by simp) (by rw[aI];simp;omega) ?_;rw[Y_,fk (r:=[])];have a2:=Nx.app s1.w.kt [ό (aN L)];have S:=s1.nx a2;have B:=y.trans a2.bn;have g:(a++[ό (aN L)])[b? a]? = d? (ό (aN L)):=aD;have O:(a++[ό (aN L)])[n]? = d? (ό (aN (q1 L C))):=aC hn;have hnm:n<b? a:=(i?.mp hn).1;have hl:=y.len;generalize (a++[ό (aN L)])=j at *;have lu:nU (fQ H) (j.set (b? a) (ώ [])):=λm xs e=>by
  obtain⟨e1,e2⟩:=aS.mp e;have:=(i?.mp e2).1;exact ae (B.keep _ _ e1 e2) (by omega)
 show BZ (by omega) g o (cv.iS lu) ok cu λi u3 N ok3=>?_;have R:i[n]? = d? (ό (aN (q1 L C))):=u3.at_ (by omega) O;show bo (TV R N) ?_;have k:∀m c,m≠b? a->j[m]? = d? c->i[m]? = d? c:=λm c g e=>u3.at_ g e;have f:b? j<=b? i:=by
  have:=Up.len u3
  simpa using this
 have W:KT i t:=S.w.kt.of λm g=>by
  have p:m<b? j:=by have:=S.len;omega
  rw[k m _ (by omega) (Z? p),Z? p]
 have Y:cE (λZ=>Z=b? a) j t i t:=⟨λm c g Z e=>k m c g e,f,W,⟨[],by simp⟩,by have:=S.len;omega⟩
 exact q t i A D X ⟨λm c g e=>k m c (by have:=(i?.mp e).1;omega) (B.keep _ _ g e),S? B.len f,B.code⟩ (S.KW Y (by rintro m rfl;omega)) x1 x2 x3
end
section
theorem jy (a:H[n]? = d? (Ϛ kvs)) (h:bx k kvs=d? v):bN (ϊ n) (Ϗ k) H=d? v:=by simp only[bN,a,h,vI,vS,vT,fO,F?]
theorem rV (a:H[n]? = d? (Ϛ kvs)) (h:b? kvs<10000000):cG (ϊ n) (Ϗ k) v H=d? (H.set n (Ϛ (au k v kvs))):=by simp only[cG,a,aJ,h,V!,vI,vS,vT,vR,fO,F?]
theorem aF:∀{kvs:g? (k!×V)},bx k' (au k v kvs)=if k=k' then d? v else bx k' kvs:=by
 intro l_;induction l_ with
 |nil=>
  simp only[gW,fq,jv,eG]
 |cons p_ r ih_=>
  obtain⟨k1,v1⟩:=p_;simp only[gW,fq];by_cases h:k1=k
  ·subst h;rw[P? rfl];simp only[jv,eG];by_cases H:k1=k'
   ·rw[P? H,P? H]
   ·rw[E? H,E? H,E? H]
  ·rw[E? h];simp only[jv,eG];by_cases H:k1=k'
   ·rw[P? H,P? H,E? (by rintro rfl;exact h H)]
   ·rw[E? H,E? H,ih_]
def xb:g? C?:=[1,1,3,2,0,1,5,2,3,1,4,1,1,15,7,11,1,9,2,3,2,14,1,1,16,0,3,4,12,2,1,17,8]
theorem Yb:yn=Ϣ (Ϧ (.cmp M_ (Ϙ 1) (.len (ϛ (ύ (xb.map ϋ))))) (.ret (.idx (ϛ (ύ (xb.map ϋ))) (Ϙ 1))) Ϲ) yU:=rfl
theorem K9 {H:Hp} {zs:g? C?} (h:a<b? zs) (b:a<90000):∃z,bN (ύ (zs.map ϋ)) (ϋ (a:C?)) H=d? (ϋ z):=by
 show⟨zs[a],?_⟩;simp only[bN,Ď,N!,vI];rw[P? (by omega),P? (by omega)];simp[h]
theorem nM {d:m?} {H:Hp} {kvs:g? (k!×V)} {xs:g? C?} (hd:1<=d) (b:H[dd]? = d? (Ϛ kvs)) (hs:bx (A? "script") kvs=d? (ϊ sc)) (ha:bx (A? "at") kvs=d? (ϋ (a:m?))) (ha9:a<90000) (c:H[sc]? = d? (ό (xs.map ϋ))) (hxs:b? xs<1000) (hl:b? kvs<100)
  (q:∀z:C?,Q (ϋ z) (H.set dd (Ϛ (au "at" (ϋ ((a+1:m?):C?)) kvs)))):aG d 921 [ϊ dd] H Q:=by
 show wX.go hd rfl λd hd=>?_;have hne:dd≠sc:=by rintro rfl;rw[b] at c;cases c
 simp![aw (jy b ha)];rw[show((a:C?)+1)=((a+1:m?):C?) from by omega,rV b (by omega),bL];have h1:(H.set dd (Ϛ (au "at" (ϋ ((a+1:m?):C?)) kvs)))[dd]? = d? (Ϛ (au "at" (ϋ ((a+1:m?):C?)) kvs)):=ah b;have h2:(H.set dd (Ϛ (au "at" (ϋ ((a+1:m?):C?)) kvs)))[sc]? = d? (ό (xs.map ϋ)):=ae c hne;have h3:bx (A? "script") (au "at" (ϋ ((a+1:m?):C?)) kvs)=d? (ϊ sc):=by rw[aF,E? (by decide+kernel),hs]
 generalize (H.set dd (Ϛ (au "at" (ϋ ((a+1:m?):C?)) kvs)))=H1 at *;simp![aw (jy h1 h3)];show bo (len_list h2 (by simp;omega)) ?_;simp![N!];by_cases h:(a:C?)<(b? xs:C?)
 ·have hx:(xs.map ϋ)[a]? = d? (ϋ (xs[a]'(by omega))):=by rw[X!,Z? (by omega)];rfl
  simp![h,aw (br h2 hx (by omega)),aw (jy h1 h3)];exact q _
 ·have f:b? (xb.map ϋ)=33:=rfl;simp![h,Yb];rw[ED (by rw[f];decide),bL,f];by_cases e:(a:C?)<33
  ·obtain⟨z,hz⟩:=K9 (H:=H1) (zs:=xb) (a:=a) (by change a<33;omega) (by omega);simp![e,hz];exact q z
  ·have hm:cY .Mult (ϋ 11) (ϋ (a:C?)) H1=d? (ϋ (11 * (a:C?)),H1):=by
    exact fc (Kt (by omega))
   simp![e,hm];exact q _
end
section
def aW:ā:=Ϛ [("J",ϋ 67),("D",ϋ 69),("V",ϋ 70),("N",ϋ 71),("W",ϋ 72)]
def NC (x:k!) (n:m?):Prop:=(x="J"/\n=67)\/(x="D"/\n=69)\/(x="V"/\n=70)\/(x="N"/\n=71)\/(x="W"/\n=72)
theorem Mc (o:NC x n) (h:H[m]? = d? aW):bN (ϊ m) (Ϗ x) H=d? (ϋ (n:m?)):=by
 rcases o with⟨rfl,rfl⟩| ⟨rfl,rfl⟩| ⟨rfl,rfl⟩| ⟨rfl,rfl⟩| ⟨rfl,rfl⟩<;>(simp only[bN,h,vI,vS,vT,fO];kernel_rfl)
theorem cj (a:1<=d) (o:NC x n) (q:Q (ϗ f? n t).toV (H++[aW])):aG d 907 [Ϗ x,t.toV] H Q:=by
 show mJ.go a rfl λd a=>?_;simp![aD,K?];rw[fk (r:=[])];have h:(H++[aW])[b? H]? = d? aW:=aD;exact bo (Mc o h)<|q
end
theorem gY:∀{kvs:g? (k!×V)},bx k kvs=d? u->b? (au k v kvs)=b? kvs:=by
 intro l;induction l with
 |nil=>
  exact λh=>by cases h
 |cons p r i=>
  obtain⟨K,a⟩:=p;exact λh=>by
   simp only[gW,fq];by_cases e:K=k
   ·rw[P? e];rfl
   ·rw[E? e];simp only[jv,eG,E? e] at h;simp only[Q?,i h]
def qW (h:g? (C?×C?)):g? V:=h.map λp=>ύ [ϋ p.1,ϋ p.2]
inductive DS (E:m?->Prop) (H:Hp) (dd a:m?) (kn:g? Tm):Prop
 |mk (kvs:g? (k!×V)) (km hm:m?) (sp:C?) (xs:g? C?) (hv:g? (C?×C?)) (h1:H[dd]? = d? (Ϛ kvs)) (h2:b? kvs<100) (h3:bx (A? "script") kvs=d? (ϊ 1)) (h4:H[1]? = d? (ό (xs.map ϋ))) (h5:b? xs<1000) (h6:bx (A? "at") kvs=d? (ϋ (a:m?)))
  (h7:bx (A? "known") kvs=d? (ϊ km)) (h8:H[km]? = d? (ό (aU kn))) (h9:bx (A? "spot") kvs=d? (ϋ sp)) (h10:bx (A? "hits") kvs=d? (ϊ hm)) (h11:H[hm]? = d? (ό (qW hv))) (h12:b? hv<100) (e1:¬E 1) (e2:¬E km) (e3:¬E hm) (Z4:∀t∈kn,t∈vars) (knl:b? kn<100):DS E H dd a kn
abbrev Ud (dd:m?) (H H':Hp):Prop:=Ur dd H H'
theorem Ur.of (u:Up H H'):Ur dd H H':=λm c Z e=>u m c e
theorem QA (h:0<n):∃k:m?,k<n/\z % (n:C?)=(k:C?):=by
 have H:=Int.emod_nonneg z (show(n:C?)≠0 from acU (Å.mpr h));have a:=Int.emod_lt_of_pos z (show(0:C?)<(n:C?) from Å.mpr h);exact⟨(z % (n:C?)).toNat,(acS H).mpr a,(aaw H).symm⟩
theorem dj (h:0<n) (b:n<1000):∃k:m?,k<n/\cY p! (ϋ z) (ϋ (n:C?)) H=d? (ϋ (k:C?),H):=by
 show bf (QA (z:=z) h) λk a e=>⟨k,a,?_⟩;exact fc ((Kf (by omega)).trans (R? d? e))
section
theorem DS.knl (s:DS E H dd a k):b? k<100:=by cases s using DS.casesOn;assumption
theorem DS.Z4 (s:DS E H dd a k):∀t∈k,t∈vars:=by cases s using DS.casesOn;assumption
theorem DS.lt (s:DS E H dd a kn):dd<b? H:=by
 obtain⟨kvs,km,b,sp,xs,c,h,_⟩:=s;exact(i?.mp h).1
theorem DS.up (s:DS E H dd a w) (u:Up H H'):DS E H' dd a w:=by
 obtain⟨kvs,v,q,S,xs,r,g,i,j,k,l,m,n,o,p,h,b,c,e,d,f,K,t⟩:=s;exact⟨kvs,v,q,S,xs,r,u _ _ g,i,j,u _ _ k,l,m,n,u _ _ o,p,h,u _ _ b,c,e,d,f,K,t⟩
theorem DS.ex {E':m?->Prop} (s:DS E H dd a y) (e:∀m,m<b? H->E' m->E m):DS E' H dd a y:=by
 obtain⟨kvs,x,u,S,xs,v,l,n,o,f,p,q,r,g,t,c,b,d,i,j,k,K,w⟩:=s;exact⟨kvs,x,u,S,xs,v,l,n,o,f,p,q,r,g,t,c,b,d,λh=>i (e _ (i?.mp f).1 h),λh=>j (e _ (i?.mp g).1 h),λh=>k (e _ (i?.mp b).1 h),K,w⟩
theorem DS.P2 (s:DS E H dd a x) (f:E tm) (h:H[tm]? = d? (ό xs)):DS E (H.set tm (ό ys)) dd a x:=by
 obtain⟨kvs,w,t,S,xs,u,b,k,l,m,n,o,p,q,r,c,d,e,g,i,j,K,v⟩:=s;exact⟨kvs,w,t,S,xs,u,ae b (by rintro rfl;rw[h] at b;cases b),k,l,ae m (by rintro rfl;exact g f),n,o,p,ae q (by rintro rfl;exact i f),r,c,ae d (by rintro rfl;exact j f),e,g,i,j,K,v⟩
theorem mB (u:1<=d) (s:DS E H dd a A) (t:a<90000) (q:∀(z:C?) H',Ud dd H H'->DS E H' dd (a+1) A->Q (ϋ z) H'):aG d 921 [ϊ dd] H Q:=by
 obtain⟨kvs,y,v,S,xs,w,b,i,j,c,k,l,p,g,r,e,h,f,m,n,o,K,x⟩:=s;show nM u b j l t c k i λz=>q z _ Ur.set ⟨au "at" (ϋ ((a+1:m?):C?)) kvs,y,v,S,xs,w,ah b,by rw[gY l];exact i,?_,ae c (by rintro rfl;rw[b] at c;cases c),k,?_,?_,ae g (by rintro rfl;rw[b] at g;cases g),?_,?_,ae h (by rintro rfl;rw[b] at h;cases h),f,m,n,o,K,x⟩
 ·rw[aF,E? (by decide+kernel),j]
 ·rw[aF,P? rfl]
 ·rw[aF,E? (by decide+kernel),p]
 ·rw[aF,E? (by decide+kernel),r]
 ·rw[aF,E? (by decide+kernel),e]
theorem oY (hd:2<=d) (s:DS E H dd a kn) (ha:a<90000) (q:∀(t:Tm) H',(t=tA\/t∈vars)->Ud dd H H'->DS E H' dd (a+1) kn->Q t.toV H'):aG d 928 [ϊ dd] H Q:=by
 show qM.go hd rfl λd hd=>?_;simp![];show mB (by omega) s ha λz H1 u1 s1=>?_;have s2:=s1;obtain⟨kvs,km,hm,sp,xs,hv,h1,h2,h3,h4,h5,h6,h7,h8,h9,h10,h11,h12,e1,e2,e3,k1,hk⟩:=s1;simp![aw (jy h1 h7)];rw[len_list h8 (by rw[ax];omega),bL,ax];by_cases h0:b? kn=0
 ·have:¬(0:C?)<(b? kn:C?):=by omega
  simp![this];exact q tA H1 (x? rfl) u1 s2
 ·have:(0:C?)<(b? kn:C?):=by omega
  show bf (dj (H:=H1) (z:=z) (n:=b? kn) (by omega) (by omega)) λk hk1 hb=>?_;have hx:(aU kn)[k]? = d? (kn[k]'hk1).toV:=by simp[aU,hk1]
  simp![this,aw (jy h1 h7)];rw[len_list h8 (by rw[ax];omega),bL,ax];simp![hb];rw[br h8 hx (by omega)];simp![];exact q _ H1 (u? (k1 _ (Ų hk1))) u1 s2
end
def fg:g? Tm:=[.f0 tA,.u .w tS,.u .b tS,.u .o tA,.p 14,.u .a (.p 15),Ϡ f? 60,Ϡ j? 9999,Ϡ f? 68,Ϡ f? 69,.q f? 2,.q j? 3,ϗ f? 67 (ϗ f? 69 (.p 7)),ϗ f? 70 tA,.u .a (ϗ f? 71 tB),ϗ f? 72 tS,.p 0,.u .r tA,ϗ j? 69 tA,.q j? 0]
theorem oG (h:t∈fg):t∈ă:=by
 have hh:fg.all (λt=>fh t ă)=j?:=by decide+kernel
 exact aO.mp (L?.mp hh _ h)
theorem vP (h:t∈fg):t∈cI:=by
 have hh:fg.all (λt=>fh t cI)=j?:=by decide+kernel
 exact aO.mp (L?.mp hh _ h)
section
theorem pick {H:Hp} {us:g? Tm} {k:m?} (h:k<b? us) (a:b? us<1000):∃t∈us,bN (ύ (aU us)) (ϋ (k:C?)) H=d? t.toV:=
 ⟨us[k]'h,Ų h,mV (by simp[aU,h]) (by omega)⟩
theorem vV {d:m?} {H:Hp} {z:C?} (b:2<=d) (q:∀(t:Tm) H',t∈fg->Up H H'->Q t.toV H'):aG d 935 [ϋ z] H Q:=by
 show pF.go b rfl λd b=>?_;simp![];show cj (t:=.p 7) (by omega) (u? (x? ⟨rfl,rfl⟩)) ?_;show cj (t:=ϗ f? 69 (.p 7)) (by omega) (x? ⟨rfl,rfl⟩) ?_;simp![];show cj (t:=tA) (by omega) (u? (u? (x? ⟨rfl,rfl⟩))) ?_;simp![];show cj (t:=tB) (by omega) (u? (u? (u? (x? ⟨rfl,rfl⟩)))) ?_;simp![];show cj (t:=tS) (by omega) (u? (u? (u? (u? ⟨rfl,rfl⟩)))) ?_;have u:Up H (H++[aW]++[aW]++[aW]++[aW]++[aW]):=(((Up.app.trans Up.app).trans Up.app).trans Up.app).trans Up.app;generalize (H++[aW]++[aW]++[aW]++[aW]++[aW])=h at *;show bf (dj (H:=h) (z:=z) (n:=20) (by decide) (by decide)) λk c a=>?_;show bf (pick (H:=h) (us:=fg) (k:=k) c (by decide)) λt f e=>?_;have a:cY p! (ϋ z) (ϋ 20) h=_:=a;simp![a];change ok (bN (ύ (aU fg)) (ϋ (k:C?)) h) _;rw[e];simp![];exact q t h f u
end
section
theorem uB (j:2<=d) (b:H[dd]? = d? (Ϛ kvs)) (c:bx (A? "spot") kvs=d? (ϋ s)) (a:H[e]? = d? (ό all)) (i:b? all<1000)
  (q:∀(t:Tm) H' ρ,t∈fg->Up H H'->PQ (ϣ t.toV) ρ H') (g:∀o O,PQ ϒ [d? (ϊ dd),d? v,o,O] H) :
  ∀{f:g? (C?×C?)} {o O:p? V},bG (bu Ā d l6) (d6 Ā d (Ϩ [2,3])) (λH'=>aH H' (ϊ e)=d? all/\ao H' (ϊ e)=f?) (f.map λp=>ύ [ϋ p.1,ϋ p.2]) [d? (ϊ dd),d? v,o,O] H PQ
 |[]=>by rename_i o O;exact⟨⟨aj a (by omega),av a⟩,g o O⟩
 |p::f=>by
  rename_i o O;simp![];show⟨⟨aj a (by omega),av a⟩,?_⟩;simp![jM,ec];show⟨by decide,?_⟩;simp![aw (jy b c)];by_cases h:p.1=s
  ·simp![h];exact vV (by omega) λt H' k u=>q t H' _ k u
  ·simp![h];exact uB j b c a i q g
theorem lK (hd:3<=d) (s:DS E H dd a kn) (q:∀(T:Tm) H',(T=t\/T∈fg)->Ud dd H H'->DS E H' dd a kn->Q T.toV H'):aG d 942 [ϊ dd,t.toV] H Q:=by
 show tL.go hd rfl λd hd=>?_;obtain⟨kvs,km,hm,S,xs,hv,b,h2,h3,h4,h5,h6,h7,h8,h9,e,h,f,e1,e2,e3,k1,k2⟩:=s;simp![aw (jy b h9)];rw[rV b (by omega)];have u1:Ud dd H (H.set dd (Ϛ (au "spot" (ϋ (S+1)) kvs))):=Ur.set;have c:(H.set dd (Ϛ (au "spot" (ϋ (S+1)) kvs)))[dd]? = d? (Ϛ (au "spot" (ϋ (S+1)) kvs)):=ah b;have f1:bx (A? "spot") (au "spot" (ϋ (S+1)) kvs)=d? (ϋ (S+1)):=by rw[aF,P? rfl]
 have f2:bx (A? "hits") (au "spot" (ϋ (S+1)) kvs)=d? (ϊ hm):=by rw[aF,E? (by decide+kernel),e]
 have g:(H.set dd (Ϛ (au "spot" (ϋ (S+1)) kvs)))[hm]? = d? (ό (qW hv)):=ae h (by rintro rfl;rw[b] at h;cases h);have s1:DS E (H.set dd (Ϛ (au "spot" (ϋ (S+1)) kvs))) dd a kn:=by
  show⟨_,km,hm,S+1,xs,hv,c,by rw[gY h9];exact h2,?_,ae h4 (by rintro rfl;rw[b] at h4;cases h4),h5,?_,?_,ae h8 (by rintro rfl;rw[b] at h8;cases h8),f1,f2,g,f,e1,e2,e3,k1,k2⟩
  ·rw[aF,E? (by decide+kernel),h3]
  ·rw[aF,E? (by decide+kernel),h6]
  ·rw[aF,E? (by decide+kernel),h7]
 generalize (H.set dd (Ϛ (au "spot" (ϋ (S+1)) kvs)))=H1 at *;simp![aw (jy c f2)];rw[aj g (by simp[qW];omega),bL,eO,av g];show uB (by omega) c f1 g (by simp[qW];omega) (λT H' ρ ht u=>?_) λo2 o3=>?_
 ·exact q T H' (u? ht) (u1.trans (Ur.of u)) (s1.up u)
 ·exact q t H1 (x? rfl) u1 s1
end
def Dq:g? Tm:=[.p 7,tA,tB,tI,tS,.p 13,.p 12,ϗ f? 67 tA,ϗ f? 69 (.p 13),ϗ f? 70 tS,ϗ f? 71 tA,ϗ f? 72 tB,.u .a (ϗ f? 69 (.u .a (.p 7)))]
theorem Fw {t:Tm} (h:t∈Dq):t∈ă:=by
 have hh:Dq.all (λt=>fh t ă)=j?:=by decide+kernel
 exact aO.mp (L?.mp hh _ h)
theorem zx {t u:Tm} (h:t=tA\/t∈vars) (H:u=t\/u∈around t):u∈ă:=by
 have hh:(vars.append [tA]).all (λt=>fh t ă&&(around t).all λu=>fh u ă)=j?:=by decide+kernel
 have a:t∈vars.append [tA]:=by
  rcases h with rfl|h
  ·exact i! _ o?
  ·exact V? _ h
 have:=L?.mp hh _ a;rw[Y?] at this;rcases H with rfl| H
 ·exact aO.mp this.1
 ·exact aO.mp (L?.mp this.2 _ H)
section
theorem Fi {H:Hp} {k:m?} (h:15<=k) (b:k<20):∃x n,bN (ύ [Ϗ "D",Ϗ "V",Ϗ "N",Ϗ "W",Ϗ "J"]) (ϋ ((k:C?) - 15)) H=d? (Ϗ x)/\NC x n/\(n=67\/n=69\/n=70\/n=71\/n=72):=by
 have a:k=15\/k=16\/k=17\/k=18\/k=19:=(show ∀k:m?,k<20->15<=k->k=15\/k=16\/k=17\/k=18\/k=19 by decide) k b h;rcases a with rfl|rfl|rfl|rfl|rfl
 ·exact⟨_,69,rfl,u? (x? ⟨rfl,rfl⟩),u? (x? rfl)⟩
 ·exact⟨_,70,rfl,u? (u? (x? ⟨rfl,rfl⟩)),u? (u? (x? rfl))⟩
 ·exact⟨_,71,rfl,u? (u? (u? (x? ⟨rfl,rfl⟩))),u? (u? (u? (x? rfl)))⟩
 ·exact⟨_,72,rfl,u? (u? (u? (u? ⟨rfl,rfl⟩))),u? (u? (u? (u? rfl)))⟩
 ·exact⟨_,67,rfl,x? ⟨rfl,rfl⟩,x? rfl⟩
theorem AN (h:n=67\/n=69\/n=70\/n=71\/n=72):ϗ f? n t∈around t:=by
 rcases h with rfl|rfl|rfl|rfl|rfl<;>simp[around]
theorem q7 {d:m?} {H:Hp} {dd:m?} {a:m?} {I:g? Tm} (F:5<=d) (s:DS E H dd a I) (ha:a+2<90000) (q:∀(t:Tm) H' D,t∈ă->Ud dd H H'->DS E H' dd D I->D<=a+2->Q t.toV H'):aG d 949 [ϊ dd] H Q:=by
 show te.go F rfl λd F=>?_;simp![];show mB (by omega) s (by omega) λz g u1 s1=>?_;show bf (dj (H:=g) (z:=z) (n:=20) (by decide) (by decide)) λk X r=>?_;have r:cY p! (ϋ z) (ϋ 20) g=_:=r;simp![r];show cj (t:=tA) (by omega) (x? ⟨rfl,rfl⟩) ?_;simp![];show cj (t:=.p 13) (by omega) (u? (x? ⟨rfl,rfl⟩)) ?_;simp![];show cj (t:=tS) (by omega) (u? (u? (x? ⟨rfl,rfl⟩))) ?_;simp![];show cj (t:=tA) (by omega) (u? (u? (u? (x? ⟨rfl,rfl⟩)))) ?_;simp![];show cj (t:=tB) (by omega) (u? (u? (u? (u? ⟨rfl,rfl⟩)))) ?_;simp![];show cj (t:=.u .a (.p 7)) (by omega) (u? (x? ⟨rfl,rfl⟩)) ?_;have L:Up g (g++[aW]++[aW]++[aW]++[aW]++[aW]++[aW]):=((((Up.app.trans Up.app).trans Up.app).trans Up.app).trans Up.app).trans Up.app;generalize (g++[aW]++[aW]++[aW]++[aW]++[aW]++[aW])=C at *;have J:=s1.up L;have i:=u1.trans (Ur.of L);by_cases m:k<13
 ·have c:(k:C?)<13:=by omega
  show bf (pick (H:=C) (us:=Dq) (k:=k) m (by decide)) λt w e=>?_;simp![c];change ok (bN (ύ (aU Dq)) (ϋ (k:C?)) C) _;rw[e];simp![];show lK (by omega) J λT j b B S=>?_;show q T j (a+1) ?_ (i.trans B) S (by omega);clear e;rcases b with rfl|b
  ·exact Fw w
  ·exact oG b
 ·have c:¬(k:C?)<13:=by omega
  simp![c];show oY (by omega) J (by omega) λt j w B S=>?_;have A:=i.trans B;have f:∀{u:Tm} {l:Hp} {K:KE},(u=t\/u∈around t)->Up j l->(∀v H,Q v H->K v H)->aG d 942 [ϊ dd,u.toV] l K:=by
   intro u l K hu M W;show lK (by omega) (S.up M) λT O b u5 s5=>W _ _ ?_;show q T O (a+1+1) ?_ ((A.trans (Ur.of M)).trans u5) s5 (by omega);rcases b with rfl|b
   ·exact zx w hu
   ·exact oG b
  by_cases P:k=13
  ·have:(k:C?)=13:=by omega
   simp![this];exact f (x? rfl) (Up.refl _) λv H h=>by(simp![]);exact h
  clear w;by_cases R:k=14
  ·have N:¬(k:C?)=13:=by omega
   have:(k:C?)=14:=by omega
   simp![this];exact f (u:=.u .a t) (u? (by simp[around])) (Up.refl _) λv H h=>by(simp![]);exact h
  ·have N:¬(k:C?)=13:=by omega
   have y:¬(k:C?)=14:=by omega
   show fL (Fi (H:=j) (k:=k) (by omega) X) λx n e o Y=>?_;simp![N,y];rw[e];simp![];show cj (by omega) o ?_;exact f (u? (AN Y)) Up.app λv H h=>by(simp![]);exact h
end
abbrev iy (s:D?):k!:=if s then "m" else "x"
def B4 (s:D?) (k:m?):g? Tm:=[tA,tI,ϗ f? 67 (.q s k),.u .a tA,tB,Ϡ f? 2]
theorem vp {s:D?} {k:m?} (h:Tm.q s k∈vars) {t:Tm} (b:t∈B4 s k):t∈cI:=by
 have hh:vars.all (λv=>match v with| .q s k=>(B4 s k).all λt=>fh t cI| _=>j?)=j?:=by decide+kernel
 exact aO.mp (L?.mp (L?.mp hh _ h) _ b)
theorem FY {t:Tm} (h:t=tA\/t∈vars):t∈cI:=by
 have hh:(vars.append [tA]).all (λt=>fh t cI)=j?:=by decide+kernel
 show aO.mp (L?.mp hh _ ?_);rcases h with rfl|h
 ·exact i! _ o?
 ·exact V? _ h
theorem CB {s:D?} {j:m?} (h:j<3):Tm.q s j∈vars:=by
 have:j=0\/j=1\/j=2:=by omega
 rcases this with rfl|rfl|rfl<;>cases s using so<;>exact aO.mp (by decide+kernel)
def U2 (p r:m?) (H H':Hp):Prop:=∀(m:m?) (c:ā),m≠p->m≠r->H[m]? = d? c->H'[m]? = d? c
theorem U2.refl {p r:m?} {H:Hp}:U2 p r H H:=λZ Z Z Z e=>e
theorem U2.ud {p r:m?} {A B C:Hp} (a:U2 p r A B) (b:Ud p B C):U2 p r A C:=λm c h f e=>b m c h (a m c h f e)
theorem U2.set {p r:m?} {A B:Hp} {c:ā} (a:U2 p r A B):U2 p r A (B.set r c):=λm c' b h e=>ae (a m c' b h e) (N_ h)
theorem U2.out {p r:m?} {A B:Hp} (a:U2 p r A B) (h:b? A<=r):Ud p A B:=λm c b e=>a m c b (by have:=(i?.mp e).1;omega) e
def MN (b:m?) (H:Hp):Hp:=X? b (ώ [])++H.drop b
theorem iu {b:m?} {H:Hp} {m:m?} {xs:g? V}:(MN b H)[m]? = d? (ό xs)↔b<=m/\H[m]? = d? (ό xs):=by
 unfold MN;by_cases h:m<b
 ·rw[H? (by simpa using h)];constructor
  ·intro e;rw[Ĵ] at e;simp[h] at e
  ·rintro⟨h',_⟩;omega
 ·rw[c! (by simp;omega),Ū,Ï,show b+(m - b)=m from by omega];exact⟨λe=>⟨by omega,e⟩,λe=>e.2⟩
theorem MN.le {b c:m?} {H:Hp} (h:b<=c):nU (MN c H) (MN b H):=λm xs e=>iu.mpr ⟨S? h (iu.mp e).1,(iu.mp e).2⟩
def PM (b o:m?) (H:Hp):Hp:=(MN b H).set o (ώ [])
theorem da {b o m:m?} {H:Hp} {xs:g? V}:(PM b o H)[m]? = d? (ό xs)↔m≠o/\b<=m/\H[m]? = d? (ό xs):=by
 unfold PM;by_cases h:m=o
 ·subst h;constructor
  ·intro e;rw[List.getElem?_set_self'] at e;replace e:=e;cases c:(MN b H)[m]?<;>rw[c] at e<;>cases e
  ·rintro⟨h,_⟩;exact absurd rfl h
 ·rw[M? (N_ h),iu];exact⟨λe=>⟨h,e⟩,λe=>e.2⟩
theorem PM.mn {b o:m?} {H:Hp}:nU (PM b o H) (MN b H):=λm xs e=>iu.mpr (da.mp e).2
theorem U2.pm {b p r:m?} {A B:Hp} (a:U2 p r A B) (h:∃kvs,A[p]? = d? (Ϛ kvs)):nU (PM b r A) (PM b r B):=λm xs e=>by
 show fP (da.mp e) λf g c=>?_;obtain⟨kvs,i⟩:=h;exact da.mpr ⟨f,g,a m _ (by rintro rfl;rw[i] at c;cases c) f c⟩
section
variable {d:m?} {H:Hp} {Q:V->Hp->Prop} {dd a:m?} {kn:g? Tm} {E:m?->Prop} {sb:D?}
theorem DS.dict (s:DS E H dd a kn):∃kvs,H[dd]? = d? (Ϛ kvs):=by
 obtain⟨kvs,k,b,S,xs,c,h,_⟩:=s;exact⟨kvs,h⟩
theorem DS.ne (s:DS E H dd a kn) {m:m?} {xs:g? V} (h:H[m]? = d? (ό xs)):m≠dd:=by
 obtain⟨kvs,b⟩:=s.dict;rintro rfl;rw[h] at b;cases b
def qs (s:D?) (n:m?):g? Tm:=(l! n).map (Tm.q s)
theorem Np {m:m?} {P:Hp->Prop}:∀{js:g? m?} {ys:g? V} {o:p? V} {H:Hp},H[m]? = d? (ό ys)->b? ys+b? js<1000->P (H.set m (ό (ys++aU (js.map (Tm.q sb)))))->
  cC [1] (mh d (.bool j?)) (bh Ā d f? (.tup (ϓ (Ϙ 2) (ϓ (Ϙ 1) Ϥ)))) (λZ=>ŀ) m (js.map λ(j:m?)=>ϋ (j:C?)) [e?,o,d? (Ϗ (iy sb))] H P:=by
 intro l;induction l with
 |nil=>
  exact λh b q=>by
   rename_i ys o H;rw[show ys++aU ([].map (Tm.q sb))=ys from S! _,cV h] at q;exact⟨trivial,q⟩
 |cons j js i=>
  exact λh b q=>by
   rename_i ys o H;simp only[Q?] at b;show⟨trivial,?_⟩;change mh d (.bool j?) [e?,d? (ϋ (j:C?)),d? (Ϗ (iy sb))] H _;simp![];show bo (aV h (by omega)) ?_;show i (ys:=ys++[(Tm.q sb j).toV]) (ah h) (by simp;omega) ?_;rw[o_,ę];exact q
theorem GB {A tm:m?} {K0:Hp} {C out fl:p? V} {P:Fl->Ă->Hp->Prop} (hd:5<=d) (hv:Tm.q sb A∈vars) (T:E tm) :
  ∀{js:g? V} {H:Hp} {a:m?} {bs:g? Tm} {o7 o8 o:p? V},U2 dd tm K0 H->DS E H dd a kn->H[tm]? = d? (ό (aU bs))->(∀b∈bs,b∈cI)->b? bs+b? js<=2->a+2 * b? js<90000->
   (∀H' J B o7 o8 o,U2 dd tm K0 H'->DS E H' dd J kn->H'[tm]? = d? (ό (aU B))->(∀b∈B,b∈cI)->b? B<=2->J<=a+2 * b? js->P ϒ [d? (ϊ dd),d? (Ϗ (iy sb)),C,d? (ϋ (A:C?)),out,fl,d? (ϊ tm),o7,o8,o] H')->
   bG (bu Ā d fN) (d6 Ā d (ϝ 7)) (λZ=>ŀ) js [d? (ϊ dd),d? (Ϗ (iy sb)),C,d? (ϋ (A:C?)),out,fl,d? (ϊ tm),o7,o8,o] H P:=by
 intro l_;induction l_ with
 |nil=>
  exact λu s h L O ha q=>by rename_i H a bs o7 o8 o;exact⟨trivial,q H a bs o7 o8 o u s h L (by simpa using O) (J? _)⟩
 |cons j js Y=>
  exact λu s h L O ha q=>by
   rename_i H a bs o7 o8 o;simp only[Q?] at O ha q;show⟨trivial,?_⟩;simp![];show mB (by omega) s (by omega) λz I u1 s1=>?_;show bf (dj (H:=I) (z:=z) (n:=8) (by decide) (by decide)) λk hk R=>?_;have R:cY p! (ϋ z) (ϋ 8) I=_:=R;simp![R];show cj (t:=.q sb A) (by omega) (x? ⟨rfl,rfl⟩) ?_;have s2:=s1.up (Up.app (X:=[aW]));have u2:=(u.ud u1).ud (Ur.of (Up.app (X:=[aW])));have p:(I++[aW])[tm]? = d? (ό (aU bs)):=aC (u1 _ _ (s.ne h) h);generalize (I++[aW])=H2 at *;have F:∀{t:Tm} {f:Hp} {a3:m?} {K:KE},t∈cI->U2 dd tm K0 f->DS E f dd a3 kn->f[tm]? = d? (ό (aU bs))->a3<=a+2->(∀v H,(∃t,v=t.toV/\t∈cI/\U2 dd tm K0 H/\DS E H dd a3 kn/\H[tm]? = d? (ό (aU bs)))->K v H)->aG d 942 [ϊ dd,t.toV] f K:=by
    intro t f a3 K T m S r h9 hK;show lK (by omega) S λt' H4 c u4 s4=>hK _ _ ⟨t',rfl,?_,m.ud u4,s4,u4 _ _ (S.ne r) r⟩;rcases c with rfl|c
    ·exact T
    ·exact vP c
   have N:∀{a3:m?} {o8 o:p? V} {t:Tm} {f:Hp},a3<=a+2->t∈cI->U2 dd tm K0 f->DS E f dd a3 kn->f[tm]? = d? (ό (aU bs))->bG (bu Ā d fN) (d6 Ā d (ϝ 7)) (λZ=>ŀ) js [d? (ϊ dd),d? (Ϗ (iy sb)),C,d? (ϋ (A:C?)),out,fl,d? (ϊ tm),d? j,o8,o] (f.set tm (ό (aU bs++[t.toV]))) P:=by
    intro a3 o8 o t f h9 W m S r;show Y (bs:=bs++[t]) m.set (S.P2 T r) (by rw[ah r];simp[aU]) (λb M=>?_) (by simp;omega) (by omega) λH' J B o7 o8 o w y D l x5 x6=>q H' J B o7 o8 o w y D l x5 (by omega);rcases N?.mp M with h|h
    ·exact L b h
    ·rw[B?.mp h];exact W
   by_cases h6:k<6
   ·have g:(k:C?)<6:=by omega
    obtain⟨t,c,e⟩:=pick (H:=H2) (us:=B4 sb A) (k:=k) h6 (by change 6<1000;decide);simp![bq p,K?,g];show bo (e)<|F (vp hv c) u2 s2 p (by omega) λv f x=>?_;show XZ x λt' i w y D l=>?_;subst i;show bo (aV l (by rw[ax];omega)) ?_;exact N (by omega) w y D l
   ·have g:¬(k:C?)<6:=by omega
    simp![bq p,K?,g];show oY (by omega) s2 (by omega) λt f c m S=>?_;show F (FY c) (u2.ud m) S (m _ _ (s2.ne p) p) (by omega) λv H4 x=>?_;show XZ x λt' i w y D l=>?_;try clear x
    subst i;show bo (aV l (by rw[ax];omega)) ?_;exact N (by omega) w y D l
end
section
variable {d:m?} {H:Hp} {Q:V->Hp->Prop} {dd a:m?} {kn:g? Tm} {E:m?->Prop} {sb:D?}
theorem U2.len {p r:m?} {A B:Hp} (u:U2 p r A B) (b:p<b? B) (c:r<b? B):b? A<=b? B:=by
 rcases abb (b? B) (b? A) with h|h
 ·have:=(i?.mp (u (b? B) _ (by omega) (by omega) (Z? h))).1;omega
 ·exact h
theorem Ur.len {p:m?} {A B:Hp} (u:Ur p A B) (b:p<b? B):b? A<=b? B:=U2.len (r:=p) (λm c h Z e=>u m c h e) b b
def kG (p:m?×g? Tm):Prop:=p.1<8/\p.2.length<=2/\∀b∈p.2,b∈cI
theorem QJ {k:m?} (h:k<6):∃f:m?,f<8/\bN (ύ [ϋ 0,ϋ 1,ϋ 2,ϋ 4,ϋ 0,ϋ 5]) (ϋ (k:C?)) H=d? (ϋ (f:m?)):=by
 have:k=0\/k=1\/k=2\/k=3\/k=4\/k=5:=(show ∀k:m?,k<6->k=0\/k=1\/k=2\/k=3\/k=4\/k=5 by decide) k h;rcases this with rfl|rfl|rfl|rfl|rfl|rfl
 ·exact⟨0,by decide,rfl⟩
 ·exact⟨1,by decide,rfl⟩
 ·exact⟨2,by decide,rfl⟩
 ·exact⟨4,by decide,rfl⟩
 ·exact⟨0,by decide,rfl⟩
 ·exact⟨5,by decide,rfl⟩
theorem dD.snoc {H:Hp} {ps:g? (m?×g? Tm)} {xs:g? V} {f l:m?} {bs:g? Tm} (h:dD H ps xs) (c:H[l]? = d? (ό (aU bs))):dD H (ps++[(f,bs)]) (xs++[ύ [ϋ f,ϊ l]]):=by
 induction h with
 |nil=>exact ϳ c .nil
 |cons b _ i=>exact ϳ b i
theorem Gz {o:m?} {K0:Hp} {C:p? V} {PQ:Fl->Ă->Hp->Prop} (hd:5<=d) (hE:E o) :
  ∀{js:g? m?} {H:Hp} {a:m?} {ps:g? (m?×g? Tm)} {xs:g? V} {O o5 o6 o7 o8 y:p? V},(∀j∈js,j<3)->U2 dd o K0 H->b? K0<=b? H->DS E H dd a kn->H[o]? = d? (ό xs)->dD (PM (b? K0) o H) ps xs->(∀p∈ps,kG p)->b? xs+b? js<100->a+6 * b? js<90000->
   (∀H' I ps' xs' O o5 o6 o7 o8 y,U2 dd o K0 H'->b? K0<=b? H'->DS E H' dd I kn->H'[o]? = d? (ό xs')->dD (PM (b? K0) o H') ps' xs'->(∀p∈ps',kG p)->b? ps'=b? ps+b? js->I<=a+6 * b? js->PQ ϒ [d? (ϊ dd),d? (Ϗ (iy sb)),C,O,d? (ϊ o),o5,o6,o7,o8,y] H')->
   bG (bu Ā d jj) (d6 Ā d (ϝ 3)) (λZ=>ŀ) (js.map λ(j:m?)=>ϋ (j:C?)) [d? (ϊ dd),d? (Ϗ (iy sb)),C,O,d? (ϊ o),o5,o6,o7,o8,y] H PQ:=by
 intro l_;induction l_ with
 |nil=>
  exact λT u N s h Y w hl ha q=>by rename_i H a ps xs O o5 o6 o7 o8 y;exact⟨trivial,q H a ps xs O o5 o6 o7 o8 y u N s h Y w rfl (J? _)⟩
 |cons j js ih_=>
  exact λT u N s h Y w hl ha q=>by
   rename_i H a ps xs O o5 o6 o7 o8 y;simp only[Q?] at hl ha q;show⟨trivial,?_⟩;simp![];show mB (by omega) s (by omega) λz b K S=>?_;show bf (dj (H:=b) (z:=z) (n:=6) (by decide) (by decide)) λk hk J=>?_;have J:cY p! (ϋ z) (ϋ 6) b=_:=J;show bf (QJ (H:=b) hk) λf hf ef=>?_;simp![J,ef];have hu1:=u.ud K;have v:=K _ _ (s.ne h) h;have hK1:b? K0<=b? b:=S? N (Ur.len K S.lt);have hol:=(i?.mp v).1;have hp1:nU (PM (b? K0) o H) (PM (b? K0) o b):=U2.pm (U2.refl.ud K) s.dict;have s2:DS (λm=>E m\/m=b? b) (b++[ό []]) dd (a+1) kn:=(S.ex (E':=λm=>E m\/m=b? b) λm J h=>by rcases h with h|h;exact h;omega).up Up.app;have X:b? (b++[ό []])=b? b+1:=I?;show mB (by omega) s2 (by omega) λz2 A F s3=>?_;show bf (dj (H:=A) (z:=z2) (n:=3) (by decide) (by decide)) λk2 W t=>?_;have t:cY p! (ϋ z2) (ϋ 3) A=_:=t;simp![t];show⟨by omega,by omega,?_⟩;have h2:A[b? b]? = d? (ό (aU [])):=F _ _ (s2.ne aD) aD;show GB (E:=λm=>E m\/m=b? b) (K0:=A) (tm:=b? b) (bs:=[]) hd (CB (T j o?)) (u? rfl) U2.refl s3 h2 (by simp) (by simp;omega) (by simp;omega) λr a3 bs r7 r8 r9 L s4 h3 hb R M=>?_;simp only[N!,Ŀ] at M;replace M:a3<=a+6:=S? M (C_ (aaC 2 (Ý W)) (a+1+1));have D:A[o]? = d? (ό xs):=F _ _ (s2.ne (aC v)) (aC v);have g:r[o]? = d? (ό xs):=L _ _ (s3.ne D) (by omega) D;have hu3:U2 dd o K0 r:=λm c i B e=>L m c i (by have:=(i?.mp e).1;omega) (F _ _ i (aC (hu1 m c i B e)));have hp3:nU (PM (b? K0) o b) (PM (b? K0) o r):=λm ys e=>by
    show fP (da.mp e) λi B x=>?_;have hlt:=(i?.mp x).1;exact da.mpr ⟨i,B,L _ _ (S.ne x) (by omega) (F _ _ (S.ne x) (aC x))⟩
   have s5:DS E r dd a3 kn:=s4.ex λm Z h=>x? h;simp![bq g,K?];show bo (aV g (by omega)) ?_;have P:b? K0<=b? (r.set o (ό (xs++[ύ [ϋ (f:m?),ϊ (b? b)]]))):=by
    rw[d_];have:=Ur.len F s3.lt;have:=U2.len L s4.lt (i?.mp h3).1;omega
   show ih_ (ps:=ps++[(f,bs)]) (λj h=>T j (q? _ h)) hu3.set P (s5.P2 hE g) (ah g) ?_ (λp hp'=>?_) (by simp;omega) (by omega) λH' I ps' xs' r3 r5 r6 r7 r8 r9 x1 x2 x3 x4 x5 x6 x7 x8=>q H' I ps' xs' r3 r5 r6 r7 r8 r9 x1 x2 x3 x4 x5 x6 (by simp at x7;omega) (by omega)
   ·have l:nU (PM (b? K0) o r) (PM (b? K0) o (r.set o (ό (xs++[ύ [ϋ (f:m?),ϊ (b? b)]])))):=λm ys e=>by
     exact fP (da.mp e) λi B x=>da.mpr ⟨i,B,ae x (N_ i)⟩
    show((Y.iS hp1).iS hp3).iS l |>.snoc (l _ _ (da.mpr ⟨by omega,by omega,h3⟩))
   ·rcases N?.mp hp' with h|h
    ·exact w p h
    ·rw[B?.mp h];exact⟨hf,R,hb⟩
end
section
theorem Dj (h:n<=3) (a:t∈qs sb n):t∈vars:=by
 show bf (B_.mp a) λj H q=>?_;subst q;exact CB (by have:=ť.mp H;omega)
theorem CO:b? (qs sb n)=n:=by simp[qs]
theorem mc (z:6<=d) (x:cn<=3) (s:DS E H dd a k) (R:∀m,E m->m<b? H) (hk:b? k<=50) (ha:a+18<90000)
  (q:∀H' A O ps xs,Ud dd H H'->DS E H' dd A (k++qs sb cn)->A<=a+18->b? H<=O->H'[O]? = d? (ό xs)->dD (MN (b? H) H') ps xs->(∀p∈ps,kG p)->b? ps=cn->Q (ϊ O) H') :
  aG d 954 [ϊ dd,Ϗ (iy sb),ϋ (cn:C?)] H Q:=by
 show pI.go z rfl λd z=>?_;have S:=s.lt;obtain⟨kvs,km,l,sp,xs,Y,i,J,K,w,L,M,y,N,P,r,g,v,F,e2,I,k1,k2⟩:=s;simp![aw (jy i y)];show⟨by omega,by omega,?_⟩;show Np (js:=l! cn) (ys:=[]) aD (by simp;omega) ?_;have B:Up H ((H++[ό []]).set (b? H) (ό (aU (qs sb cn)))):=Up.app.set (J? _);have l1:b? ((H++[ό []]).set (b? H) (ό (aU (qs sb cn))))=b? H+1:=by simp
 have C:((H++[ό []]).set (b? H) (ό (aU (qs sb cn))))[b? H]? = d? (ό (aU (qs sb cn))):=ah aD;change uX _ _ _ ((H++[ό []]).set (b? H) (ό (aU (qs sb cn))));generalize ((H++[ό []]).set (b? H) (ό (aU (qs sb cn))))=b at *;show bo (add_list (B _ _ N) C (by rw[ax,ax,CO];omega)) ?_;simp![];have u:Up H (b++[ό (aU k++aU (qs sb cn))]):=B.trans Up.app;have D:(b++[ό (aU k++aU (qs sb cn))])[b? b]? = d? (ό (aU (k++qs sb cn))):=by rw[show aU (k++qs sb cn)=aU k++aU (qs sb cn) from ļ];exact aD
 have l2:b? (b++[ό (aU k++aU (qs sb cn))])=b? H+2:=by simp[l1]
 generalize (b++[ό (aU k++aU (qs sb cn))])=n at *;rw[rV (u _ _ i) (by omega)];simp![];have s3:DS E (n.set dd (Ϛ (au "known" (ϊ (b? b)) kvs))) dd a (k++qs sb cn):=by
  show⟨_,b? b,l,sp,xs,Y,ah (u _ _ i),by rw[gY y];exact J,?_,ae (u _ _ w) (by rintro rfl;rw[i] at w;cases w),L,?_,by rw[aF,P? rfl],ae D (by omega),?_,?_,ae (u _ _ g) (by rintro rfl;rw[i] at g;cases g),v,F,λh=>by have:=R _ h;omega,I,λt W=>?_,by rw[I?,CO];omega⟩
  ·rw[aF,E? (by decide+kernel),K]
  ·rw[aF,E? (by decide+kernel),M]
  ·rw[aF,E? (by decide+kernel),P]
  ·rw[aF,E? (by decide+kernel),r]
  ·rcases N?.mp W with h|h
   ·exact k1 t h
   ·exact Dj x h
 have u3:Ud dd H (n.set dd (Ϛ (au "known" (ϊ (b? b)) kvs))):=(Ur.of u).trans Ur.set;have l3:b? (n.set dd (Ϛ (au "known" (ϊ (b? b)) kvs)))=b? H+2:=by rw[d_,l2]
 generalize (n.set dd (Ϛ (au "known" (ϊ (b? b)) kvs)))=f at *;show⟨by omega,by omega,?_⟩;have s4:DS (λm=>E m\/m=b? f) (f++[ό []]) dd a (k++qs sb cn):=(s3.ex (E':=λm=>E m\/m=b? f) λm l h=>by rcases h with h|h;exact h;omega).up Up.app;show Gz (E:=λm=>E m\/m=b? f) (K0:=f++[ό []]) (o:=b? f) (js:=l! cn) (ps:=[]) (xs:=[]) (by omega) (u? rfl) (λj h=>by have:=ť.mp h;omega) U2.refl (J? _) s4 aD .nil (by simp) (by simp;omega) (by simp;omega) λH' A ps' xs' o3 o5 o6 o7 o8 o9 x1 x2 x3 x4 x5 x6 X x8=>?_;simp only[J_,Ŀ,Š] at X x8;show q H' A (b? f) ps' xs' ?_ (x3.ex λm Z h=>x? h) (by omega) (by omega) x4 ((x5.iS PM.mn).iS (MN.le (by rw[I?];omega))) x6 X;intro m c l e;have T:=(i?.mp e).1;exact x1 m c l (by omega) (aC (u3 m c l e))
end
section
theorem Bh {P:Hp->Prop} (n:5<=d) (l:E m):∀{js:g? V} {H:Hp} {a:m?} {us:g? Tm} {o:p? V},U2 dd m K0 H->DS E H dd a kn->H[m]? = d? (ό (aU us))->(∀u∈us,u∈ă)->b? us+b? js<=50->a+2 * b? js<90000->
  (∀H' A b,U2 dd m K0 H'->DS E H' dd A kn->H'[m]? = d? (ό (aU b))->(∀u∈b,u∈ă)->b? b=b? us+b? js->A<=a+2 * b? js->P H')->
  cC [1] (mh d (.bool j?)) (bh Ā d f? (Ϯ 949 (ϓ (Ϙ 2) Ϥ))) (λZ=>ŀ) m js [e?,o,d? (ϊ dd)] H P:=by
 intro l_;induction l_ with
 |nil=>
  exact λu s h e g f q=>by rename_i H a us o;exact⟨trivial,q H a us u s h e rfl (J? _)⟩
 |cons j js i=>
  exact λu s h e g f q=>by
   rename_i H a us o;simp only[Q?] at g f q;show⟨trivial,?_⟩;change mh d (.bool j?) [e?,d? j,d? (ϊ dd)] H _;simp![];show q7 n s (by omega) λt H1 a1 p k s1 h9=>?_;have c:=k _ _ (s.ne h) h;show bo (aV c (by rw[ax];omega)) ?_;show i (us:=us++[t]) (u.ud k).set (s1.P2 l c) (by rw[ah c];simp[aU]) (λx hx=>?_) (by simp;omega) (by omega) λH' A b x1 x2 x3 x4 x5 x6=>q H' A b x1 x2 x3 x4 (by simp at x5;omega) (by omega);rcases N?.mp hx with h|h
   ·exact e x h
   ·rw[B?.mp h];exact p
theorem jO {d:m?} {H:Hp} {dd:m?} {a:m?} {g:g? Tm} {c:C?} {n:m?} {ρ:Ă} {K:KE} (r:c=(n:C?)) (hn:0<n) (hn4:n<=4) (t:5<=d) (s:DS E H dd a g) (ha:a+9<90000)
  (q:∀H' A o us,Ud dd H H'->DS E H' dd A g->A<=a+7->b? H<=o->H'[o]? = d? (ό (aU us))->(∀u∈us,u∈ă)->b? us<n->K (ϊ o) H') :
  aG d 921 [ϊ dd] H (kQ f? (UQ d p! (ϰ c) (d? (ϊ dd)::ρ) f? (Bw d [e?,e?,d? 0] [1] (Ϯ 949 (ϓ (Ϙ 2) Ϥ)) (.bool j?) (d? (ϊ dd)::ρ) f? K))):=by
 subst r;show mB (by omega) s (by omega) λz b p S=>?_;show bf (dj (H:=b) (z:=z) (n:=n) hn (by omega)) λk hk l=>?_;simp![l];show⟨by omega,by omega,?_⟩;rw[R_];have s2:DS (λm=>E m\/m=b? b) (b++[ό []]) dd (a+1) g:=(S.ex (E':=λm=>E m\/m=b? b) λm l h=>by rcases h with h|h;exact h;omega).up Up.app;show Bh (E:=λm=>E m\/m=b? b) (K0:=b++[ό []]) (us:=[]) t (u? rfl) U2.refl s2 aD (by simp) (by simp;omega) (by simp;omega) λH' A i x1 x2 x3 x4 x5 x6=>?_;simp only[J_,N!,Ŀ,Š] at x5 x6;have f:=Ur.len p S.lt;show q H' A (b? b) i (λm c j e=>?_) (x2.ex λm Z h=>x? h) (by omega) f x3 x4 (by omega);have hlt:=(i?.mp e).1;exact x1 m c j (by omega) (aC (p m c j e))
inductive DH (H:Hp) (dd a hm n:m?):Prop
 |mk (kvs:g? (k!×V)) (km:m?) (sp:C?) (xs:g? C?) (hv:g? (C?×C?)) (h1:H[dd]? = d? (Ϛ kvs)) (h2:b? kvs<100) (h3:bx (A? "script") kvs=d? (ϊ 1)) (h4:H[1]? = d? (ό (xs.map ϋ))) (h5:b? xs<1000) (h6:bx (A? "at") kvs=d? (ϋ (a:m?)))
  (h7:bx (A? "known") kvs=d? (ϊ km)) (h8:H[km]? = d? (ό [])) (h9:bx (A? "spot") kvs=d? (ϋ sp)) (h10:bx (A? "hits") kvs=d? (ϊ hm)) (h11:H[hm]? = d? (ό (qW hv))) (h12:b? hv<=n) (e1:1<hm) (e2:km<hm):DH H dd a hm n
theorem A9 (u:1<=d) (s:DH H dd a v n) (t:a<90000) (q:∀(z:C?) H',Ud dd H H'->DH H' dd (a+1) v n->Q (ϋ z) H'):aG d 921 [ϊ dd] H Q:=by
 obtain⟨kvs,K,S,xs,w,b,i,j,c,k,l,p,g,r,e,h,f,m,o⟩:=s;show nM u b j l t c k i λz=>q z _ Ur.set ⟨au "at" (ϋ ((a+1:m?):C?)) kvs,K,S,xs,w,ah b,by rw[gY l];exact i,?_,ae c (by rintro rfl;rw[b] at c;cases c),k,?_,?_,ae g (by rintro rfl;rw[b] at g;cases g),?_,?_,ae h (by rintro rfl;rw[b] at h;cases h),f,m,o⟩
 ·rw[aF,E? (by decide+kernel),j]
 ·rw[aF,P? rfl]
 ·rw[aF,E? (by decide+kernel),p]
 ·rw[aF,E? (by decide+kernel),r]
 ·rw[aF,E? (by decide+kernel),e]
theorem Ff (hd:1<=d):∀{js:g? V} {H:Hp} {a n:m?} {o O:p? V},U2 dd C K0 H->DH H dd a C n->n+b? js<=n0->n0<50->a+2 * b? js<90000->
  (∀H' B o O,U2 dd C K0 H'->DH H' dd B C n0->B<=a+2 * b? js->PQ ϒ (d? (ϊ dd)::o::O::ρ) H')->
  bG (bu Ā d kN) (d6 Ā d (ϝ 1)) (λZ=>ŀ) js (d? (ϊ dd)::o::O::ρ) H PQ:=by
 intro M;induction M with
 |nil=>
  exact λu s D t J q=>by rename_i H a n o O;exact⟨trivial,q H a o O u (by
    obtain⟨kvs,K,S,xs,A,e,l,m,p,r,v,w,x,y,b,h,f,g,i⟩:=s;exact⟨kvs,K,S,xs,A,e,l,m,p,r,v,w,x,y,b,h,by simp at D;omega,g,i⟩) (J? _)⟩
 |cons j js I=>
  exact λu s D t J q=>by
   rename_i H a n o O;simp only[Q?] at D J q;show⟨trivial,?_⟩;simp![];show A9 (by omega) s (by omega) λz F P L=>?_;show bf (dj (H:=F) (z:=z) (n:=16) (by decide) (by decide)) λk hk c=>?_;have c:cY p! (ϋ z) (ϋ 16) F=_:=c;have T:=L;obtain⟨kvs,K,S,xs,A,e,l,m,p,r,v,w,x,y,b,h,f,g,i⟩:=L;simp![c,aw (jy e b),bq h,K?];show A9 (by omega) T (by omega) λY H2 R N=>?_;clear e l m p r v w x y b h f g i A T;obtain⟨kvs,K,S,xs,A,e,l,m,p,r,v,w,x,y,b,h,f,g,i⟩:=N;show bo (aV h (by simp[qW];omega)) ?_;show I (n:=n+1) ((u.ud P).ud R).set ⟨kvs,K,S,xs,A++[(1+(k:C?),Y)],ae e (by rintro rfl;rw[e] at h;cases h),l,m,ae p (by omega),r,v,w,ae x (by omega),y,b,by rw[ah h];simp[qW],by simp;omega,g,i⟩ (by omega) t (by omega) λH' B o O X W x3=>q H' B o O X W (by omega)
end
structure Er (M:cN):Prop where
 own:∀p∈M.1,kG p
 olen:M.1.length<=3
 ret:M.2.1∈ă
 args:∀t∈M.2.2,t∈ă
 alen:M.2.2.length<=2
theorem dz.snoc (h:dz H Ms vs) (d:H[o]? = d? (ό xs)) (e:dD H M.1 xs) (f:H[a]? = d? (ό (aU M.2.2))):dz H (Ms++[M]) (vs++[ύ [ϊ o,M.2.1.toV,ϊ a]]):=by
 induction h with
 |nil=>exact .cons d e f .nil
 |cons g b c _ i=>exact .cons g b c i
section
theorem DS.back (s:DS E H dd a kn) (f:H[km]? = d? (ό (aU k))) (hE:¬E km) (hv:∀t∈k,t∈vars) (hl:b? k<100) {P:Hp->Prop}
  (q:∀H',Ud dd H H'->DS E H' dd a k->P H'):ok (cG (ϊ dd) (Ϗ "known") (ϊ km) H) P:=by
 obtain⟨kvs,km1,hm,sp,xs,hv1,b,h2,h3,e,h5,h6,h7,h8,h9,c,h,d,e1,e2,e3,k1,k2⟩:=s;show bo (rV b (by omega)) ?_;show q _ Ur.set ⟨_,km,hm,sp,xs,hv1,ah b,by rw[gY h7];exact h2,?_,ae e (by rintro rfl;rw[b] at e;cases e),h5,?_,by rw[aF,P? rfl],ae f (by rintro rfl;rw[b] at f;cases f),?_,?_,ae h (by rintro rfl;rw[b] at h;cases h),d,e1,hE,e3,hv,hl⟩
 ·rw[aF,E? (by decide+kernel),h3]
 ·rw[aF,E? (by decide+kernel),h6]
 ·rw[aF,E? (by decide+kernel),h9]
 ·rw[aF,E? (by decide+kernel),c]
theorem Ai (hd:7<=d) (h136:136<=b? K0) (hk0:K0[km0]? = d? (ό (aU kn))) (hkm:km0≠b) (hkd:km0≠dd) (hkv:∀t∈kn,t∈vars) (hkl:b? kn<=2) :
  ∀{js:g? V} {H:Hp} {a:m?} {Ms:g? cN} {ms:g? V} {o1 o2 o9 o:p? V},U2 dd b K0 H->b? K0<=b? H->DS (λZ=>Z=b) H dd a kn->H[b]? = d? (ό ms)->dz (PM 136 b H) Ms ms->(∀M∈Ms,Er M)->b? ms+b? js<100->a+28 * b? js<80000->
   (∀H' a' f ms' o1 o2 o9 o,U2 dd b K0 H'->DS (λZ=>Z=b) H' dd a' kn->H'[b]? = d? (ό ms')->dz (PM 136 b H') f ms'->(∀M∈f,Er M)->b? f=b? Ms+b? js->a'<=a+28 * b? js->PQ ϒ [d? (ϊ dd),o1,o2,o3,o4,o5,o6,d? (ϊ b),d? (ϊ km0),o9,o] H')->
   bG (bu Ā d kL) (d6 Ā d (ϝ 1)) (λZ=>ŀ) js [d? (ϊ dd),o1,o2,o3,o4,o5,o6,d? (ϊ b),d? (ϊ km0),o9,o] H PQ:=by
 intro l_;induction l_ with
 |nil=>
  exact λu hK s h hM hok hl ha q=>by rename_i H a Ms ms o1 o2 o9 o;exact⟨trivial,q H a Ms ms o1 o2 o9 o u s h hM hok rfl (J? _)⟩
 |cons j js ih_=>
  exact λu hK s h hM hok hl ha q=>by
   rename_i H a Ms ms o1 o2 o9 o;simp only[Q?] at hl ha q;show⟨trivial,?_⟩;simp![];show mB (by omega) s (by omega) λz H1 u1 s1=>?_;show bf (dj (H:=H1) (z:=z) (n:=4) (by decide) (by decide)) λk hk i=>?_;have i:cY p! (ϋ z) (ϋ 4) H1=_:=i;simp![i];have g:=u1 _ _ (s.ne h) h;have hml:=(i?.mp g).1;have hl1:=Ur.len u1 s1.lt;show mc (sb:=j?) (cn:=k) (by omega) (by omega) s1 (by rintro m rfl;exact hml) (by omega) (by omega) λH2 a2 om ps xs u2 s2 h9 ho hox hpx hpo hpl=>?_;simp![];show q7 (by omega) s2 (by omega) λt H3 a3 ht u3 s3 h93=>?_;replace h93:a3<=a+21:=S? h93 (L! h9 2);have hm3:=u3 _ _ (s2.ne (u2 _ _ (s1.ne g) g)) (u2 _ _ (s1.ne g) g);simp![bq hm3,K?];show jO (c:=3) (n:=3) rfl (by decide) (by decide) (by omega) s3 (by omega) λl a4 p us u4 s4 h94 ham hax hau hal=>?_;have hm4:=u4 _ _ (s3.ne hm3) hm3;replace h94:a4<=a+28:=S? h94 (L! h93 7);show bo (aV hm4 (by omega)) ?_;have hl2:=Ur.len u2 s2.lt;have hl3:=Ur.len u3 s3.lt;have hl4:=Ur.len u4 s4.lt;have st:∀{A B:Hp} {a:m?} {kn:g? Tm},DS (λZ=>Z=b) A dd a kn->Ud dd A B->nU (PM 136 b A) (PM 136 b B):=λs u=>U2.pm (U2.refl.ud u) s.dict;have p4:nU (MN (b? H1) H2) (PM 136 b l):=λm ys e=>by
    obtain⟨e1,e2⟩:=iu.mp e;exact da.mpr ⟨by omega,by omega,u4 _ _ (s3.ne (u3 _ _ (s2.ne e2) e2)) (u3 _ _ (s2.ne e2) e2)⟩
   have s5:=s4.P2 (ys:=ms++[ύ [ϊ om,t.toV,ϊ p]]) rfl hm4;have p5:nU (PM 136 b l) (PM 136 b (l.set b (ό (ms++[ύ [ϊ om,t.toV,ϊ p]])))):=λm ys e=>by
    exact fP (da.mp e) λe1 e2 e3=>da.mpr ⟨e1,e2,ae e3 (N_ e1)⟩
   have u5:U2 dd b K0 (l.set b (ό (ms++[ύ [ϊ om,t.toV,ϊ p]]))):=((((u.ud u1).ud u2).ud u3).ud u4).set;have hl5:b? (l.set b (ό (ms++[ύ [ϊ om,t.toV,ϊ p]])))=b? l:=d_;have hm5:(l.set b (ό (ms++[ύ [ϊ om,t.toV,ϊ p]])))[b]? = d? (ό (ms++[ύ [ϊ om,t.toV,ϊ p]])):=ah hm4;have hM5:dz (PM 136 b (l.set b (ό (ms++[ύ [ϊ om,t.toV,ϊ p]])))) (Ms++[(ps,t,us)]) (ms++[ύ [ϊ om,t.toV,ϊ p]]):=
    dz.iS p5 (((((hM.iS (st s u1)).iS (st s1 u2)).iS (st s2 u3)).iS (st s3 u4)).snoc (M:=(ps,t,us)) (p4 _ _ (iu.mpr ⟨ho,hox⟩)) (hpx.iS p4) (da.mpr ⟨by omega,by omega,hax⟩))
   generalize (l.set b (ό (ms++[ύ [ϊ om,t.toV,ϊ p]])))=H5 at *;show s5.back (u5 _ _ hkd hkm hk0) hkm hkv (by omega) λH6 u6 s6=>?_;have hl6:=Ur.len u6 s6.lt;show ih_ (Ms:=Ms++[(ps,t,us)]) (u5.ud u6) (by omega) s6 (u6 _ _ (s5.ne hm5) hm5) (hM5.iS (st s5 u6)) (λM hM'=>?_) (by simp;omega) (by omega) λH' a' f ms' o1 o2 o9 o x1 x2 x3 x4 x5 x6 x7=>q H' a' f ms' o1 o2 o9 o x1 x2 x3 x4 x5 (by simp at x6;omega) (by omega);rcases N?.mp hM' with h|h
   ·exact hok M h
   ·rw[B?.mp h];exact⟨hpo,by change(b? ps)<=3;omega,ht,hau,by change(b? us)<=2;omega⟩
end
def bt (k:k!) (kvs:g? (k!×V)):m?:=match bx k kvs with| Option.none=>1|some _=>0
theorem iA:∀{kvs:g? (k!×V)},b? (au k v kvs)=b? kvs+bt k kvs
 |[]=>rfl
 |(K,a)::r=>by
  unfold bt;simp only[gW,fq,jv,eG];by_cases e:K=k
  ·rw[P? e,P? e];rfl
  ·rw[E? e,E? e];have:=iA (k:=k) (v:=v) (kvs:=r);unfold bt at this;simp only[Q?];omega
theorem lh:bt k' (au k v kvs)=if k=k' then 0 else bt k' kvs:=by
 unfold bt;rw[aF];by_cases e:k=k'
 ·rw[P? e,P? e]
 ·rw[E? e,E? e]
theorem ou (h:bx k kvs=d? v):bt k kvs=0:=by unfold bt;rw[h]
inductive D0 (H:Hp) (dd a:m?):Prop
 |mk (kvs:g? (k!×V)) (xs:g? C?) (h1:H[dd]? = d? (Ϛ kvs)) (h2:b? kvs+bt "known" kvs+bt "spot" kvs+bt "hits" kvs<100) (h3:bx (A? "script") kvs=d? (ϊ 1)) (h4:H[1]? = d? (ό (xs.map ϋ))) (h5:b? xs<1000) (h6:bx (A? "at") kvs=d? (ϋ (a:m?))):D0 H dd a
structure kx (C:dT):Prop where
 params:∀p∈C.params,kG p
 plen:b? C.params<=2
 base:∀t∈C.base,t∈ă
 blen:b? C.base<=1
 faces:∀t∈C.faces,t∈ă
 flen:b? C.faces<=3
 fields:∀t∈C.fields,t∈ă
 dlen:b? C.fields<=2
 methods:∀M∈C.methods,Er M
 mlen:b? C.methods<=2
section
theorem DS.d0 (s:DS E H dd a v):D0 H dd a:=by
 obtain⟨kvs,u,q,S,xs,r,b,e,f,g,i,j,k,p,l,h,c,d,m,n,o,K,t⟩:=s;exact⟨kvs,xs,b,by rw[ou k,ou l,ou h];exact e,f,g,i,j⟩
theorem DH.ds (s:DH H dd a p n) (v:n<100):DS (λZ=>a_) H dd a []:=by
 obtain⟨kvs,K,S,xs,q,d,f,g,i,j,k,l,m,o,b,c,e,r,u⟩:=s;exact⟨kvs,K,p,S,xs,q,d,f,g,i,j,k,l,m,o,b,c,by omega,id,id,id,λt h=>(by cases h),by decide⟩
theorem DS.iS (s:DS E H dd a k) (u:Ud dd H B):nU (fQ H) (fQ B):=λm xs e=>by
 obtain⟨c,b⟩:=aS.mp e;exact aS.mpr ⟨c,u _ _ (s.ne b) b⟩
theorem Tp {P:Hp->Prop} (s:D0 H dd a) (q:∀d h,h[dd]? = d? (Ϛ d)->Ud dd H h->b? h=b? H+2->DH h dd a (b? H+1) 0->P h) :
  ∃kvs:g? (k!×V),H[dd]? = d? (Ϛ kvs)/\b? kvs<100/\b? (au (A? "known") (ϊ (b? H)) kvs)<100/\b? (au (A? "spot") (ϋ 0) (au "known" (ϊ (b? H)) kvs))<100/\
   P ((((H++[ό []]).set dd (Ϛ (au "known" (ϊ (b? H)) kvs))).set dd (Ϛ (au "spot" (ϋ 0) (au "known" (ϊ (b? H)) kvs)))++[ό []]).set dd (Ϛ (au "hits" (ϊ (b? H+1)) (au "spot" (ϋ 0) (au "known" (ϊ (b? H)) kvs))))):=by
 obtain⟨kvs,xs,g,B,t,i,u,w⟩:=s;have x:=(i?.mp g).1;have y:=(i?.mp i).1;have f:dd≠1:=by rintro rfl;rw[g] at i;cases i
 have M:=iA (k:="known") (v:=ϊ (b? H)) (kvs:=kvs);have J:bt "spot" (au "known" (ϊ (b? H)) kvs)=bt "spot" kvs:=by rw[lh,E? (by decide+kernel)]
 have N:bt "hits" (au "known" (ϊ (b? H)) kvs)=bt "hits" kvs:=by rw[lh,E? (by decide+kernel)]
 have D:=iA (k:="spot") (v:=ϋ 0) (kvs:=au "known" (ϊ (b? H)) kvs);have O:bt "hits" (au "spot" (ϋ 0) (au "known" (ϊ (b? H)) kvs))=bt "hits" kvs:=by rw[lh,E? (by decide+kernel),N]
 have I:=iA (k:="hits") (v:=ϊ (b? H+1)) (kvs:=au "spot" (ϋ 0) (au "known" (ϊ (b? H)) kvs));have fd:∀{k:k!} {v:V},¬"known"=k->¬"spot"=k->¬"hits"=k->bx k kvs=d? v->bx k (au "hits" (ϊ (b? H+1)) (au "spot" (ϋ 0) (au "known" (ϊ (b? H)) kvs)))=d? v:=λa b c e=>by
  rw[aF,E? c,aF,E? b,aF,E? a,e]
 have n:bx (A? "known") (au "hits" (ϊ (b? H+1)) (au "spot" (ϋ 0) (au "known" (ϊ (b? H)) kvs)))=d? (ϊ (b? H)):=by
  rw[aF,E? (by decide+kernel),aF,E? (by decide+kernel),aF,P? rfl]
 have o:bx (A? "spot") (au "hits" (ϊ (b? H+1)) (au "spot" (ϋ 0) (au "known" (ϊ (b? H)) kvs)))=d? (ϋ 0):=by
  rw[aF,E? (by decide+kernel),aF,P? rfl]
 have F:bx (A? "hits") (au "hits" (ϊ (b? H+1)) (au "spot" (ϋ 0) (au "known" (ϊ (b? H)) kvs)))=d? (ϊ (b? H+1)):=by
  rw[aF,P? rfl]
 show⟨kvs,g,by omega,by omega,by omega,?_⟩;have C:=fd (by decide+kernel) (by decide+kernel) (by decide+kernel) t;have m:=fd (by decide+kernel) (by decide+kernel) (by decide+kernel) w;have L:b? (au (A? "hits") (ϊ (b? H+1)) (au (A? "spot") (ϋ 0) (au (A? "known") (ϊ (b? H)) kvs)))<100:=by omega
 generalize (au (A? "hits") (ϊ (b? H+1)) (au (A? "spot") (ϋ 0) (au (A? "known") (ϊ (b? H)) kvs)))=d at *;rw[o_];generalize (au (A? "spot") (ϋ 0) (au (A? "known") (ϊ (b? H)) kvs))=K at *;have j:b? ((H++[ό []]).set dd (Ϛ K))=b? H+1:=by simp
 have l:((H++[ό []]).set dd (Ϛ K))[dd]? = d? (Ϛ K):=ah (aC g);have p:((H++[ό []]).set dd (Ϛ K))[b? H]? = d? (ό []):=ae aD (by omega);have r:((H++[ό []]).set dd (Ϛ K))[1]? = d? (ό (xs.map ϋ)):=ae (aC i) f;have z:Ud dd H ((H++[ό []]).set dd (Ϛ K)):=(Ur.of Up.app).trans Ur.set;generalize ((H++[ό []]).set dd (Ϛ K))=A at *;show q d _ (ah (aC l)) ((z.trans (Ur.of Up.app)).trans Ur.set) (by simp;omega) ⟨d,b? H,0,xs,[],ah (aC l),L,C,ae (aC r) f,u,m,n,ae (aC p) (by omega),o,F,ae (by rw[<- j];exact aD) (by omega),J? _,by omega,by omega⟩
end
section
theorem yJ (hd:8<=d) (s:D0 H dd a) (h136:136<=b? H) (ha:a+200<70000) (q:∀v C H' D,Ud dd H H'->D0 H' dd D->D<=a+200->eB (fQ H') v C->kx C->Q v H'):aG d 959 [ϊ dd] H Q:=by
 show qY.go hd rfl λd hd=>?_;obtain⟨kvs,r,l0,l1,l2,M⟩:=Tp (P:=λH3=>bu Ā d sy [d? (ϊ dd),e?,e?,e?,e?,e?,e?,e?,e?,e?,e?] H3 (dA Q)) s (by
  intro kvs3 H3 g1 u3 l3 s3;simp![];show A9 (by omega) s3 (by omega) λz I u4 s4=>?_;show bf (dj (H:=I) (z:=z) (n:=3) (by decide) (by decide)) λk hk b=>?_;have b:cY p! (ϋ z) (ϋ 3) I=_:=b;simp![b];show⟨by omega,by omega,?_⟩;show Ff (n0:=k) (n:=0) (K0:=I) (by omega) U2.refl s4 (by simp) (by omega) (by simp;omega) λH5 a5 o1 o2 u5 s5 i=>?_;simp only[N!,Ŀ] at i;replace i:a5<=a+5:=S? i (C_ (aaC 2 (Ý hk)) (a+1));have t5:=s5.ds (by omega);have y:Ud dd H H5:=λm c b e=>by
   have w:=(i?.mp e).1;exact u5 _ _ b (by omega) (u4 _ _ b (u3 _ _ b e))
  have hl5:=Ur.len y t5.lt;simp![];show mB (by omega) t5 (by omega) λz H6 u6 s6=>?_;show bf (dj (H:=H6) (z:=z) (n:=3) (by decide) (by decide)) λkp hkp b=>?_;have b:cY p! (ϋ z) (ϋ 3) H6=_:=b;simp![b];have hl6:=Ur.len u6 s6.lt;show mc (sb:=f?) (cn:=kp) (by omega) (by omega) s6 (λm h=>h.elim) (w_ _) (by omega) λH7 a7 pm ps xs u7 x j hpm hpx hpp hpo hpl=>?_;replace x:=x;replace j:a7<=a+24:=S? j (L! i 19);have hl7:=Ur.len u7 x.lt;simp![];show jO (c:=2) (n:=2) rfl (by decide) (by decide) (by omega) x (by omega) λH8 a8 bm B u8 s8 l hbm T R hbl=>?_;replace l:a8<=a+31:=S? l (L! j 7);have hl8:=Ur.len u8 s8.lt;simp![];show jO (c:=4) (n:=4) rfl (by decide) (by decide) (by omega) s8 (by omega) λH9 a9 fm F u9 s9 o hfm hfx hfu hfl=>?_;replace o:a9<=a+38:=S? o (L! l 7);have hl9:=Ur.len u9 s9.lt;simp![];show jO (c:=3) (n:=3) rfl (by decide) (by decide) (by omega) s9 (by omega) λg aa fd f ua sa u hdm Y W hdl=>?_;replace u:aa<=a+45:=S? u (L! o 7);have hla:=Ur.len ua sa.lt;have sb:DS (λZ=>Z=b? g) (g++[ό []]) dd aa (qs f? kp):=(sa.ex (E':=(λZ=>Z=b? g)) λm b h=>by omega).up Up.app;have tb:=sb;obtain⟨kvs,km,hmm,sp,xs2,hv,r,h2,h3,h4,h5,h6,h7,J,h9,h10,h11,h12,e1,e2,e3,k1,k2⟩:=sb;simp![aw (jy r h7)];show mB (by omega) tb (by omega) λz p A S=>?_;show bf (dj (H:=p) (z:=z) (n:=3) (by decide) (by decide)) λkq hkq b=>?_;have b:cY p! (ϋ z) (ϋ 3) p=_:=b;simp![b];show⟨by omega,by omega,?_⟩;have hlc:=Ur.len A S.lt;have hlb:b? (g++[ό []])=b? g+1:=I?;have hmc:p[b? g]? = d? (ό []):=A _ _ (tb.ne aD) aD;have hkc:p[km]? = d? (ό (aU (qs f? kp))):=A _ _ (tb.ne J) J;show Ai (K0:=p) (Ms:=[]) (ms:=[]) (by omega) (by omega) hkc e2 (tb.ne J) (λt ht=>Dj (by omega) ht) (by rw[CO];omega) U2.refl (J? _) S hmc .nil (by simp) (by simp;omega) (by simp;omega) λH' D Ms ms o1 o2 o9 o10 ud sd hmd L N O K=>?_;simp only[J_,N!,Ŀ,R_,Š] at O K;have pc:nU (PM 136 (b? g) p) (PM 136 (b? g) H'):=U2.pm ud S.dict;have lz:nU (fQ g) (fQ H'):=λm ys e=>by
   obtain⟨x1,x2⟩:=aS.mp e;have w:=(i?.mp x2).1;have x3:=A _ _ (tb.ne (aC x2)) (aC (X:=[ό []]) x2);show fP (da.mp (pc _ _ (da.mpr ⟨by omega,x1,x3⟩))) λZ y2 y3=>?_;exact aS.mpr ⟨y2,y3⟩
  have l9:nU (fQ H9) (fQ H'):=λm ys e=>lz _ _ (s9.iS ua _ _ e);have l8:nU (fQ H8) (fQ H'):=λm ys e=>l9 _ _ (s8.iS u9 _ _ e);have l7:nU (fQ H7) (fQ H'):=λm ys e=>l8 _ _ (x.iS u8 _ _ e);show q _ ⟨ps,B,F,f,Ms⟩ H' D ?_ sd.d0 (by omega) ⟨pm,bm,fm,fd,b? g,xs,ms,rfl,l7 _ _ (aS.mpr ⟨by omega,hpx⟩),(hpp.iS (MN.le (by omega))).iS l7,l8 _ _ (aS.mpr ⟨by omega,T⟩),l9 _ _ (aS.mpr ⟨by omega,hfx⟩),lz _ _ (aS.mpr ⟨by omega,Y⟩),aS.mpr ⟨by omega,hmd⟩,L.iS PM.mn⟩ ⟨hpo,by change(b? ps)<=2;omega,R,by change(b? B)<=1;omega,hfu,by change(b? F)<=3;omega,W,by change(b? f)<=2;omega,N,by change(b? Ms)<=2;omega⟩;intro m c b e;have w:=(i?.mp e).1;exact ud _ _ b (by omega) (A _ _ b (aC (ua _ _ b (u9 _ _ b (u8 _ _ b (u7 _ _ b (u6 _ _ b (y _ _ b e))))))))
  )
 simp![];show bo (rV (aC r) (by omega)) ?_;simp![];show bo (rV (ah (aC r)) (by omega)) ?_;simp![];show bo (rV (aC (ah (ah (aC r)))) (by omega)) ?_;rw[show(((H++[ό []]).set dd (Ϛ (au "known" (ϊ (b? H)) kvs))).set dd (Ϛ (au "spot" (ϋ 0) (au "known" (ϊ (b? H)) kvs)))).length=b? H+1 from by simp];exact M
end
theorem jJ:∀{i:m?} {ps:g? (m?×g? Tm)} {p:Tm×m?×g? Tm},p∈ar s i ps->∃j x,i<=j/\j<i+b? ps/\x∈ps/\p=(.q s j,x)
 |i,[]=>λh=>by rename_i p;cases h
 |i,(f,bs)::ps=>λh=>by
  rename_i p;rcases G?.mp h with rfl|h
  ·exact⟨i,(f,bs),J? _,by simp,o?,rfl⟩
  ·exact DI (jJ (i:=i+1) (ps:=ps) h) λj x b c H a=>⟨j,x,by omega,by simp;omega,q? _ H,a⟩
theorem og:∀{i:m?} {ps:g? (m?×g? Tm)},((ar s i ps).map (λZ=>Z.1)).Nodup
 |i,[]=>V_
 |i,(f,bs)::ps=>by
  show c_.mpr ⟨λh=>?_,og (i:=i+1) (ps:=ps)⟩;show bf (B_.mp h) λp H e=>DI (jJ (ps:=ps) H) λj x a Z Z q=>?_;subst q;cases e;omega
theorem Kv (o:∀p∈ps,kG p) (r:b? ps<=2) (n:∀p∈ms,kG p) (m:b? ms<=3):bj (ar f? 0 ps++ar j? 0 ms):=by
 have all:∀p∈ar f? 0 ps++ar j? 0 ms,∃s j x,j<3/\kG x/\p=(.q s j,x):=λp h=>by
  rcases N?.mp h with h|h
  ·exact DI (jJ h) λj x d H g i=>⟨_,j,x,by omega,o x g,i⟩
  ·exact DI (jJ h) λj x d H g i=>⟨_,j,x,by omega,n x g,i⟩
 show⟨λp h=>?_,?_,λp h=>?_,λp h=>?_,?_,λp h=>?_⟩
 ·show Pc (all p h) λs j x d H c=>?_;subst c;exact⟨rfl,CB d⟩
 ·rw[ļ,f_];show⟨og,og,λa k b l e=>?_⟩;show bf (B_.mp k) λp d f=>?_;subst f;show bf (B_.mp l) λP H f=>?_;subst f;show DI (jJ d) λj x Z Z Z c=>?_;subst c;show DI (jJ H) λJ X Z Z Z c=>?_;subst c;cases e
 ·show Pc (all p h) λs j x d H c=>?_;subst c;exact H.2.2
 ·show Pc (all p h) λs j x d H c=>?_;subst c;exact H.1
 ·rw[I?,mL,mL];omega
 ·show Pc (all p h) λs j x d H c=>?_;subst c;exact H.2.1
theorem kx.ok (c:kx C):gu C/\xT C/\Kk C:=by
 have f:∀{ps:g? (m?×g? Tm)},(∀p∈ps,kG p)->∀p∈ps,p.2.length<100:=λh p b=>by have:=(h p b).2.1;omega
 have a:=Kv c.params c.plen (ms:=[]) (by simp) (w_ _);rw[show ar j? 0 []=[] from rfl,S!] at a;show⟨⟨c.plen,f c.params,a,c.blen,by have:=c.flen;omega,by have:=c.dlen;omega,by have:=c.mlen;omega,λM H=>?_⟩,⟨c.base,c.faces,c.fields,λM H=>⟨(c.methods M H).ret,(c.methods M H).args⟩⟩,⟨c.dlen,c.mlen,λM H=>(c.methods M H).alen⟩⟩;have m:=c.methods M H;exact⟨m.olen,Kv c.params c.plen m.own m.olen,f m.own,by have:=m.alen;omega⟩
def PR (p:m?×g? Tm):D?:=decide (p.1<8)&&decide (p.2.length<=2)&&p.2.all λb=>fh b cI
def KP (M:cN):D?:=M.1.all PR&&decide (M.1.length<=3)&&fh M.2.1 ă&&(M.2.2.all λt=>fh t ă)&&decide (M.2.2.length<=2)
def So (C:dT):D?:=C.params.all PR&&decide (b? C.params<=2)&&(C.base.all λt=>fh t ă)&&decide (b? C.base<=1)&&(C.faces.all λt=>fh t ă)&&decide (b? C.faces<=3)&&(C.fields.all λt=>fh t ă)&&decide (b? C.fields<=2)&&C.methods.all KP&&decide (b? C.methods<=2)
theorem ET (h:PR p=j?):kG p:=by
 simp only[PR,Y?,O!,L?] at h;replace h:=h;exact⟨h.1.1,h.1.2,λb H=>aO.mp (h.2 b H)⟩
theorem Ln (h:KP M=j?):Er M:=by
 simp only[KP,Y?,O!,L?] at h;obtain⟨⟨⟨⟨H,a⟩,b⟩,c⟩,d⟩:=h;exact⟨λp e=>ET (H p e),a,aO.mp b,λt f=>aO.mp (c t f),d⟩
theorem nc (h:So C=j?):kx C:=by
 simp only[So,Y?,O!,L?] at h;obtain⟨⟨⟨⟨⟨⟨⟨⟨⟨b,c⟩,d⟩,e⟩,f⟩,g⟩,i⟩,j⟩,k⟩,a⟩:=h;exact⟨λp m=>ET (b p m),c,λt H=>aO.mp (d t H),e,λt H=>aO.mp (f t H),g,λt H=>aO.mp (i t H),j,λM l=>Ln (k M l),a⟩
def KC:g? ā:=[ό (aU [.q j? 1]),ό (aU [.q j? 2,tA]),aW,ό (aU [ϗ f? 67 (.q j? 0)]),ό [ύ [ϋ 1,ϊ 141],ύ [ϋ 0,ϊ 142],ύ [ϋ 0,ϊ 144]],ό [],ό (aU [tB,.u .w tA]),ό (aU [.q j? 1]),ό [ύ [ϋ 4,ϊ 146],ύ [ϋ 0,ϊ 147],ύ [ϋ 0,ϊ 148]],
 ό (aU [.q j? 1]),ό (aU [tI,.q j? 2]),ό (aU [.q j? 0]),ό [ύ [ϋ 0,ϊ 150],ύ [ϋ 0,ϊ 151],ύ [ϋ 2,ϊ 152]],ό [],ό [],aW,ό (aU [tI,ϗ f? 67 tA,.f1 tA tS]),ό [],aW,ό (aU [ϗ f? 69 (.q j? 1)]),ό [ύ [ϊ 145,(Tm.p 0).toV,ϊ 160]],
 ό [],ό [ύ [ϋ 1,ϊ 162]],ό (aU [tA]),aW,ό (aU [tI,tI,ϗ f? 69 (.p 7)]),ό [],aW,aW,aW,ό (aU [ϗ f? 71 (.q j? 0),ϗ f? 69 (.q f? 0)]),ό [ύ [ϊ 149,(ϗ f? 72 (.q j? 2)).toV,ϊ 171]],
 ό [],ό [],ό [],ό (aU [.u .a tS]),aW,ό [],ό [],ό [],ό [ύ [ϊ 153,(ϗ f? 70 (.q j? 1)).toV,ϊ 178],ύ [ϊ 179,(Tm.q j? 0).toV,ϊ 180]],
 ό (aU [.q f? 1]),ό (aU [.q f? 0]),ό [ύ [ϋ 0,ϊ 182],ύ [ϋ 0,ϊ 183]],ό [],ό (aU [Ϡ f? 73]),ό (aU [.u .w tA]),ό []]
def X6:V:=ύ [ϊ 154,ϊ 155,ϊ 157,ϊ 158,ϊ 161]
def XS:V:=ύ [ϊ 163,ϊ 164,ϊ 166,ϊ 167,ϊ 172]
def XW:V:=ύ [ϊ 173,ϊ 174,ϊ 175,ϊ 176,ϊ 181]
def YT:V:=ύ [ϊ 184,ϊ 185,ϊ 186,ϊ 187,ϊ 188]
theorem Ha (c C d D a b e:ā):rL j? 60 914 [] (c::C::(HT++[d,D,a,b,e]))=d? (ύ [X6,XS,XW,YT],c::C::(HT++d::D::a::b::e::KC)):=by kernel_rfl
theorem NT:b? HT=134:=by kernel_rfl
theorem bF (i:m?) (h:KC[i]? = d? (ό xs)):(fQ (c::C::(HT++d::D::a::b::e::KC)))[i+141]? = d? (ό xs):=by
 show aS.mpr ⟨by omega,?_⟩;exact h
def PI:g? (m?×g? Tm):=[(1,[.q j? 1]),(0,[.q j? 2,tA]),(0,[ϗ f? 67 (.q j? 0)])]
def Tu:g? (m?×g? Tm):=[(4,[]),(0,[tB,.u .w tA]),(0,[.q j? 1])]
def Xb:g? (m?×g? Tm):=[(0,[.q j? 1]),(0,[tI,.q j? 2]),(2,[.q j? 0])]
def KG:dT:=⟨[],[],[tI,ϗ f? 67 tA,.f1 tA tS],[],[(PI,.p 0,[ϗ f? 69 (.q j? 1)])]⟩
def Jm:dT:=⟨[(1,[])],[tA],[tI,tI,ϗ f? 69 (.p 7)],[],[(Tu,ϗ f? 72 (.q j? 2),[ϗ f? 71 (.q j? 0),ϗ f? 69 (.q f? 0)])]⟩
def Lj:dT:=⟨[],[],[],[.u .a tS],[(Xb,ϗ f? 70 (.q j? 1),[]),([],.q j? 0,[])]⟩
def IM:dT:=⟨[(0,[.q f? 1]),(0,[.q f? 0])],[],[Ϡ f? 73],[.u .w tA],[]⟩
theorem Ph:kx KG:=nc (by decide+kernel)
theorem Qk:kx Jm:=nc (by decide+kernel)
theorem Px:kx Lj:=nc (by decide+kernel)
theorem PF:kx IM:=nc (by decide+kernel)
section
abbrev KH (c C d D a b e:ā):Hp:=c::C::(HT++d::D::a::b::e::KC)
theorem Pw:eB (fQ (KH c C d D a b e)) X6 KG:=
 ⟨154,155,157,158,161,_,_,rfl,bF 13 rfl,.nil,bF 14 rfl,bF 16 rfl,bF 17 rfl,bF 20 rfl,.cons (bF 4 rfl) (ϳ (bF 0 rfl) (ϳ (bF 1 rfl) (ϳ (bF 3 rfl) .nil))) (bF 19 rfl) .nil⟩
theorem PJ:eB (fQ (KH c C d D a b e)) XS Jm:=
 ⟨163,164,166,167,172,_,_,rfl,bF 22 rfl,ϳ (bF 21 rfl) .nil,bF 23 rfl,bF 25 rfl,bF 26 rfl,bF 31 rfl,.cons (bF 8 rfl) (ϳ (bF 5 rfl) (ϳ (bF 6 rfl) (ϳ (bF 7 rfl) .nil))) (bF 30 rfl) .nil⟩
theorem O7:eB (fQ (KH c C d D a b e)) XW Lj:=
 ⟨173,174,175,176,181,_,_,rfl,bF 32 rfl,.nil,bF 33 rfl,bF 34 rfl,bF 35 rfl,bF 40 rfl,.cons (bF 12 rfl) (ϳ (bF 9 rfl) (ϳ (bF 10 rfl) (ϳ (bF 11 rfl) .nil))) (bF 37 rfl) (.cons (bF 38 rfl) .nil (bF 39 rfl) .nil)⟩
theorem Pu:eB (fQ (KH c C d D a b e)) YT IM:=
 ⟨184,185,186,187,188,_,_,rfl,bF 43 rfl,ϳ (bF 41 rfl) (ϳ (bF 42 rfl) .nil),bF 44 rfl,bF 45 rfl,bF 46 rfl,bF 47 rfl,.nil⟩
end
def gB:g? Tm:=(l! 16).map Tm.p++[Ϡ f? 2,tA]
def rows0:g? V:=(l! 16).map (λ(n:m?)=>ύ [ϋ 1,ϋ (n:C?)])++[ύ [ϋ 2,ϋ 2,ύ []],ύ [ϋ 2,ϋ 64,ύ []]]
def Xo:Tm->m?
 |.p n=>n
 |Ϡ _ n=>if n=2 then 16 else 17
 |_=>99
def Wa (t:Tm) (r:V):D?:=match t with
 |.p n=>V.beq r (ύ [ϋ 1,ϋ n])
 |Ϡ s n=>V.beq r (ύ [ϋ (if s then 3 else 2),ϋ n,ύ []])
 |_=>f?
theorem Qy {t:Tm} {r:V} (h:Wa t r=j?):cR gB t r:=by
 cases t using ϐ with
 |p n=>exact(V.beq_iff _ _).mp h
 |n0 s n=>exact(V.beq_iff _ _).mp h
 |_=>cases h
theorem MQ {c d:Type} {l:g? c} {m:g? d} {k:m?} {a:c} {b:d} (h:l[k]? = d? a) (H:m[k]? = d? b):(a,b)∈l.zip m:=
 U! (i:=k) ((List.getElem?_zip_eq_some (z:=(a,b))).mpr ⟨h,H⟩)
theorem M4 {i:m?} {t:Tm} (h:gB[i]? = d? t):Xo t=i:=by
 have hh:(gB.zip (l! 18)).all (λp=>Xo p.1== p.2)=j?:=by decide+kernel
 have H:=(i?.mp h).1;have:=L?.mp hh _ (MQ h (show(l! 18)[i]? = d? i by rw[ſ (by omega)]))
 simpa using this
theorem ZW {c:ā} {xs:g? C?} {X:g? ā} (d:b? xs<=50):KT (c::ό (xs.map ϋ)::(HT++X)) gB:=by
 show⟨rows0,⟨by kernel_rfl,by kernel_rfl,by kernel_rfl,by kernel_rfl,by kernel_rfl,by kernel_rfl,by kernel_rfl,λk t r h H=>?_,λi j t h H=>(M4 h).symm.trans (M4 H),λn a=>?_,λt b=>?_,xs,rfl,d⟩⟩
 ·have hh:(gB.zip rows0).all (λp=>Wa p.1 p.2)=j?:=by decide+kernel
  exact Qy (L?.mp hh _ (MQ h H))
 ·unfold gB;rw[H? (a),X!,ſ a];rfl
 ·have hh:gB.all (λt=>fh t ă)=j?:=by decide+kernel
  exact aO.mp (L?.mp hh _ b)
theorem ws0 {C:ā} {xs:g? C?} {X:g? ā} (H:b? xs<=50):WS (C::ό (xs.map ϋ)::(HT++X)) gB where
 kt:=ZW H
 st:=by kernel_rfl
 ty:=⟨[],by kernel_rfl,by decide⟩
 me:=⟨[],by kernel_rfl⟩
 stat:=λn c h a e=>by
  obtain⟨m,rfl⟩:∃m,n=m+2:=⟨n - 2,(aa0 (S? (by decide) h)).symm⟩
  rw[aaK] at e;change(HT++X)[m]? = d? c;rw[H? (i?.mp e).1];exact e
 c16:=by kernel_rfl
 c17:=by kernel_rfl
theorem ZT {c:ā} {xs:g? C?} {X:g? ā} (h:b? xs<=50):SS (c::ό (xs.map ϋ)::(HT++X)) gB [] [ϖ] [] where
 w:=ws0 h
 len:=by simp[NT]
 ty:=by kernel_rfl
 fd:=by kernel_rfl
 me:=by kernel_rfl
 l1:=by decide
 l2:=by decide
 l3:=by decide
inductive LW (H:Hp) (a tn:m?) (L:g? m?) (m:m?):Prop
 |mk (ts:g? Tm) (ex fx mx:g? V) (s:SS H ts ex fx mx) (h1:b? ex<=m) (h2:b? fx<=1+2 * m) (h3:b? mx<=2 * m) (d0:D0 H 136 a) (ht:H[tn]? = d? (ό (aN L))) (h136:137<=tn) (ok:nv L):LW H a tn L m
section
theorem D0.of (s:D0 H 136 a) (g:∀c,H[136]? = d? c->H'[136]? = d? c) (w:KT H' t):D0 H' 136 a:=by
 obtain⟨kvs,xs,h,b,d,i,j,f⟩:=s;obtain⟨r,w⟩:=w;exact bf w.Vq λys e l=>⟨kvs,ys,g _ h,b,d,e,by omega,f⟩
theorem LW.app (w:LW H a tn L m) (c:ā):LW (H++[c]) a tn L m:=by
 obtain⟨t,b,fx,mx,s,f,g,i,d,j,h,o⟩:=w;have n:=Nx.app s.w.kt [c];exact⟨t,b,fx,mx,s.nx n,f,g,i,d.of (λc e=>aC e) n.kt,aC j,h,o⟩
theorem LW.len (w:LW H a tn L m):136<=b? H:=by
 obtain⟨t,e,fx,mx,s,_⟩:=w;exact s.len
theorem LW.Vq (w:LW H a tn L m):∃xs:g? C?,H[1]? = d? (ό (xs.map ϋ))/\b? xs<=50:=by
 obtain⟨t,e,fx,mx,s,_⟩:=w;obtain⟨r,k⟩:=s.w.kt;exact k.Vq
theorem LW.d0 (w:LW H a tn L m):D0 H 136 a:=by
 obtain⟨t,e,fx,mx,s,h,b,c,d,_⟩:=w;exact d
theorem LW.told (w:LW H a tn L m):(fQ H)[tn]? = d? (ό (aN L))/\nv L:=by
 obtain⟨t,e,fx,mx,s,c,f,g,d,b,h,o⟩:=w;exact⟨aS.mpr ⟨by omega,b⟩,o⟩
theorem LW.ud (w:LW H a tn L m) (u:Ud 136 H H') (s':D0 H' 136 A):LW H' A tn L m:=by
 obtain⟨t,g,fx,mx,s,i,j,k,D,n,h,o⟩:=w;have d:136<b? H':=by
  obtain⟨kvs,xs,e,_⟩:=s';exact(i?.mp e).1
 have l:b? H<=b? H':=Ur.len u d;have p:=s.len;have K:KT H' t:=s.w.kt.of λm f=>by
  have b:m<b? H:=by omega
  rw[u m _ (by omega) (Z? b),Z? b]
 have N:cE (λZ=>Z=136) H t H' t:=⟨λm c f Z e=>u m c f e,l,K,⟨[],by simp⟩,by omega⟩
 exact⟨t,g,fx,mx,s.KW N (by rintro m rfl;omega),i,j,k,s',u _ _ (by omega) n,h,o⟩
theorem sM (p:61<=d) (w:LW H a tn L m) (A:m<8) (n:eB (fQ H) v C) (l:kx C) (r:(fQ H)[tm]? = d? (ό (aN L'))) (O:nv L')
  (q:∀H',LW H' a tn L (m+1)->nU (fQ H) (fQ H')->Q (ϑ j?) H'):aG d 900 [ϊ 2,v,ϊ tm] H Q:=by
 obtain⟨T,u,fx,mx,s,x,y,z,D,g,h,o⟩:=w;show fP l.ok λi j k=>z6 p s (by omega) (by omega) (by omega) n i j k r O λt H' f F M b s' X B I=>q H' ⟨t,f,F,M,s',by omega,by omega,by omega,D.of (λc e=>b.keep _ _ (by omega) e) s'.w.kt,b.keep _ _ (by omega) g,h,o⟩ b.iS
theorem C9:nv []:=⟨V_,λf h=>by cases h⟩
theorem AO (l:61<=d) (k:b? all<100):∀{vs:g? (V×dT)} {H:Hp} {m:m?} {o:p? V},LW H a tn L m->m+b? vs<=8->(∀p∈vs,eB (fQ H) p.1 p.2/\kx p.2)->
  (∀H' o,LW H' a tn L (m+b? vs)->PQ ϒ [O,d? (ϊ 2),d? (ϊ 136),s,o,o5] H')->
  bG (bu Ā d EE) (d6 Ā d (ϝ 4)) (λH'=>aH H' (ύ all)=d? all/\ao H' (ύ all)=f?) (vs.map (λZ=>Z.1)) [O,d? (ϊ 2),d? (ϊ 136),s,o,o5] H PQ:=by
 intro r;induction r with
 |nil=>
  exact λw c h q=>by rename_i H m o;exact⟨⟨ba (by omega),ff⟩,q H o w⟩
 |cons p vs i=>
  exact λw c h q=>by
   rename_i H m o;simp only[Q?] at c q;show⟨⟨ba (by omega),ff⟩,?_⟩;simp![];have v:=w.app (ό []);obtain⟨j,g⟩:=h p o?;have u:nU (fQ H) (fQ (H++[ό []])):=λm xs e=>aS.mpr ⟨(aS.mp e).1,aC (aS.mp e).2⟩;show sM (L':=[]) l v (by omega) (j.iS u) g (aS.mpr ⟨w.len,aD⟩) C9 λH' t n=>?_;simp![];show i t (by omega) (λP b=>?_) λH' o W=>q H' o (by rw[show m+(b? vs+1)=m+1+b? vs from by omega];exact W);obtain⟨C,f⟩:=h P (q? _ b);exact⟨(C.iS u).iS n,f⟩
theorem Bc (f:61<=d):∀{js:g? V} {H:Hp} {a m:m?} {o5:p? V},LW H a tn L m->m+b? js<=8->a+200 * b? js<60000->
  (∀H' o5,PQ ϒ [o,d? (ϊ 2),d? (ϊ 136),d? (ϊ tn),O,o5] H')->
  bG (bu Ā d DT) (d6 Ā d (ϝ 5)) (λZ=>ŀ) js [o,d? (ϊ 2),d? (ϊ 136),d? (ϊ tn),O,o5] H PQ:=by
 intro l;induction l with
 |nil=>
  exact λw b h q=>by rename_i H a m o5;exact⟨trivial,q H o5⟩
 |cons j js i=>
  exact λw b h q=>by
   rename_i H a m o5;simp only[Q?] at b h;show⟨trivial,?_⟩;simp![];show yJ (by omega) w.d0 w.len (by omega) λv C k a1 u s n e c=>?_;have W:=w.ud u s;show sM f W (by omega) e c W.told.1 W.told.2 λH' g p=>?_;simp![];exact i g (by omega) (by omega) q
def ya (k:m?):g? m?:=if k=0 then[] else if k=1 then[8] else if k=2 then[15] else[1,2]
theorem KU:nv (ya k):=by
 unfold ya;split
 ·exact C9
 split
 ·exact⟨by decide,by decide⟩
 split
 ·exact⟨by decide,by decide⟩
 ·exact⟨by decide,by decide⟩
theorem KB {H:Hp} {k:m?} (h:k<4):bN (ύ [ϊ 137,ϊ 138,ϊ 139,ϊ 140]) (ϋ (k:C?)) H=d? (ϊ (137+k)):=by
 have:k=0\/k=1\/k=2\/k=3:=by omega
 rcases this with rfl|rfl|rfl|rfl<;>rfl
def dK (n:C?):ā:=Ϛ [("script",ϊ 1),("at",ϋ n)]
theorem Pz (h:k<4):(KH c C d (ό []) (ό [ϋ 8]) (ό [ϋ 15]) (ό [ϋ 1,ϋ 2]))[137+k]? = d? (ό (aN (ya k))):=by
 have:k=0\/k=1\/k=2\/k=3:=by omega
 rcases this with rfl|rfl|rfl|rfl<;>kernel_rfl
theorem Z7 {c:ā} {ys:g? C?} (h:k<4) (H:b? ys<=50):LW (KH c (ό (ys.map ϋ)) (dK 1) (ό []) (ό [ϋ 8]) (ό [ϋ 15]) (ό [ϋ 1,ϋ 2])) 1 (137+k) (ya k) 0:=
 ⟨gB,[],[ϖ],[],ZT H,by decide,by decide,by decide,⟨[("script",ϊ 1),("at",ϋ 1)],ys,by kernel_rfl,by decide+kernel,by kernel_rfl,rfl,by omega,by kernel_rfl⟩,Pz h,by omega,KU⟩
theorem Bl {d:m?} {c:ā} {ys:g? C?} (g:b? ys<=50) (l:120<=d) (q:∀H',Q (ϑ j?) H'):bu Ā d C8 [d? (ϊ 1),e?,e?,e?,e?,e?] [c,ό (ys.map ϋ)] (dA Q):=by
 simp![];show(yB j? 120).f (G9 _ _) (λZ=>by omega) ?_;simp![];show⟨aD,?_⟩;rw[fk (r:=[])];rw[show au (A? "at") (ϋ 0) (au "script" (ϊ 1) [])=[(A? "script",ϊ 1),("at",ϋ 0)] from by kernel_rfl];simp only[NT,I?,Q?,J_,ę,m_,Y_,Nat.reduceAdd];show nM (dd:=136) (sc:=1) (a:=0) (xs:=ys) (kvs:=[("script",ϊ 1),("at",ϋ 0)]) (by omega) (by kernel_rfl) (by kernel_rfl) (by kernel_rfl) (by decide) rfl (by omega) (by decide) λz=>?_;rw[show(c::ό (ys.map ϋ)::(HT++[Ϛ [("script",ϊ 1),("at",ϋ 0)],ό [],ό [ϋ 8],ό [ϋ 15],ό [ϋ 1,ϋ 2]])).set 136 (Ϛ (au "at" (ϋ ((0+1:m?):C?)) [("script",ϊ 1),("at",ϋ 0)]))=c::ό (ys.map ϋ)::(HT++[dK 1,ό [],ό [ϋ 8],ό [ϋ 15],ό [ϋ 1,ϋ 2]]) from by kernel_rfl];show bf (dj (H:=c::ό (ys.map ϋ)::(HT++[dK 1,ό [],ό [ϋ 8],ό [ϋ 15],ό [ϋ 1,ϋ 2]])) (z:=z) (n:=4) (by decide) (by decide)) λk i e=>?_;have e:cY p! (ϋ z) (ϋ 4) _=_:=e;simp![e,aw (KB i)];show(yB j? 60).f (Ha _ _ _ _ _ _ _) (λZ=>by omega) ?_;simp![];rw[ba (by decide),bL,eO,ff];show AO (a:=1) (tn:=137+k) (L:=ya k) (m:=0) (vs:=[(X6,KG),(XS,Jm),(XW,Lj),(YT,IM)]) (by omega) (by decide) (Z7 i g) (by decide) (λp h=>?_) λH' o w=>?_
 ·rcases G?.mp h with rfl|h
  ·exact⟨Pw,Ph⟩
  rcases G?.mp h with rfl|h
  ·exact⟨PJ,Qk⟩
  rcases G?.mp h with rfl|h
  ·exact⟨O7,Px⟩
  rcases G?.mp h with rfl|h
  ·exact⟨Pu,PF⟩
  ·cases h
 ·show bf w.Vq λzs hz j=>?_;simp![];show bo (len_list hz (by simp;omega)) ?_;simp![N!];rw[show cY .FloorDiv (ϋ (b? zs:C?)) (ϋ 16) H'=d? (ϋ ((b? zs / 16:m?):C?),H') from by
   exact fc (Km (by omega))]
  show⟨by omega,by omega,?_⟩;show Bc (by omega) w (by simp;omega) (by simp;omega) λb o5=>?_;exact q b
end
abbrev TP:Ź:=.Assign [x! "script" ⟨1057,4,1057,10⟩] (.Subscript (x! "script" ⟨1057,13,1057,19⟩) (.Slice e? (d? (.Constant (.int 50) 0 ⟨1057,21,1057,23⟩)) e? ⟨1057,20,1057,23⟩) ⟨1057,13,1057,24⟩) ⟨1057,4,1057,24⟩
theorem Uh:yG 973=TP::(yG 973).tail:=by kernel_rfl
theorem Qf:d9 59 ⟨nz 973,(pZ 973)⟩ (yG 973).tail=C8:=by kernel_rfl
theorem Fm {cl:k!->p? e!}:∀{xs:g? WData} {vs:g? s?} {as:g? e!},WShape.hasItems R xs .int=j?->ReadsAllW R cl h vs xs as->∃ys:g? C?,b? ys=b? vs/\∀ι h',bJ ι h' (ys.map ϋ) vs:=by
 intro l;induction l with
 |nil=>
  exact λz r=>by
   rename_i vs as;obtain⟨rfl,rfl⟩:=abn r;exact⟨[],rfl,λZ Z=>ϫ⟩
 |cons x xs I=>
  exact λhh r=>by
   rename_i vs as;show XN (aa2 r) λv vs A b a e f g=>?_;subst a;have H:=t?.mp hh;obtain⟨i,rfl⟩:=hasW_int H.1;show bf (readsW_int_inv f) λt q d=>?_;subst q;exact bf (I H.2 g) λys c k=>⟨i::ys,by simp[c],λι h'=>ϧ (.int i t) (k ι h')⟩
theorem SR.start (k:∀b o,(H1 w.params).get? b=d? o->h.get? b=d? o):SR w [] [] h where
 base:=k
 len:=rfl
 cells:=λn c p e=>by simp at e
 two:=λn c p e=>by simp at e
 sep:=λn m p q e=>by simp at e
 above:=λb m=>by obtain⟨n,p,e,_⟩:=m;simp at e
theorem Ko {A:D!} {s:y?} {K E:s?->y?->Prop} {I:O_ s?} {ys:g? C?} (r:cJ A 151) (S:SR w [] [] s.heap) (il:s.heap.IsList a I) (hsz:I.size<=1000) (hl:b? ys=b? I.toList)
  (hv:∀ι h',bJ ι h' (ys.map ϋ) I.toList) (T:gy w [] s (λv Z=>v=ϑ j?) K):n! (j! pw w) A (ŭ (n? 973) [n? a]) K E s:=by
 show yr T4 (nm:=(pZ 973)) (ρ:=[d? (ϩ a),e?,e?,e?,e?,e?]) (args:=[ϩ a]) (H:=[]) (Q:=λv Z=>v=ϑ j?) (by kernel_rfl) (λi x v hi h=>?_) r S (ϧ (.glob a) ϫ) T ?_
 ·match i with
  |0=>
   cases h;show⟨?_,rfl⟩;exact hi
  |1=>cases h
  |2=>cases h
  |3=>cases h
  |4=>cases h
  |5=>cases h
  |i+6=>cases h
 intro A env t K O r S L l T;have g:(pZ 973).Nodup:=by decide+kernel
 rw[Uh];show l? (aaz (aaT (MH (cx:=⟨nz 973,(pZ 973)⟩) (d:=150) (i:=0) (v:=ϩ a) (Q:=λv H=>v=ϩ a/\H=[]) (by kernel_rfl) rfl rfl rfl ⟨rfl,rfl⟩ w A env [] t _ _ O r S L ?_)) (by unfold swapsWithSole;exact jT rfl) (NJ rfl));rintro v H ι v' b ⟨rfl,rfl⟩ sm q N R2;cases R2;show abL<|v? ?_;rw[evalPart_some];show Ŕ<|v? ?_;obtain⟨o,ho,Y,n,hd⟩:=id il;have y:b.heap.get? a=d? o:=q.keep _ _ (λm=>by obtain⟨n,p,e,_⟩:=m;simp at e) (l _ _ ho);obtain⟨P,D,R3⟩:=N.alloc (c:=.dead) {cls:=r? "slice",data:=d! #[T?,z? 50 b.toks,T?]} ⟨_,y! _ rfl,by change(r? "slice":s?)≠r? "tuple";simp⟩;have j:(b.heap.push {cls:=r? "slice",data:=d! #[T?,z? 50 b.toks,T?]}).IsList a I:=⟨o,dg _ _ _ _ y,Y,n,hd⟩
 show Ÿ j.typeIs Ù.lookup (ä j (Í ..) .none (.int _ _) .none (by simp) ?_ ?_) rfl
 ·rw[abT];have X:(ys.map ϋ).take (aaU I.size 50)=(ys.take (aaU I.size 50)).map ϋ:=List.map_take.symm;show fP (P.newList (k:=0) (xs:=(ys.take (aaU I.size 50)).map ϋ) (bJ.arr (X▸bJ.take (hv _ _) (aaU I.size 50)))) λW F R=>?_;have z:b? (ys.take (aaU I.size 50))<=50:=by
   rw[List.length_take,show aaU I.size 50=min 50 I.size from clipAt_nat _ 50];exact S? (ς _ _) (ς _ _)
  generalize ys.take (aaU I.size 50)=zs at *;have st:=(q.trans D).trans F;show qj (cx:=⟨nz 973,(pZ 973)⟩) (d:=150) (i:=0) (v:=ϊ 1) (H:=[.dead,ό (zs.map ϋ)]) (Q:=λu H'=>u=[d? (ϊ 1),e?,e?,e?,e?,e?]/\H'=[.dead,ό (zs.map ϋ)]) g (by kernel_rfl) ⟨rfl,rfl⟩
   w A env _ {b with heap:=_,toks:=b.toks+1} _ _ _ O r W (L.step S st) R ?_
  rintro u H' J s' ⟨rfl,rfl⟩ B C M L';exact(Ey 150 59).2 ⟨nz 973,(pZ 973)⟩ (yG 973).tail _ _ (λf Z H'=>f.val=ϑ j?) g (by rw[Qf];exact Bl (Q:=λv Z=>v=ϑ j?) z (by decide) λZ=>rfl) w A env J s' K _ O r M L' (T.after (cg.trans st.toF (L.step S st) C) L' ((sm.trans ⟨rfl,rfl⟩).trans B))
 ·omega
theorem walk:Walk:=by
 intro w z A mg mb G Y a o pm cd F dV kV ho hod P W d X args vals as H t f i u;obtain⟨K,s⟩:=pre_splitW H;show fL (hasAllW_cons K) λd0 r0 k L M=>?_;subst k;obtain rfl:=hasAllW_nil M;show bf (hasW_list L) λxs q N=>?_;subst q;show XN (aa2 f) λv vs C D r q_5 r1 r2=>?_;subst r;obtain⟨rfl,rfl⟩:=abn r2;show Z0 (readsW_list_inv r1) λal I B l il x q_6=>?_;subst l;have hl:=x.length;show bf (Fm N x) λys j hv=>?_;have hx:b? xs<=63:=by
  have hp:row.pre= .and (.not (.lt (.lit (.int 63)) (.len (.arg 0)))) (.lit (.bool j?)):=by kernel_rfl
  rw[hp] at s;by_cases h:b? xs<=63
  ·exact h
  ·have e:less? (.int 63) (.int (b? xs))=d? j?:=by
    change d? (decide ((63:C?)<(b? xs:C?)))=d? j?;rw[Ħ (by omega)]
   simp[WTm.holds,WTm.value,e] at s
 have O:a=973:=by
  have c:=G.T.g.agree ((ig w.params).keeps Y) iw.name;rw[d] at c;have J:gA w.params I! iw.name=d? (n? 973):=by kernel_rfl
  rw[J] at c;cases c;rfl
 subst O;show Ko (ys:=ys) ⟨by decide,by decide,rfl⟩ (SR.start Y) il (by rw[W?] at hl;omega) j hv ?_;rintro v H' ι' v' s' rfl y st S R;cases R;show⟨x? ⟨_,.bool j?,[],rfl,λZ=>rfl,.bool j?,?_,λZ=>⟨.nil,λZ h=>by cases h⟩⟩,OldK.of_keep λb o e=>st.keep b o (λm=>by obtain⟨n,p,e,_⟩:=m;simp at e) e,y.2,AllBare.of_eq (y.1.trans X)⟩
 kernel_rfl
theorem holds:Ě.Holds:=UZ walk
end
end
end Mine.Internal
theorem PySem.Challenge.cw_xm0344_01_holds : PySem.Challenge.rw_xm0344_01.Holds :=
  Mine.Internal.holds
